import PyProof.Rows.All
import PySem.Challenge.RW_slopelands_k02_row_things
import Wide.All
import OpenK.AllK
import Wide.FinOn
import HandS.ForMost
import HandS.WordsExc
import HandS.Wide
import HandS.Deep
import HandS.TupLe
import HandS.TupAny
import HandS.IsInst
import HandS.FStr
import HandS.Gcd
import HandS.Conv
import HandS.Walk
import HandS.WideBits
import KE.LtData
import HandS.RaiseMore
import KE.IntTextLaws
import HandS.Defaults
import KE.SortData
import HandS.More
import HandS.DictComp
import HandS.SetKeys
import HandS.EndBits
import HandS.Style
import KE.KStateDown
import HandS.Words
import HandS.Head0
import HandS.Head1
import HandS.Head2
import HandS.Head3
import HandS.HeadEnd
import HandS.HeadHook1
import HandS.HeadHook2
import HandS.HeadHook3
import HandS.HeadHook4
section
set_option Elab.async false
set_option linter.all false
set_option maxRecDepth 100000
/-! Sl: data as values (D), a store of mutable objects, and how both lie in the abstract heap. -/
namespace Sl
open PySem PySem.Spec PyProof.Rows L2

/-- a text: its signs -/
abbrev T := List Char
def toS (x : T) : Str := ⟨(x.map Char.toNat).toArray⟩
/-- the greatest length of a text -/
def tMax : Nat := 16000000
abbrev DK := Sum Int T
def toK : DK → Key
  | .inl i => .inl i
  | .inr x => .inr (toS x)
/-- data: what is never changed -/
inductive D where
  | non | bl (b : Bool) | int (i : Int) | str (x : T) | tup (ds : List D) | lst (ds : List D) | dct (ks : List DK) (ds : List D)
/-- a value: data, an object of the store, a caught exception -/
inductive Val where
  | p (d : D) | r (l : Nat) | x (c : Str) (fs : List (Str × D))
/-- an object of the store -/
inductive SObj where
  | lst (vs : List Val) | dct (ks : List DK) (vs : List Val) | ldct (ks : List DK) (vs : List Val) | ins (c : Str) (fs : List (Str × Val)) | scr (ns : List Int)
abbrev Sto := List SObj
abbrev Slots := List (Option Val)
/-- an outcome -/
inductive R (α : Type) where
  | fail | ok (a : α) (st : Sto) | exc (c : Str) (fs : List (Str × D)) (st : Sto)
def R.bind {α β : Type} (m : R α) (f : α → Sto → R β) : R β := match m with
  | .fail => .fail
  | .ok a st => f a st
  | .exc c fs st => .exc c fs st
def R.ofOpt {α : Type} (o : Option α) (st : Sto) : R α := match o with
  | some a => .ok a st
  | none => .fail

abbrev Frag := PySem.W.Frag
mutual
inductive Rp (K : Frag) (F : Addr → Prop) (H : Hp) : V → D → Prop
  | non : Rp K F H .non .non
  | bl (b : Bool) : Rp K F H (.bl b) (.bl b)
  | int (i : Int) : Rp K F H (.int i) (.int i)
  | str (x : T) : x.length ≤ tMax → Rp K F H (.str (toS x)) (.str x)
  | tup {a : Addr} {vs : List V} {ds : List D} : SqT K H a vs → RpL K F H vs ds → Rp K F H (.ref a) (.tup ds)
  | lst {a : Addr} {vs : List V} {ds : List D} : H a = some (.lst vs) → F a → RpL K F H vs ds → Rp K F H (.ref a) (.lst ds)
  | dct {a : Addr} {kvs : List (Key × V)} {ks : List DK} {ds : List D} : Rd H a (.dK kvs) → F a → kvs.map Prod.fst = ks.map toK → RpL K F H (kvs.map Prod.snd) ds → Rp K F H (.ref a) (.dct ks ds)
inductive RpL (K : Frag) (F : Addr → Prop) (H : Hp) : List V → List D → Prop
  | nil : RpL K F H [] []
  | cons {v : V} {vs : List V} {d : D} {ds : List D} : Rp K F H v d → RpL K F H vs ds → RpL K F H (v :: vs) (d :: ds)
end
section
variable {K : Frag} {F F' : Addr → Prop} {H H' : Hp}
/-- what is needed to carry data from one heap to another -/
structure Carry (F F' : Addr → Prop) (H H' : Hp) : Prop where
  tup : ∀ a vs, Rd H a (.tup vs) → Rd H' a (.tup vs)
  lst : ∀ a vs, F a → H a = some (.lst vs) → H' a = some (.lst vs) ∧ F' a
  dct : ∀ a kvs, F a → Rd H a (.dK kvs) → Rd H' a (.dK kvs) ∧ F' a
theorem Carry.sqT (c : Carry F F' H H') {a : Addr} {vs : List V} (h : SqT K H a vs) : SqT K H' a vs := by
  rcases h with h | h
  · exact .inl (c.tup _ _ h)
  · exact .inr h
mutual
theorem Rp.carry (c : Carry F F' H H') : ∀ (d : D) (v : V), Rp K F H v d → Rp K F' H' v d
  | .non, _, h => by cases h; exact .non
  | .bl b, _, h => by cases h; exact .bl b
  | .int i, _, h => by cases h; exact .int i
  | .str x, _, h => by cases h with | str _ q => exact .str x q
  | .tup ds, _, h => by
    cases h with
    | tup h1 h2 => exact .tup (c.sqT h1) (RpL.carry c ds _ h2)
  | .lst ds, _, h => by
    cases h with
    | lst h1 h2 h3 =>
      obtain ⟨q1, q2⟩ := c.lst _ _ h2 h1
      exact .lst q1 q2 (RpL.carry c ds _ h3)
  | .dct ks ds, _, h => by
    cases h with
    | dct h1 h2 h3 h4 =>
      obtain ⟨q1, q2⟩ := c.dct _ _ h2 h1
      exact .dct q1 q2 h3 (RpL.carry c ds _ h4)
theorem RpL.carry (c : Carry F F' H H') : ∀ (ds : List D) (vs : List V), RpL K F H vs ds → RpL K F' H' vs ds
  | [], _, h => by cases h; exact .nil
  | d :: ds, _, h => by
    cases h with
    | cons h1 h2 => exact .cons (Rp.carry c d _ h1) (RpL.carry c ds _ h2)
end
theorem RpL.length : ∀ {vs : List V} {ds : List D}, RpL K F H vs ds → vs.length = ds.length
  | _, _, .nil => rfl
  | _, _, .cons _ h => by simp [RpL.length h]
theorem RpL.get : ∀ {vs : List V} {ds : List D} {i : Nat} {d : D}, RpL K F H vs ds → ds[i]? = some d → ∃ v, vs[i]? = some v ∧ Rp K F H v d
  | _, _, _, _, .nil, e => by simp at e
  | _, _, 0, _, .cons r _, e => by simp at e; subst e; exact ⟨_, rfl, r⟩
  | _, _, i + 1, _, .cons _ t, e => by
    obtain ⟨u, h1, h2⟩ := RpL.get (i := i) t (by simpa using e)
    exact ⟨u, by simpa using h1, h2⟩
theorem RpL.append : ∀ {vs vs' : List V} {ds ds' : List D}, RpL K F H vs ds → RpL K F H vs' ds' → RpL K F H (vs ++ vs') (ds ++ ds')
  | _, _, _, _, .nil, h => h
  | _, _, _, _, .cons r t, h => .cons r (RpL.append t h)
theorem RpL.take : ∀ {vs : List V} {ds : List D} (n : Nat), RpL K F H vs ds → RpL K F H (vs.take n) (ds.take n)
  | _, _, 0, _ => .nil
  | _, _, _ + 1, .nil => .nil
  | _, _, n + 1, .cons r t => .cons r (RpL.take n t)
theorem RpL.drop : ∀ {vs : List V} {ds : List D} (n : Nat), RpL K F H vs ds → RpL K F H (vs.drop n) (ds.drop n)
  | _, _, 0, h => h
  | _, _, _ + 1, .nil => .nil
  | _, _, n + 1, .cons r t => RpL.drop n t
theorem RpL.set {v : V} {d : D} (r : Rp K F H v d) : ∀ {vs : List V} {ds : List D} (n : Nat), RpL K F H vs ds → RpL K F H (vs.set n v) (ds.set n d)
  | _, _, _, .nil => .nil
  | _, _, 0, .cons _ t => .cons r t
  | _, _, n + 1, .cons q t => .cons q (RpL.set r n t)
theorem RpL.rev : ∀ {vs : List V} {ds : List D}, RpL K F H vs ds → RpL K F H vs.reverse ds.reverse
  | _, _, .nil => .nil
  | _, _, .cons r t => by
    rw [List.reverse_cons, List.reverse_cons]
    exact RpL.append (RpL.rev t) (.cons r .nil)
theorem RpL.eraseIdx : ∀ {vs : List V} {ds : List D} (n : Nat), RpL K F H vs ds → RpL K F H (vs.eraseIdx n) (ds.eraseIdx n)
  | _, _, _, .nil => .nil
  | _, _, 0, .cons _ t => t
  | _, _, n + 1, .cons q t => .cons q (RpL.eraseIdx n t)
theorem RpL.nil_iff {vs : List V} {ds : List D} (h : RpL K F H vs ds) : vs = [] ↔ ds = [] := by
  cases h <;> simp
end

theorem nodup_at {α : Type} {N : List α} (hN : N.Nodup) {i j : Nat} {x : α} (a : N[i]? = some x) (b : N[j]? = some x) : i = j := by
  obtain ⟨h1, e1⟩ := List.getElem?_eq_some_iff.mp a
  obtain ⟨h2, e2⟩ := List.getElem?_eq_some_iff.mp b
  exact (List.getElem_inj hN).mp (e1.trans e2.symm)
/-! ### the store in the heap -/
/-- lists that are data: none of the store's, none that is hidden -/
def Fz (hid μ : List Addr) : Addr → Prop := fun a => a ∉ μ ∧ a ∉ hid
/-- a value that may stand in the store, in a slot -/
def RpV (K : Frag) (hid : List Addr) (xs : List (Addr × Addr)) (μ : List Addr) (H : Hp) (v : V) : Val → Prop
  | .p d => Rp K (Fz hid μ) H v d
  | .r l => ∃ a, v = .ref a ∧ μ[l]? = some a
  | .x _ fs => ∃ a d fvs, v = .ref a ∧ (a, d) ∈ xs ∧ H d = some (.xd fvs) ∧ fvs.map Prod.fst = fs.map Prod.fst ∧ RpL K (Fz hid μ) H (fvs.map Prod.snd) (fs.map Prod.snd)
abbrev RpVs (K : Frag) (hid : List Addr) (μ : List Addr) (H : Hp) : List V → List Val → Prop := Paired (RpV K hid [] μ H)
/-- an object at an address -/
def ObjRp (cls : Str → Option Addr) (K : Frag) (hid : List Addr) (μ : List Addr) (H : Hp) (a : Addr) : SObj → Prop
  | .lst vs => ∃ xs, H a = some (.lst xs) ∧ RpVs K hid μ H xs vs
  | .dct ks vs => ∃ kvs, H a = some (.dK kvs) ∧ kvs.map Prod.fst = ks.map toK ∧ RpVs K hid μ H (kvs.map Prod.snd) vs
  | .ldct ks vs => ∃ o kvs, H a = some (.frz o (.dK kvs)) ∧ kvs.map Prod.fst = ks.map toK ∧ RpVs K hid μ H (kvs.map Prod.snd) vs
  | .ins c fs => ∃ C dx fvs, cls c = some C ∧ H a = some (.ins C dx fvs) ∧ fvs.map Prod.fst = fs.map Prod.fst ∧ RpVs K hid μ H (fvs.map Prod.snd) (fs.map Prod.snd)
  | .scr ns => ∃ o, H a = some (.frz o (.lst (ns.map V.int)))
/-- the ground: the written part, the classes by name, the exception that is handled -/
structure Grd where
  K : Frag
  cls : Str → Option Addr
  xs : List (Addr × Addr)
  hid : List Addr
structure Sim (G : Grd) (μ : List Addr) (H : Hp) (st : Sto) : Prop where
  len : μ.length = st.length
  nd : μ.Nodup
  obj : ∀ (l : Nat) (a : Addr) (o : SObj), μ[l]? = some a → st[l]? = some o → ObjRp G.cls G.K G.hid μ H a o
  hid : ∀ a ∈ G.hid, H a ≠ none
  dis : ∀ a ∈ G.hid, a ∉ μ
structure EnvRp (G : Grd) (μ : List Addr) (H : Hp) (env : Slots) (σ : L2.St) : Prop where
  len : env.length = σ.length
  at_ : ∀ (i : Nat) (x : Val), env[i]? = some (some x) → ∃ v, σ[i]? = some (some v) ∧ RpV G.K G.hid G.xs μ H v x
/-- later: more objects, all else kept -/
structure Ext (μ : List Addr) (H : Hp) (μ' : List Addr) (H' : Hp) : Prop where
  pre : μ <+: μ'
  tup : ∀ a vs, Rd H a (.tup vs) → Rd H' a (.tup vs)
  lst : ∀ a vs, a ∉ μ → H a = some (.lst vs) → H' a = some (.lst vs)
  dcx : ∀ a kvs, a ∉ μ → Rd H a (.dK kvs) → H' a = H a
  xd : ∀ a fvs, H a = some (.xd fvs) → H' a = some (.xd fvs)
  fresh : ∀ a ∈ μ', a ∉ μ → H a = none
  on : ∀ a, H a ≠ none → H' a ≠ none
theorem rd_some {H : Hp} {a : Addr} {u : HO} (h : Rd H a u) : H a ≠ none := by
  rcases h with h | ⟨o, h⟩ <;> rw [h] <;> exact fun z => nomatch z
section
variable {G : Grd} {K : Frag} {hid : List Addr} {xs : List (Addr × Addr)} {μ μ' μ'' : List Addr} {H H' H'' : Hp} {st : Sto} {env : Slots} {σ : L2.St}
theorem Ext.refl : Ext μ H μ H := ⟨List.prefix_refl _, fun _ _ h => h, fun _ _ _ h => h, fun _ _ _ _ => rfl, fun _ _ h => h, fun _ h n => absurd h n, fun _ h => h⟩
theorem Ext.dct (e : Ext μ H μ' H') (a : Addr) (kvs : List (Key × V)) (h : a ∉ μ) (r : Rd H a (.dK kvs)) : Rd H' a (.dK kvs) := by
  unfold Rd at r ⊢
  rw [e.dcx a kvs h r]
  exact r
theorem Ext.stay (e : Ext μ H μ' H') {a : Addr} (h : a ∉ μ) {u : HO} (r : Rd H a u) : a ∉ μ' := fun z => rd_some r (e.fresh a z h)
theorem Ext.carry (e : Ext μ H μ' H') : Carry (Fz hid μ) (Fz hid μ') H H' :=
  ⟨e.tup, fun a vs h r => ⟨e.lst a vs h.1 r, e.stay h.1 (.inl r), h.2⟩, fun a vs h r => ⟨e.dct a vs h.1 r, e.stay h.1 r, h.2⟩⟩
theorem Ext.trans (e : Ext μ H μ' H') (f : Ext μ' H' μ'' H'') : Ext μ H μ'' H'' where
  pre := e.pre.trans f.pre
  tup := fun a vs h => f.tup a vs (e.tup a vs h)
  lst := fun a vs h r => f.lst a vs (e.stay h (.inl r)) (e.lst a vs h r)
  dcx := fun a vs h r => (f.dcx a vs (e.stay h r) (e.dct a vs h r)).trans (e.dcx a vs h r)
  xd := fun a vs h => f.xd a vs (e.xd a vs h)
  on := fun a h => f.on a (e.on a h)
  fresh := fun a h n => by
    by_cases q : a ∈ μ'
    · exact e.fresh a q n
    · have z := f.fresh a h q
      cases w : H a with
      | none => rfl
      | some o => exact absurd z (e.on a (by rw [w]; exact fun z => nomatch z))
theorem RpV.ext (e : Ext μ H μ' H') {v : V} : ∀ {x : Val}, RpV K hid xs μ H v x → RpV K hid xs μ' H' v x
  | .p d, h => Rp.carry e.carry d v h
  | .r l, ⟨a, h1, h2⟩ => ⟨a, h1, by
    obtain ⟨t, ht⟩ := e.pre
    rw [← ht, List.getElem?_append_left (List.getElem?_eq_some_iff.mp h2).1]
    exact h2⟩
  | .x _ fs, ⟨a, d, fvs, h1, h2, h3, h4, h5⟩ => ⟨a, d, fvs, h1, h2, e.xd _ _ h3, h4, RpL.carry e.carry _ _ h5⟩
theorem RpVs.ext (e : Ext μ H μ' H') : ∀ {vs : List V} {ys : List Val}, RpVs K hid μ H vs ys → RpVs K hid μ' H' vs ys
  | _, _, .nil => .nil
  | _, _, .cons r t => .cons (RpV.ext e r) (RpVs.ext e t)
theorem EnvRp.ext (e : Ext μ H μ' H') (h : EnvRp G μ H env σ) : EnvRp G μ' H' env σ :=
  ⟨h.len, fun i x q => let ⟨v, h1, h2⟩ := h.at_ i x q; ⟨v, h1, RpV.ext e h2⟩⟩
/-- what stands in the store stands nowhere else -/
theorem Sim.upd {l : Nat} {a : Addr} {o : SObj} {u : HO} (s : Sim G μ H st) (hl : μ[l]? = some a) (e : Ext μ H μ (upd H a u)) (h : ObjRp G.cls G.K G.hid μ (upd H a u) a o) : Sim G μ (upd H a u) (st.set l o) where
  len := by rw [List.length_set]; exact s.len
  nd := s.nd
  hid := fun a h => e.on a (s.hid a h)
  dis := s.dis
  obj := fun j b w hj hw => by
    by_cases q : j = l
    · subst q
      rw [hl] at hj
      cases hj
      have hlt : j < st.length := by rw [← s.len]; exact (List.getElem?_eq_some_iff.mp hl).1
      rw [List.getElem?_set_self hlt] at hw
      cases hw
      exact h
    · have hb : b ≠ a := fun z => by
        subst z
        exact q (nodup_at s.nd hj hl)
      rw [List.getElem?_set_ne (Ne.symm q)] at hw
      have k := s.obj j b w hj hw
      cases w with
      | lst vs =>
        obtain ⟨xs, h1, h2⟩ := k
        exact ⟨xs, by rw [upd_ne hb]; exact h1, RpVs.ext e h2⟩
      | dct ks vs =>
        obtain ⟨kvs, h1, h2, h3⟩ := k
        exact ⟨kvs, by rw [upd_ne hb]; exact h1, h2, RpVs.ext e h3⟩
      | ldct ks vs =>
        obtain ⟨o, kvs, h1, h2, h3⟩ := k
        exact ⟨o, kvs, by rw [upd_ne hb]; exact h1, h2, RpVs.ext e h3⟩
      | ins c fs =>
        obtain ⟨C, dx, fvs, h0, h1, h2, h3⟩ := k
        exact ⟨C, dx, fvs, h0, by rw [upd_ne hb]; exact h1, h2, RpVs.ext e h3⟩
      | scr ns =>
        obtain ⟨o, h1⟩ := k
        exact ⟨o, by rw [upd_ne hb]; exact h1⟩
/-- a new object that is not in the store -/
theorem Ext.new {p : Addr} {u : HO} (hp : H p = none) : Ext μ H μ (upd H p u) where
  pre := List.prefix_refl _
  tup := fun a vs h => by
    have : a ≠ p := fun z => rd_some h (by rw [z]; exact hp)
    unfold Rd at h ⊢
    rw [upd_ne this]; exact h
  lst := fun a vs _ h => by
    have : a ≠ p := fun z => by rw [z, hp] at h; cases h
    rw [upd_ne this]; exact h
  dcx := fun a vs _ h => upd_ne fun z => rd_some h (by rw [z]; exact hp)
  xd := fun a vs h => by
    have : a ≠ p := fun z => by rw [z, hp] at h; cases h
    rw [upd_ne this]; exact h
  fresh := fun a h n => absurd h n
  on := fun a h => by
    by_cases z : a = p
    · rw [z, upd_same]; exact fun z => nomatch z
    · rw [upd_ne z]; exact h
/-- objects are as they were where the heap is, and all contents are carried -/
theorem Sim.carry (s : Sim G μ H st) (e : Ext μ H μ H') (hs : ∀ (l : Nat) (a : Addr), μ[l]? = some a → H' a = H a) : Sim G μ H' st where
  len := s.len
  nd := s.nd
  hid := fun a h => e.on a (s.hid a h)
  dis := s.dis
  obj := fun j b w hj hw => by
    have k := s.obj j b w hj hw
    have hb := hs j b hj
    cases w with
    | lst vs =>
      obtain ⟨xs, h1, h2⟩ := k
      exact ⟨xs, hb.trans h1, RpVs.ext e h2⟩
    | dct ks vs =>
      obtain ⟨kvs, h1, h2, h3⟩ := k
      exact ⟨kvs, hb.trans h1, h2, RpVs.ext e h3⟩
    | ldct ks vs =>
      obtain ⟨o, kvs, h1, h2, h3⟩ := k
      exact ⟨o, kvs, hb.trans h1, h2, RpVs.ext e h3⟩
    | ins c fs =>
      obtain ⟨C, dx, fvs, h0, h1, h2, h3⟩ := k
      exact ⟨C, dx, fvs, h0, hb.trans h1, h2, RpVs.ext e h3⟩
    | scr ns =>
      obtain ⟨o, h1⟩ := k
      exact ⟨o, hb.trans h1⟩
theorem ObjRp.some {cls : Str → Option Addr} {a : Addr} {o : SObj} (h : ObjRp cls K hid μ H a o) : H a ≠ none := by
  cases o with
  | lst vs => obtain ⟨xs, h1, h2⟩ := h; rw [h1]; exact fun z => nomatch z
  | dct ks vs => obtain ⟨xs, h1, h2⟩ := h; rw [h1]; exact fun z => nomatch z
  | ldct ks vs => obtain ⟨o, xs, h1, h2⟩ := h; rw [h1]; exact fun z => nomatch z
  | ins c fs => obtain ⟨C, dx, fvs, h0, h1, h2⟩ := h; rw [h1]; exact fun z => nomatch z
  | scr ns => obtain ⟨o, h1⟩ := h; rw [h1]; exact fun z => nomatch z
theorem Sim.at_some (s : Sim G μ H st) {l : Nat} {a : Addr} (h : μ[l]? = some a) : H a ≠ none := by
  have hl : l < st.length := by rw [← s.len]; exact (List.getElem?_eq_some_iff.mp h).1
  exact (s.obj l a st[l] h (by simp [hl])).some
theorem Sim.new {p : Addr} {u : HO} (s : Sim G μ H st) (hp : H p = none) : Sim G μ (L2.upd H p u) st :=
  s.carry (Ext.new hp) fun l a h => upd_ne fun z => s.at_some h (by rw [z]; exact hp)
/-- a new object of the store -/
theorem Ext.push {p : Addr} {u : HO} (hp : H p = none) : Ext μ H (μ ++ [p]) (L2.upd H p u) :=
  { (Ext.new (μ := μ) (u := u) hp) with
    pre := ⟨[p], rfl⟩
    fresh := fun a h n => by
      rcases List.mem_append.mp h with h | h
      · exact absurd h n
      · rw [List.mem_singleton.mp h]; exact hp }
theorem Sim.push {p : Addr} {u : HO} {o : SObj} (s : Sim G μ H st) (hp : H p = none) (h : ObjRp G.cls G.K G.hid (μ ++ [p]) (L2.upd H p u) p o) : Sim G (μ ++ [p]) (L2.upd H p u) (st ++ [o]) where
  len := by simp [s.len]
  hid := fun a h => (Ext.push (μ := μ) (u := u) hp).on a (s.hid a h)
  dis := fun a h z => by
    rcases List.mem_append.mp z with z | z
    · exact s.dis a h z
    · exact s.hid a h (by rw [List.mem_singleton.mp z]; exact hp)
  nd := by
    rw [List.nodup_append]
    refine ⟨s.nd, by simp, fun a ha b hb => ?_⟩
    rw [List.mem_singleton.mp hb]
    intro z
    subst z
    obtain ⟨l, hl, e⟩ := List.getElem_of_mem ha
    exact s.at_some (l := l) (a := a) (by simp [hl, e]) hp
  obj := fun j b w hj hw => by
    have e := Ext.push (μ := μ) (u := u) hp
    by_cases q : j < μ.length
    · rw [List.getElem?_append_left q] at hj
      rw [List.getElem?_append_left (by rw [← s.len]; exact q)] at hw
      have hb : b ≠ p := fun z => s.at_some hj (by rw [z]; exact hp)
      have k := s.obj j b w hj hw
      cases w with
      | lst vs =>
        obtain ⟨xs, h1, h2⟩ := k
        exact ⟨xs, by rw [upd_ne hb]; exact h1, RpVs.ext e h2⟩
      | dct ks vs =>
        obtain ⟨kvs, h1, h2, h3⟩ := k
        exact ⟨kvs, by rw [upd_ne hb]; exact h1, h2, RpVs.ext e h3⟩
      | ldct ks vs =>
        obtain ⟨o, kvs, h1, h2, h3⟩ := k
        exact ⟨o, kvs, by rw [upd_ne hb]; exact h1, h2, RpVs.ext e h3⟩
      | ins c fs =>
        obtain ⟨C, dx, fvs, h0, h1, h2, h3⟩ := k
        exact ⟨C, dx, fvs, h0, by rw [upd_ne hb]; exact h1, h2, RpVs.ext e h3⟩
      | scr ns =>
        obtain ⟨o, h1⟩ := k
        exact ⟨o, by rw [upd_ne hb]; exact h1⟩
    · have hjl : j = μ.length := by
        have := (List.getElem?_eq_some_iff.mp hj).1
        simp at this
        omega
      subst hjl
      rw [List.getElem?_append_right (Nat.le_refl _)] at hj
      rw [List.getElem?_append_right (by rw [s.len]; exact Nat.le_refl _)] at hw
      simp at hj
      rw [s.len] at hw
      simp at hw
      subst hj
      subst hw
      exact h
end
abbrev Grd.h (G : Grd) (h : List Addr) : Grd := { G with hid := h }
/-! ### more is hidden -/
section
variable {G : Grd} {K : Frag} {hid hid' : List Addr} {xs : List (Addr × Addr)} {μ μ' : List Addr} {H H' : Hp} {st : Sto} {env : Slots} {σ : L2.St}
theorem Ext.carryH (e : Ext μ H μ' H') (hh : ∀ a ∈ hid', a ∈ hid ∨ H a = none) : Carry (Fz hid μ) (Fz hid' μ') H H' :=
  ⟨e.tup, fun a vs h r => ⟨e.lst a vs h.1 r, e.stay h.1 (.inl r), fun z => (hh a z).elim h.2 fun q => by rw [r] at q; cases q⟩,
    fun a vs h r => ⟨e.dct a vs h.1 r, e.stay h.1 r, fun z => (hh a z).elim h.2 fun q => rd_some r q⟩⟩
theorem RpV.extH (e : Ext μ H μ' H') (hh : ∀ a ∈ hid', a ∈ hid ∨ H a = none) {v : V} : ∀ {x : Val}, RpV K hid xs μ H v x → RpV K hid' xs μ' H' v x
  | .p d, h => Rp.carry (e.carryH hh) d v h
  | .r l, h => RpV.ext (hid := hid) e (x := .r l) h
  | .x _ fs, ⟨a, d, fvs, h1, h2, h3, h4, h5⟩ => ⟨a, d, fvs, h1, h2, e.xd _ _ h3, h4, RpL.carry (e.carryH hh) _ _ h5⟩
theorem RpVs.extH (e : Ext μ H μ' H') (hh : ∀ a ∈ hid', a ∈ hid ∨ H a = none) : ∀ {vs : List V} {ys : List Val}, RpVs K hid μ H vs ys → RpVs K hid' μ' H' vs ys
  | _, _, .nil => .nil
  | _, _, .cons r t => .cons (RpV.extH e hh r) (RpVs.extH e hh t)
theorem EnvRp.extH {h h' : List Addr} (e : Ext μ H μ' H') (hh : ∀ a ∈ h', a ∈ h ∨ H a = none) (r : EnvRp (G.h h) μ H env σ) : EnvRp (G.h h') μ' H' env σ :=
  ⟨r.len, fun i x q => let ⟨v, h1, h2⟩ := r.at_ i x q; ⟨v, h1, RpV.extH e hh h2⟩⟩
end
end Sl
end
section
set_option Elab.async false
set_option linter.all false
set_option maxRecDepth 100000
namespace Sl
open PySem PySem.Spec PyProof.Rows L2

abbrev EM := Slots → Sto → R Val
abbrev TM := Slots → Sto → R Bool
abbrev AM := Slots → Sto → R (List Val)
/-- an exception as it lies -/
def ExRp (G : Grd) (μ : List Addr) (H : Hp) (c : Str) (fs : List (Str × D)) (cls : Value) (d : Option Addr) : Prop :=
  ∃ C dx fvs, G.cls c = some C ∧ cls = .ref C ∧ d = some dx ∧ H dx = some (.xd fvs) ∧ fvs.map Prod.fst = fs.map Prod.fst ∧ RpL G.K (Fz G.hid μ) H (fvs.map Prod.snd) (fs.map Prod.snd)
/-- what is wanted of an outcome -/
def Fin {α : Type} (G : Grd) (W : WX) (σ : L2.St) (μ : List Addr) (H : Hp) (r : R α) (P : α → Sto → List Addr → Hp → Prop) : Prop := match r with
  | .fail => False
  | .ok a st => ∀ μ' H', Ext μ H μ' H' → Sim G μ' H' st → P a st μ' H'
  | .exc c fs st => ∀ μ' H' cls d, Ext μ H μ' H' → Sim G μ' H' st → ExRp G μ' H' c fs cls d → W cls d σ H'
section
variable {α β : Type} {G : Grd} {W : WX} {σ : L2.St} {μ μ' : List Addr} {H H' : Hp} {r : R α} {P P' : α → Sto → List Addr → Hp → Prop}
theorem Fin.ext (e : Ext μ H μ' H') (h : Fin G W σ μ H r P) : Fin G W σ μ' H' r P := by
  cases r with
  | fail => exact h
  | ok a st => exact fun μ2 H2 e2 s2 => h μ2 H2 (e.trans e2) s2
  | exc c fs st => exact fun μ2 H2 cls d e2 s2 x => h μ2 H2 cls d (e.trans e2) s2 x
theorem Fin.mono (h : Fin G W σ μ H r P) (k : ∀ a st μ' H', Ext μ H μ' H' → Sim G μ' H' st → P a st μ' H' → P' a st μ' H') : Fin G W σ μ H r P' := by
  cases r with
  | fail => exact h
  | ok a st => exact fun μ2 H2 e2 s2 => k a st μ2 H2 e2 s2 (h μ2 H2 e2 s2)
  | exc c fs st => exact h
theorem Fin.bind {f : α → Sto → R β} {P : β → Sto → List Addr → Hp → Prop} (h : Fin G W σ μ H (r.bind f) P) : Fin G W σ μ H r (fun a st μ' H' => Fin G W σ μ' H' (f a st) P) := by
  cases r with
  | fail => exact h
  | ok a st => exact fun μ2 H2 e2 s2 => Fin.ext e2 h
  | exc c fs st => exact h
theorem Fin.ok {a : α} {st : Sto} (h : Fin G W σ μ H (.ok a st) P) (s : Sim G μ H st) : P a st μ H := h μ H Ext.refl s
end
/-- what is wanted of a value -/
abbrev PV (G : Grd) (Q : VK) : Val → Sto → List Addr → Hp → Prop := fun x _ μ H => ∀ v, RpV G.K G.hid [] μ H v x → Q v H
abbrev PB (Q : Bool → Hp → Prop) : Bool → Sto → List Addr → Hp → Prop := fun b _ _ H => Q b H
abbrev PL (G : Grd) (Q : List V → Hp → Prop) : List Val → Sto → List Addr → Hp → Prop := fun xs _ μ H => ∀ vs, RpVs G.K G.hid μ H vs xs → Q vs H
def RdE (G : Grd) (W : WX) (m : EM) : TE := fun σ H Q => ∃ μ env st, Sim G μ H st ∧ EnvRp G μ H env σ ∧ Fin G W σ μ H (m env st) (PV G Q)
def RdT (G : Grd) (W : WX) (m : TM) : TT := fun σ H Q => ∃ μ env st, Sim G μ H st ∧ EnvRp G μ H env σ ∧ Fin G W σ μ H (m env st) (PB Q)
def RdA (G : Grd) (W : WX) (m : AM) : TA := fun σ H Q => ∃ μ env st, Sim G μ H st ∧ EnvRp G μ H env σ ∧ Fin G W σ μ H (m env st) (PL G Q)
/-- a rule's reading is had from the meaning -/
abbrev DE (X : Cx) (G : Grd) (W : WX) (e : Expr) (m : EM) : Prop := PE X e (RdE G W m)
abbrev DT (X : Cx) (G : Grd) (W : WX) (e : Expr) (m : TM) : Prop := PT X e (RdT G W m)
abbrev DA (X : Cx) (G : Grd) (W : WX) (es : List Expr) (m : AM) : Prop := PA X es (RdA G W m)
theorem PE.by {X : Cx} {e : Expr} {t t' : TE} (h : PE X e t) (k : ∀ σ H Q, t' σ H Q → t σ H Q) : PE X e t' := ⟨fun pins s σ H Q I q => h.run pins s σ H Q I (k σ H Q q)⟩
theorem PT.by {X : Cx} {e : Expr} {t t' : TT} (h : PT X e t) (k : ∀ σ H Q, t' σ H Q → t σ H Q) : PT X e t' := ⟨fun pins s σ H Q I q => h.run pins s σ H Q I (k σ H Q q)⟩
theorem PA.by {X : Cx} {e : List Expr} {t t' : TA} (h : PA X e t) (k : ∀ σ H Q, t' σ H Q → t σ H Q) : PA X e t' := ⟨fun pos pins s σ H Q I q => h.run pos pins s σ H Q I (k σ H Q q)⟩

/-! ### names, constants -/
def mVar (i : Nat) : EM := fun env st => match env[i]? with
  | some (some (.p d)) => .ok (.p d) st
  | some (some (.r l)) => .ok (.r l) st
  | _ => .fail
def mD (d : D) : EM := fun _ st => .ok (.p d) st
section
variable {X : Cx} {G : Grd} {W : WX} {pos : Pos} {a b c : Expr} {ma mb mc : EM}
theorem de_var {i : Nat} {x : Str} (hN : X.N[i]? = some x) (hv : Vis X.env.scope x) (hd : (x == ("__debug__" : Str)) = false) (hcd : (x == ("__classdict__" : Str)) = false) : DE X G W (.Name x pos) (mVar i) :=
  PE.by (pe_var hN hv hd hcd) fun σ H Q ⟨μ, env, st, s, en, f⟩ => by
    unfold mVar at f
    split at f
    · rename_i d e
      obtain ⟨v, h1, h2⟩ := en.at_ i _ e
      exact ⟨v, h1, f.ok s v h2⟩
    · rename_i l e
      obtain ⟨v, h1, h2⟩ := en.at_ i _ e
      exact ⟨v, h1, f.ok s v h2⟩
    · exact f.elim
theorem de_int {i : Int} {j : Nat} : DE X G W (.Constant (.int i) j pos) (mD (.int i)) := PE.by pe_int fun σ H Q ⟨μ, env, st, s, en, f⟩ => f.ok s _ (.int i)
theorem de_bl {i : Bool} {j : Nat} : DE X G W (.Constant (.bool i) j pos) (mD (.bl i)) := PE.by pe_bl fun σ H Q ⟨μ, env, st, s, en, f⟩ => f.ok s _ (.bl i)
theorem de_non {j : Nat} : DE X G W (.Constant .none j pos) (mD .non) := PE.by pe_non fun σ H Q ⟨μ, env, st, s, en, f⟩ => f.ok s _ .non
theorem de_str {i : Str} {x : T} {j : Nat} (e : i = toS x) (hl : x.length ≤ tMax) : DE X G W (.Constant (.str i) j pos) (mD (.str x)) := PE.by pe_str fun σ H Q ⟨μ, env, st, s, en, f⟩ => f.ok s _ (e ▸ .str x hl)
/-- a global constant -/
theorem de_glob {x : Str} {v : V} {u : Value} {d : D} (hg : Gl X x) (hm : X.mg x = some u) (r : RelV v u) (h : ∀ F H, Rp G.K F H v d) (hd : (x == ("__debug__" : Str)) = false) : DE X G W (.Name x pos) (mD d) :=
  PE.by (pe_glob hg hm r hd) fun σ H Q ⟨μ, env, st, s, en, f⟩ => f.ok s _ (h _ _)

/-! ### operations of two values -/
/-- f of values is what the rule r asks -/
def OpSem (G : Grd) (r : R2) (f : Val → Val → Sto → Option (Val × Sto)) : Prop :=
  ∀ (μ : List Addr) (H : Hp) (st : Sto) (v w : V) (x y z : Val) (st' : Sto) (Q : VK), Sim G μ H st → RpV G.K G.hid [] μ H v x → RpV G.K G.hid [] μ H w y → f x y st = some (z, st') →
    (∀ μ' H' q, Ext μ H μ' H' → Sim G μ' H' st' → RpV G.K G.hid [] μ' H' q z → Q q H') → r v w H Q
def R.lift {α : Type} : Option (α × Sto) → R α
  | some (a, st) => .ok a st
  | none => .fail
def m2 (f : Val → Val → Sto → Option (Val × Sto)) (ma mb : EM) : EM := fun env st => (ma env st).bind fun x st1 => (mb env st1).bind fun y st2 => R.lift (f x y st2)
/-- the reading of an operation of two expressions -/
theorem rd2 {r : R2} {f : Val → Val → Sto → Option (Val × Sto)} (o : OpSem G r f) (σ : L2.St) (H : Hp) (Q : VK) (h : RdE G W (m2 f ma mb) σ H Q) : tOp r (RdE G W ma) (RdE G W mb) σ H Q := by
  obtain ⟨μ, env, st, s, en, h⟩ := h
  refine ⟨μ, env, st, s, en, h.bind.mono fun x st1 μ1 H1 e1 s1 h1 v rv => ?_⟩
  refine ⟨μ1, env, st1, s1, en.ext e1, h1.bind.mono fun y st2 μ2 H2 e2 s2 h2 w rw_ => ?_⟩
  cases q : f x y st2 with
  | none =>
    rw [q] at h2
    exact h2.elim
  | some p =>
    obtain ⟨z, st3⟩ := p
    rw [q] at h2
    exact o μ2 H2 st2 v w x y z st3 Q s2 (rv.ext e2) rw_ q fun μ3 H3 u e3 s3 r3 => h2 μ3 H3 e3 s3 u r3
theorem de_op {op : Operator} {r : R2} {f : Val → Val → Sto → Option (Val × Sto)} (ho : OpR X (binaryOp op) r) (o : OpSem G r f) (ha : DE X G W a ma) (hb : DE X G W b mb) : DE X G W (.BinOp a op b pos) (m2 f ma mb) :=
  PE.by (pe_op ho ha hb) (rd2 o)
theorem de_cmp {op : CmpOp} {r : R2} {f : Val → Val → Sto → Option (Val × Sto)} (ho : OpR X (compareOp op) r) (o : OpSem G r f) (ha : DE X G W a ma) (hb : DE X G W b mb) (hm : behindInMarks op b = false) : DE X G W (.Compare a [op] [b] pos) (m2 f ma mb) :=
  PE.by (pe_cmpR ho ha hb hm) (rd2 o)
theorem OpSem.or {r r' : R2} {f f' : Val → Val → Sto → Option (Val × Sto)} (h : OpSem G r f) (h' : OpSem G r' f') : OpSem G (fun x y H Q => r x y H Q ∨ r' x y H Q) (fun x y st => match f x y st with | some p => some p | none => f' x y st) := by
  intro μ H st v w x y z st' Q s rv rw_ e k
  cases q : f x y st with
  | some p =>
    simp only [q] at e
    exact .inl (h μ H st v w x y z st' Q s rv rw_ (by rw [q]; exact e) k)
  | none =>
    simp only [q] at e
    exact .inr (h' μ H st v w x y z st' Q s rv rw_ e k)
/-- ints in, a plain thing out -/
def fI (C : Int → Int → Bool) (g : Int → Int → D) : Val → Val → Sto → Option (Val × Sto)
  | .p (.int i), .p (.int j), st => if C i j = true then some (.p (g i j), st) else none
  | _, _, _ => none
theorem sem_I {C : Int → Int → Prop} {C' : Int → Int → Bool} {g : Int → Int → V} {g' : Int → Int → D} (hC : ∀ i j, C' i j = true → C i j) (hg : ∀ i j F H, Rp G.K F H (g i j) (g' i j)) : OpSem G (rI C g) (fI C' g') := by
  intro μ H st v w x y z st' Q s rv rw_ e k
  unfold fI at e
  split at e
  · split at e
    · rename_i i j hc
      cases e
      cases rv
      cases rw_
      exact ⟨i, j, rfl, rfl, hC _ _ hc, k μ H _ Ext.refl s (hg i j _ _)⟩
    · cases e
  · cases e
theorem sem_I0 {g : Int → Int → V} {g' : Int → Int → D} (hg : ∀ i j F H, Rp G.K F H (g i j) (g' i j)) : OpSem G (rI0 g) (fI (fun _ _ => true) g') := by
  intro μ H st v w x y z st' Q s rv rw_ e k
  unfold fI at e
  split at e
  · rename_i i j
    cases e
    cases rv
    cases rw_
    exact ⟨i, j, rfl, rfl, k μ H _ Ext.refl s (hg i j _ _)⟩
  · cases e
end
end Sl
end
section
set_option Elab.async false
set_option linter.all false
set_option maxRecDepth 100000
namespace Sl
open PySem PySem.Spec PyProof.Rows L2

/-! ### texts -/
theorem char_inj {a b : Char} (h : a.toNat = b.toNat) : a = b := by
  have h1 : a.val = b.val := UInt32.toNat.inj h
  exact Char.ext h1
theorem map_char_inj : ∀ {x y : T}, x.map Char.toNat = y.map Char.toNat → x = y
  | [], [], _ => rfl
  | [], _ :: _, h => by simp at h
  | _ :: _, [], h => by simp at h
  | a :: x, b :: y, h => by
    simp only [List.map_cons, List.cons.injEq] at h
    rw [char_inj h.1, map_char_inj h.2]
theorem toS_inj {x y : T} (h : toS x = toS y) : x = y := by
  unfold toS at h
  have h1 := congrArg (fun s : Str => s.cps.toList) h
  simp only at h1
  exact map_char_inj (by simpa using h1)
theorem toS_len (x : T) : (toS x).length = x.length := by simp [toS, Str.length]
theorem toS_app (x y : T) : toS x ++ toS y = toS (x ++ y) := by
  show Str.append _ _ = _
  simp [toS, Str.append]
theorem strOk_toS (x : T) : PyData.strOk (toS x) = true := by
  unfold PyData.strOk toS
  rw [← Array.all_toList]
  simp only [List.all_map, List.all_eq_true]
  intro c _
  have h := c.valid
  have e : c.toNat = c.val.toNat := rfl
  simp only [UInt32.isValidChar, Nat.isValidChar] at h
  simp only [Function.comp, decide_eq_true_eq]
  omega
theorem toS_beq (x y : T) : (toS x == toS y) = (x == y) := by
  by_cases h : x = y
  · subst h; simp
  · have : toS x ≠ toS y := fun z => h (toS_inj z)
    rw [beq_eq_false_iff_ne.mpr h, beq_eq_false_iff_ne.mpr this]
theorem toK_inj {x y : DK} (h : toK x = toK y) : x = y := by
  cases x <;> cases y <;> simp only [toK, Sum.inl.injEq, Sum.inr.injEq, reduceCtorEq] at h ⊢
  · exact h
  · exact toS_inj h

/-! ### equality -/
mutual
def deq : D → D → Bool
  | .non, .non => true
  | .bl a, .bl b => a == b
  | .bl a, .int j => (if a then 1 else 0) == j
  | .int i, .bl b => i == (if b then 1 else 0)
  | .int i, .int j => i == j
  | .str x, .str y => x == y
  | .tup xs, .tup ys => deqL xs ys
  | .lst xs, .lst ys => deqL xs ys
  | _, _ => false
def deqL : List D → List D → Bool
  | [], [] => true
  | x :: xs, y :: ys => deq x y && deqL xs ys
  | _, _ => false
end
mutual
def toPy : D → PyData
  | .non => .none
  | .bl b => .bool b
  | .int i => .int i
  | .str x => .str (toS x)
  | .tup ds => .tuple (toPyL ds)
  | .lst ds => .list (toPyL ds)
  | .dct _ _ => .none
def toPyL : List D → List PyData
  | [] => []
  | d :: ds => toPy d :: toPyL ds
end
mutual
def noDct : D → Bool
  | .tup ds => noDctL ds
  | .lst ds => noDctL ds
  | .dct _ _ => false
  | _ => true
def noDctL : List D → Bool
  | [] => true
  | d :: ds => noDct d && noDctL ds
end
mutual
def dep : D → Nat
  | .tup ds => depL ds + 1
  | .lst ds => depL ds + 1
  | _ => 0
def depL : List D → Nat
  | [] => 0
  | d :: ds => max (dep d) (depL ds)
end
mutual
theorem dep_eq : ∀ d, (toPy d).depth = dep d
  | .non => rfl
  | .bl _ => rfl
  | .int _ => rfl
  | .str _ => rfl
  | .dct _ _ => rfl
  | .tup ds => by simp only [toPy, PyData.depth, dep]; rw [depL_eq ds]
  | .lst ds => by simp only [toPy, PyData.depth, dep]; rw [depL_eq ds]
theorem depL_eq : ∀ ds, PyData.depthAll (toPyL ds) = depL ds
  | [] => rfl
  | d :: ds => by simp only [toPyL, PyData.depthAll, depL]; rw [dep_eq d, depL_eq ds]
end
mutual
theorem canLay_eq : ∀ d, noDct d = true → (toPy d).canLay0 = true
  | .non, _ => by simp [toPy, PyData.canLay0]
  | .bl _, _ => by simp [toPy, PyData.canLay0]
  | .int _, _ => by simp [toPy, PyData.canLay0]
  | .str x, _ => by simp only [toPy, PyData.canLay0]; exact strOk_toS x
  | .dct _ _, h => by simp [noDct] at h
  | .tup ds, h => by simp only [toPy, PyData.canLay0]; exact canLayL_eq ds (by simpa [noDct] using h)
  | .lst ds, h => by simp only [toPy, PyData.canLay0]; exact canLayL_eq ds (by simpa [noDct] using h)
theorem canLayL_eq : ∀ ds, noDctL ds = true → PyData.canLayAll0 (toPyL ds) = true
  | [], _ => by simp [toPyL, PyData.canLayAll0]
  | d :: ds, h => by
    simp only [noDctL, Bool.and_eq_true] at h
    simp only [toPyL, PyData.canLayAll0, Bool.and_eq_true]
    exact ⟨canLay_eq d h.1, canLayL_eq ds h.2⟩
end
mutual
theorem deq_eq : ∀ d e, noDct d = true → noDct e = true → PyData.eqv (toPy d) (toPy e) = deq d e
  | .non, e, _, h => by cases e <;> simp_all [toPy, PyData.eqv, deq, noDct]
  | .bl _, e, _, h => by cases e <;> simp_all [toPy, PyData.eqv, deq, noDct]
  | .int _, e, _, h => by cases e <;> simp_all [toPy, PyData.eqv, deq, noDct]
  | .str x, e, _, h => by cases e <;> simp_all [toPy, PyData.eqv, deq, noDct, toS_beq]
  | .dct _ _, e, h, _ => by simp [noDct] at h
  | .tup xs, e, h1, h2 => by
    cases e with
    | tup ys =>
      simp only [toPy, PyData.eqv, deq]
      exact deqL_eq xs ys (by simpa [noDct] using h1) (by simpa [noDct] using h2)
    | _ => simp_all [toPy, PyData.eqv, deq, noDct]
  | .lst xs, e, h1, h2 => by
    cases e with
    | lst ys =>
      simp only [toPy, PyData.eqv, deq]
      exact deqL_eq xs ys (by simpa [noDct] using h1) (by simpa [noDct] using h2)
    | _ => simp_all [toPy, PyData.eqv, deq, noDct]
theorem deqL_eq : ∀ xs ys, noDctL xs = true → noDctL ys = true → PyData.eqvAll (toPyL xs) (toPyL ys) = deqL xs ys
  | [], [], _, _ => by simp [toPyL, PyData.eqvAll, deqL]
  | [], _ :: _, _, _ => by simp [toPyL, PyData.eqvAll, deqL]
  | _ :: _, [], _, _ => by simp [toPyL, PyData.eqvAll, deqL]
  | x :: xs, y :: ys, h1, h2 => by
    simp only [noDctL, Bool.and_eq_true] at h1 h2
    simp only [toPyL, PyData.eqvAll, deqL]
    rw [deq_eq x y h1.1 h2.1, deqL_eq xs ys h1.2 h2.2]
end
section
variable {K : Frag} {F : Addr → Prop} {H : Hp}
mutual
theorem Rp.dp : ∀ (d : D) (v : V), noDct d = true → Rp K F H v d → Dp K H v (toPy d)
  | .non, _, _, h => by cases h; exact .non
  | .bl b, _, _, h => by cases h; exact .bl b
  | .int i, _, _, h => by cases h; exact .int i
  | .str x, _, _, h => by cases h with | str _ q => exact .str _
  | .dct _ _, _, q, _ => by simp [noDct] at q
  | .tup ds, _, q, h => by
    cases h with
    | tup h1 h2 => exact .tup h1 (RpL.dp ds _ (by simpa [noDct] using q) h2)
  | .lst ds, _, q, h => by
    cases h with
    | lst h1 h2 h3 => exact .lst (.inl (.inl h1)) (RpL.dp ds _ (by simpa [noDct] using q) h3)
theorem RpL.dp : ∀ (ds : List D) (vs : List V), noDctL ds = true → RpL K F H vs ds → DpAll K H vs (toPyL ds)
  | [], _, _, h => by cases h; exact .nil
  | d :: ds, _, q, h => by
    simp only [noDctL, Bool.and_eq_true] at q
    cases h with
    | cons h1 h2 => exact .cons (Rp.dp d _ q.1 h1) (RpL.dp ds _ q.2 h2)
end
end

/-! ### views of the store -/
def pureL : List Val → Option (List D)
  | [] => some []
  | .p d :: vs => match pureL vs with
    | some ds => some (d :: ds)
    | none => none
  | _ :: _ => none
/-- the items of a list, a tuple -/
def viewL (st : Sto) : Val → Option (List Val)
  | .p (.lst ds) => some (ds.map .p)
  | .r l => match st[l]? with
    | some (.lst vs) => some vs
    | some (.scr ns) => some (ns.map fun n => .p (.int n))
    | _ => none
  | _ => none
def viewT : Val → Option (List D)
  | .p (.tup ds) => some ds
  | _ => none
/-- a value as data, lists of the store too -/
def viewD (st : Sto) : Val → Option D
  | .p d => some d
  | .r l => match st[l]? with
    | some (.lst vs) => match pureL vs with
      | some ds => some (.lst ds)
      | none => none
    | _ => none
  | _ => none
section
variable {G : Grd} {K : Frag} {hid : List Addr} {μ : List Addr} {H : Hp} {st : Sto} {v : V} {x : Val}
theorem RpL.vals : ∀ {vs : List V} {ds : List D}, RpL K (Fz hid μ) H vs ds → RpVs K hid μ H vs (ds.map .p)
  | _, _, .nil => .nil
  | _, _, .cons r t => .cons r (RpL.vals t)
theorem RpVs.pure : ∀ {vs : List V} {xs : List Val} {ds : List D}, RpVs K hid μ H vs xs → pureL xs = some ds → RpL K (Fz hid μ) H vs ds
  | _, _, _, .nil, e => by cases e; exact .nil
  | _, _, _, .cons (a := v) (b := x) r t, e => by
    cases x with
    | p d =>
      unfold pureL at e
      split at e
      · rename_i ds q
        cases e
        exact .cons r (RpVs.pure t q)
      · cases e
    | r l => cases e
    | x c fs => cases e
theorem RpVs.ints : ∀ {ns : List Int}, RpVs K hid μ H (ns.map V.int) (ns.map fun n => .p (.int n))
  | [] => .nil
  | n :: ns => .cons (.int n) RpVs.ints
theorem viewL_sem {ys : List Val} (s : Sim G μ H st) (r : RpV G.K G.hid [] μ H v x) (e : viewL st x = some ys) : ∃ a vs, v = .ref a ∧ SqL G.K H a vs ∧ RpVs G.K G.hid μ H vs ys := by
  unfold viewL at e
  split at e
  · cases e
    cases r with
    | lst h1 h2 h3 => exact ⟨_, _, rfl, .inl (.inl h1), RpL.vals h3⟩
  · obtain ⟨a, rfl, ha⟩ := r
    split at e
    · rename_i vs q
      cases e
      obtain ⟨xs, h1, h2⟩ := s.obj _ _ _ ha q
      exact ⟨a, xs, rfl, .inl (.inl h1), h2⟩
    · rename_i ns q
      cases e
      obtain ⟨o, h1⟩ := s.obj _ _ _ ha q
      exact ⟨a, _, rfl, .inl (.inr ⟨o, h1⟩), RpVs.ints⟩
    · cases e
  · cases e
theorem viewT_sem {ds : List D} (r : RpV G.K G.hid [] μ H v x) (e : viewT x = some ds) : ∃ a vs, v = .ref a ∧ SqT G.K H a vs ∧ RpL G.K (Fz G.hid μ) H vs ds := by
  unfold viewT at e
  split at e
  · cases e
    cases r with
    | tup h1 h2 => exact ⟨_, _, rfl, h1, h2⟩
  · cases e
theorem Rp.any {F : Addr → Prop} {d : D} (h : Rp K F H v d) : Rp K (fun _ => True) H v d := Rp.carry ⟨fun _ _ h => h, fun _ _ _ h => ⟨h, trivial⟩, fun _ _ _ h => ⟨h, trivial⟩⟩ d v h
theorem RpL.any {F : Addr → Prop} {ds : List D} {vs : List V} (h : RpL K F H vs ds) : RpL K (fun _ => True) H vs ds := RpL.carry ⟨fun _ _ h => h, fun _ _ _ h => ⟨h, trivial⟩, fun _ _ _ h => ⟨h, trivial⟩⟩ ds vs h
theorem viewD_sem {d : D} (s : Sim G μ H st) (r : RpV G.K G.hid [] μ H v x) (e : viewD st x = some d) : Rp G.K (fun _ => True) H v d := by
  unfold viewD at e
  split at e
  · cases e
    exact r.any
  · obtain ⟨a, rfl, ha⟩ := r
    split at e
    · rename_i vs q
      split at e
      · rename_i ds qd
        cases e
        obtain ⟨xs, h1, h2⟩ := s.obj _ _ _ ha q
        exact .lst h1 trivial (h2.pure qd).any
      · cases e
    · cases e
  · cases e
end
/-! ### new lists, tuples -/
def newTup (vs : List Val) (st : Sto) : Option (Val × Sto) := match pureL vs with
  | some ds => if ds.length ≤ sizeLine then some (.p (.tup ds), st) else none
  | none => none
/-- md: the list is to stand in the store -/
def newLst (md : Bool) (vs : List Val) (st : Sto) : Option (Val × Sto) := match md with
  | true => if vs.length ≤ sizeLine then some (.r st.length, st ++ [.lst vs]) else none
  | false => match pureL vs with
    | some ds => if ds.length ≤ sizeLine then some (.p (.lst ds), st) else none
    | none => none
section
variable {G : Grd} {μ : List Addr} {H : Hp} {st st' : Sto} {vs : List V} {xs : List Val} {z : Val} {Q : VK}
theorem newTup_sem (s : Sim G μ H st) (r : RpVs G.K G.hid μ H vs xs) (e : newTup xs st = some (z, st')) (k : ∀ μ' H' q, Ext μ H μ' H' → Sim G μ' H' st' → RpV G.K G.hid [] μ' H' q z → Q q H') :
    vs.length ≤ sizeLine ∧ ∀ p, H p = none → Q (.ref p) (upd H p (.tup vs)) := by
  unfold newTup at e
  split at e
  · rename_i ds q
    split at e
    · rename_i hl
      cases e
      have rl := r.pure q
      exact ⟨by rw [rl.length]; exact hl, fun p hp => k μ _ _ (Ext.new hp) (s.new hp) (.tup (.inl (.inl upd_same)) (RpL.carry (Ext.new hp).carry _ _ rl))⟩
    · cases e
  · cases e
theorem newLst_sem {md : Bool} (s : Sim G μ H st) (r : RpVs G.K G.hid μ H vs xs) (e : newLst md xs st = some (z, st')) (k : ∀ μ' H' q, Ext μ H μ' H' → Sim G μ' H' st' → RpV G.K G.hid [] μ' H' q z → Q q H') :
    vs.length ≤ sizeLine ∧ ∀ p, H p = none → Q (.ref p) (upd H p (.lst vs)) := by
  unfold newLst at e
  cases md with
  | true =>
    dsimp only at e
    split at e
    · rename_i hl
      cases e
      refine ⟨by rw [r.length]; exact hl, fun p hp => ?_⟩
      have ep := Ext.push (μ := μ) (u := .lst vs) hp
      refine k (μ ++ [p]) _ _ ep (s.push hp ⟨vs, upd_same, RpVs.ext ep r⟩) ⟨p, rfl, ?_⟩
      rw [← s.len]
      simp
    · cases e
  | false =>
    dsimp only at e
    split at e
    · rename_i ds q
      split at e
      · rename_i hl
        cases e
        have rl := r.pure q
        refine ⟨by rw [rl.length]; exact hl, fun p hp => k μ _ _ (Ext.new hp) (s.new hp) (.lst upd_same ⟨fun hm => ?_, fun hm => s.hid p hm hp⟩ (RpL.carry (Ext.new hp).carry _ _ rl))⟩
        obtain ⟨l, hl, el⟩ := List.getElem_of_mem hm
        exact s.at_some (l := l) (a := p) (by simp [hl, el]) hp
      · cases e
    · cases e
end
end Sl
end
section
set_option Elab.async false
set_option linter.all false
set_option maxRecDepth 100000
namespace Sl
open PySem PySem.Spec PyProof.Rows L2

abbrev F2 := Val → Val → Sto → Option (Val × Sto)
/-- the items of a list that is no script -/
def viewP (st : Sto) : Val → Option (List Val)
  | .p (.lst ds) => some (ds.map .p)
  | .r l => match st[l]? with
    | some (.lst vs) => some vs
    | _ => none
  | _ => none
section
variable {G : Grd} {μ : List Addr} {H : Hp} {st : Sto} {v : V} {x : Val}
theorem viewP_sem {ys : List Val} (s : Sim G μ H st) (r : RpV G.K G.hid [] μ H v x) (e : viewP st x = some ys) : ∃ a vs, v = .ref a ∧ H a = some (.lst vs) ∧ RpVs G.K G.hid μ H vs ys := by
  unfold viewP at e
  split at e
  · cases e
    cases r with
    | lst h1 h2 h3 => exact ⟨_, _, rfl, h1, RpL.vals h3⟩
  · obtain ⟨a, rfl, ha⟩ := r
    split at e
    · rename_i vs q
      cases e
      obtain ⟨xs, h1, h2⟩ := s.obj _ _ _ ha q
      exact ⟨a, xs, rfl, h1, h2⟩
    · cases e
  · cases e
end
/-- + -/
def fAdd (md : Bool) : F2 := fun x y st => match x, y with
  | .p (.int i), .p (.int j) => some (.p (.int (i + j)), st)
  | .p (.str a), .p (.str b) => if a.length + b.length ≤ tMax then some (.p (.str (a ++ b)), st) else none
  | .p (.tup a), .p (.tup b) => if a.length + b.length ≤ sizeLine then some (.p (.tup (a ++ b)), st) else none
  | _, _ => match viewP st x, viewP st y with
    | some a, some b => newLst md (a ++ b) st
    | _, _ => none
theorem RpVs.append {K : Frag} {hid : List Addr} {μ : List Addr} {H : Hp} : ∀ {vs ws : List V} {xs ys : List Val}, RpVs K hid μ H vs xs → RpVs K hid μ H ws ys → RpVs K hid μ H (vs ++ ws) (xs ++ ys)
  | _, _, _, _, .nil, h => h
  | _, _, _, _, .cons r t, h => .cons r (RpVs.append t h)
section
variable {X : Cx} {G : Grd}
def rAddX (K : Frag) : R2 := fun x y H Q => rI0 (fun i j => .int (i + j)) x y H Q ∨ (∃ i j, x = .str i ∧ y = .str j ∧ i.length + j.length ≤ sizeLine ∧ Q (.str (i ++ j)) H) ∨ rCatA K x y H Q ∨ rCat x y H Q
theorem opr_add : OpR X (binaryOp .Add) (rAddX X.K) := op_add.or (op_add_str.or (op_catA.or op_cat))
theorem sem_add {md : Bool} : OpSem G (rAddX G.K) (fAdd md) := by
  intro μ H st v w x y z st' Q s rv rw_ e k
  unfold fAdd at e
  split at e
  · cases e
    cases rv
    cases rw_
    exact .inl ⟨_, _, rfl, rfl, k μ H _ Ext.refl s (.int _)⟩
  · split at e
    · rename_i hl
      cases e
      cases rv
      cases rw_
      have hz : (16000000 : Nat) ≤ sizeLine := by decide
      refine .inr (.inl ⟨_, _, rfl, rfl, by rw [toS_len, toS_len]; exact Nat.le_trans hl hz, ?_⟩)
      rw [toS_app]
      exact k μ H _ Ext.refl s (.str _ (by rw [List.length_append]; exact hl))
    · cases e
  · split at e
    · rename_i hl
      cases e
      cases rv with
      | tup h1 h2 =>
        cases rw_ with
        | tup h3 h4 =>
          refine .inr (.inr (.inl ⟨_, _, _, _, rfl, rfl, h1, h3, by rw [h2.length, h4.length]; exact hl, fun z => ?_, fun _ z => ?_, fun _ _ p hp => ?_⟩))
          · have ez := h2.nil_iff.mp z
            subst ez
            exact k μ H _ Ext.refl s (.tup h3 h4)
          · have ez := h4.nil_iff.mp z
            subst ez
            exact k μ H _ Ext.refl s (.tup h1 (by rw [List.append_nil]; exact h2))
          · exact k μ _ _ (Ext.new hp) (s.new hp) (.tup (.inl (.inl upd_same)) (RpL.carry (Ext.new hp).carry _ _ (RpL.append h2 h4)))
    · cases e
  · split at e
    · rename_i a b qa qb
      obtain ⟨l, vs, rfl, h1, h2⟩ := viewP_sem s rv qa
      obtain ⟨m, ws, rfl, h3, h4⟩ := viewP_sem s rw_ qb
      obtain ⟨n1, n2⟩ := newLst_sem s (RpVs.append h2 h4) e k
      exact .inr (.inr (.inr ⟨l, m, vs, ws, rfl, rfl, h1, h3, by rw [← List.length_append]; exact n1, n2⟩))
    · cases e
/-- -, *, //, %, ** -/
def fSub : F2 := fI (fun _ _ => true) fun i j => .int (i - j)
theorem sem_sub : OpSem G (rI0 fun i j => .int (i - j)) fSub := sem_I0 fun _ _ _ _ => .int _
def mulOk (i j : Int) : Bool := decide (i.natAbs.log2 + j.natAbs.log2 < 100000000)
theorem bits_log (x : Int) : Builtin.Int.intBits x ≤ x.natAbs.log2 + 1 := by
  unfold Builtin.Int.intBits
  split <;> omega
def fMul (md : Bool) : F2 := fun x y st => match x, y with
  | .p (.int i), .p (.int j) => if mulOk i j = true then some (.p (.int (i * j)), st) else none
  | _, .p (.int k) => match viewP st x with
    | some a => if -(2 ^ 63) ≤ k ∧ k < 2 ^ 63 then newLst md (List.replicate k.toNat a).flatten st else none
    | none => none
  | _, _ => none
theorem RpVs.rep {K : Frag} {hid : List Addr} {μ : List Addr} {H : Hp} {vs : List V} {xs : List Val} (h : RpVs K hid μ H vs xs) : ∀ k : Nat, RpVs K hid μ H (List.replicate k vs).flatten (List.replicate k xs).flatten
  | 0 => .nil
  | k + 1 => by
    simp only [List.replicate_succ, List.flatten_cons]
    exact RpVs.append h (RpVs.rep h k)
def rMulX : R2 := fun x y H Q => rI CMulX (fun i j => .int (i * j)) x y H Q ∨ rRep x y H Q
theorem opr_mul : OpR X (binaryOp .Mult) rMulX := op_mulX.or op_rep
theorem flat_len {α : Type} (xs : List α) (k : Nat) : (List.replicate k xs).flatten.length = xs.length * k := by
  induction k with
  | zero => simp
  | succ k ih => rw [List.replicate_succ, List.flatten_cons, List.length_append, ih, Nat.mul_succ, Nat.add_comm]
theorem sem_mul {md : Bool} : OpSem G rMulX (fMul md) := by
  intro μ H st v w x y z st' Q s rv rw_ e k
  unfold fMul at e
  split at e
  · split at e
    · rename_i i j hm
      cases e
      cases rv
      cases rw_
      have hm0 : i.natAbs.log2 + j.natAbs.log2 < 100000000 := of_decide_eq_true hm
      have hm' : CMulX i j := by
        have h1 := bits_log i
        have h2 := bits_log j
        unfold CMulX
        omega
      exact .inl ⟨i, j, rfl, rfl, hm', k μ H _ Ext.refl s (.int _)⟩
    · cases e
  · split at e
    · rename_i a qa
      split at e
      · rename_i hk
        obtain ⟨l, vs, rfl, h1, h2⟩ := viewP_sem s rv qa
        obtain ⟨n1, n2⟩ := newLst_sem s (RpVs.rep h2 _) e k
        cases rw_
        exact .inr ⟨l, _, vs, rfl, rfl, h1, hk.1, hk.2, by rw [← flat_len]; exact n1, n2⟩
      · cases e
    · cases e
  · cases e
def divOk (_ j : Int) : Bool := (decide (0 < j) && decide (j.natAbs.log2 < 9000)) || (decide (j < 0) && decide (j.natAbs < 1073741824))
def fFdiv : F2 := fI divOk fun i j => .int (i.fdiv j)
def rFdivX : R2 := fun x y H Q => rI CDivW (fun i j => .int (i / j)) x y H Q ∨ rI CDivN (fun i j => .int (i.fdiv j)) x y H Q
theorem opr_fdiv : OpR X (binaryOp .FloorDiv) rFdivX := op_fdivW.or op_fdivN
theorem sem_fdiv : OpSem G rFdivX fFdiv := by
  intro μ H st v w x y z st' Q s rv rw_ e k
  unfold fFdiv fI at e
  split at e
  · split at e
    · rename_i i j hc
      cases e
      cases rv
      cases rw_
      have q := k μ H _ Ext.refl s (.int _)
      by_cases hj : 0 < j
      · refine .inl ⟨i, j, rfl, rfl, ⟨hj, ?_⟩, ?_⟩
        · simp only [divOk, Bool.or_eq_true, Bool.and_eq_true, decide_eq_true_eq] at hc
          rcases hc with hc | hc
          · exact hc.2
          · omega
        · show Q (V.int (i / j)) H
          rw [← Int.fdiv_eq_ediv_of_nonneg i (by omega : 0 ≤ j)]
          exact q
      · refine .inr ⟨i, j, rfl, rfl, ?_, q⟩
        simp only [divOk, Bool.or_eq_true, Bool.and_eq_true, decide_eq_true_eq] at hc
        rcases hc with hc | hc
        · omega
        · exact ⟨by omega, hc.2⟩
    · cases e
  · cases e
def fMod : F2 := fI (fun _ j => decide (j ≠ 0)) fun i j => .int (i.fmod j)
theorem sem_mod : OpSem G (rI (fun _ j => j ≠ 0) fun i j => .int (i.fmod j)) fMod := sem_I (fun _ _ h => of_decide_eq_true h) fun _ _ _ _ => .int _
def powOk (i j : Int) : Bool := decide (0 ≤ j ∧ j ≤ 1000000 ∧ i.natAbs < 2 ^ 64)
def fPow : F2 := fI powOk fun i j => .int (i ^ j.toNat)
theorem sem_pow : OpSem G (rI CPow fun i j => .int (i ^ j.toNat)) fPow := sem_I (fun i j h => (of_decide_eq_true (p := 0 ≤ j ∧ j ≤ 1000000 ∧ i.natAbs < 2 ^ 64) h)) fun _ _ _ _ => .int _
/-! ### == and != -/
def eqOk (d e : D) : Bool := noDct d && noDct e && decide (min (dep d) (dep e) ≤ 64)
def fEq (neg : Bool) : F2 := fun x y st => match viewD st x, viewD st y with
  | some d, some e => if eqOk d e = true then some (.p (.bl (if neg then !deq d e else deq d e)), st) else none
  | _, _ => none
def rEqX (K : Frag) (neg : Bool) : R2 := fun x y H Q => ∃ d e, Dp K H x (toPy d) ∧ Dp K H y (toPy e) ∧ noDct d = true ∧ noDct e = true ∧ min (dep d) (dep e) ≤ 64 ∧ Q (.bl (if neg then !deq d e else deq d e)) H
theorem opr_eq (hu : X.A.units + 64 < cLine) : OpR X (compareOp .Eq) (rEqX X.K false) := by
  intro pins s σ H x y v u Q I rx ry h
  obtain ⟨d, e, hd, he, nd, ne, hm, q⟩ := h
  obtain ⟨as, r1⟩ := Dp.reads I _ x v hd rx
  obtain ⟨bs, r2⟩ := Dp.reads I _ y u he ry
  refine SeqAt.compareEq_reads r1 r2 (canLay_eq d nd) (canLay_eq e ne) (by rw [dep_eq, dep_eq]; omega) ⟨.bl _, H, I, rfl, ?_⟩
  rw [deq_eq d e nd ne]
  exact q
theorem opr_ne (hu : X.A.units + 64 < cLine) : OpR X (compareOp .NotEq) (rEqX X.K true) := by
  intro pins s σ H x y v u Q I rx ry h
  obtain ⟨d, e, hd, he, nd, ne, hm, q⟩ := h
  obtain ⟨as, r1⟩ := Dp.reads I _ x v hd rx
  obtain ⟨bs, r2⟩ := Dp.reads I _ y u he ry
  refine SeqAt.compareNe_reads r1 r2 (canLay_eq d nd) (canLay_eq e ne) (by rw [dep_eq, dep_eq]; omega) ⟨.bl _, H, I, rfl, ?_⟩
  rw [deq_eq d e nd ne]
  exact q
theorem sem_eq {neg : Bool} : OpSem G (rEqX G.K neg) (fEq neg) := by
  intro μ H st v w x y z st' Q s rv rw_ e k
  unfold fEq at e
  split at e
  · rename_i d c qd qc
    split at e
    · rename_i hc
      cases e
      simp only [eqOk, Bool.and_eq_true, decide_eq_true_eq] at hc
      exact ⟨d, c, Rp.dp d v hc.1.1 (viewD_sem s rv qd), Rp.dp c w hc.1.2 (viewD_sem s rw_ qc), hc.1.1, hc.1.2, hc.2, k μ H _ Ext.refl s (.bl _)⟩
    · cases e
  · cases e
/-! ### in -/
def dmem (d : D) (ds : List D) : Bool := ds.any fun z => deq z d
def inOk (d : D) (ds : List D) : Bool := noDct d && noDctL ds && decide (min (depL ds) (dep d) ≤ 64)
def fIn (neg : Bool) : F2 := fun x y st => match x, y with
  | .p (.str [c]), .p (.str z) => some (.p (.bl (if neg then !z.contains c else z.contains c)), st)
  | .p d, _ => match viewD st y with
    | some (.lst ds) => if inOk d ds = true then some (.p (.bl (if neg then !dmem d ds else dmem d ds)), st) else none
    | some (.tup ds) => if inOk d ds = true then some (.p (.bl (if neg then !dmem d ds else dmem d ds)), st) else none
    | _ => none
  | _, _ => none
def rInX (K : Frag) (neg : Bool) : R2 := fun x y H Q => (∃ (c : Nat) (z : Str), x = .str ⟨#[c]⟩ ∧ y = .str z ∧ Q (.bl (if neg then !decide (c ∈ z.cps.toList) else decide (c ∈ z.cps.toList))) H) ∨
  ∃ d ds, Dp K H x (toPy d) ∧ (Dp K H y (.list (toPyL ds)) ∨ Dp K H y (.tuple (toPyL ds))) ∧ inOk d ds = true ∧ Q (.bl (if neg then !dmem d ds else dmem d ds)) H
theorem any_deq {d : D} (nd : noDct d = true) : ∀ {ds : List D}, noDctL ds = true → ((toPyL ds).any fun y => PyData.eqv y (toPy d)) = dmem d ds
  | [], _ => rfl
  | e :: ds, h => by
    simp only [noDctL, Bool.and_eq_true] at h
    show (PyData.eqv (toPy e) (toPy d) || (toPyL ds).any fun y => PyData.eqv y (toPy d)) = (deq e d || dmem d ds)
    rw [deq_eq e d h.1 nd, any_deq nd h.2]
theorem opr_in (hu : X.A.units + 65 < cLine) : OpR X (compareOp .In) (rInX X.K false) := by
  intro pins s σ H x y v u Q I rx ry h
  rcases h with ⟨c, z, rfl, rfl, q⟩ | ⟨d, ds, hd, he, ok, q⟩
  · exact op_in_sign pins s σ H _ _ v u Q I rx ry ⟨c, z, rfl, rfl, q⟩
  · simp only [inOk, Bool.and_eq_true, decide_eq_true_eq] at ok
    obtain ⟨as, r1⟩ := Dp.reads I _ x v hd rx
    have q' : EP X pins σ Q (.bool ((toPyL ds).any fun y => PyData.eqv y (toPy d))) s := ⟨.bl _, H, I, rfl, by rw [any_deq ok.1.1 ok.1.2]; exact q⟩
    have hu' : X.A.units + 1 + min (PyData.depthAll (toPyL ds)) (toPy d).depth < cLine := by rw [dep_eq, depL_eq]; omega
    rcases he with he | he
    · obtain ⟨bs, r2⟩ := Dp.reads I _ y u he ry
      exact SeqAt.in_list_reads r2 r1 (canLayL_eq ds ok.1.2) (canLay_eq d ok.1.1) hu' q'
    · obtain ⟨bs, r2⟩ := Dp.reads I _ y u he ry
      exact SeqAt.in_tuple_reads r2 r1 (canLayL_eq ds ok.1.2) (canLay_eq d ok.1.1) hu' q'
theorem opr_notin (hu : X.A.units + 65 < cLine) : OpR X (compareOp .NotIn) (rInX X.K true) := by
  intro pins s σ H x y v u Q I rx ry h
  rcases h with ⟨c, z, rfl, rfl, q⟩ | ⟨d, ds, hd, he, ok, q⟩
  · exact op_notIn_sign pins s σ H _ _ v u Q I rx ry ⟨c, z, rfl, rfl, q⟩
  · simp only [inOk, Bool.and_eq_true, decide_eq_true_eq] at ok
    obtain ⟨as, r1⟩ := Dp.reads I _ x v hd rx
    have q' : EP X pins σ Q (.bool (!(toPyL ds).any fun y => PyData.eqv y (toPy d))) s := ⟨.bl _, H, I, rfl, by rw [any_deq ok.1.1 ok.1.2]; exact q⟩
    have hu' : X.A.units + 1 + min (PyData.depthAll (toPyL ds)) (toPy d).depth < cLine := by rw [dep_eq, depL_eq]; omega
    rcases he with he | he
    · obtain ⟨bs, r2⟩ := Dp.reads I _ y u he ry
      exact SeqAt.notIn_list_reads r2 r1 (canLayL_eq ds ok.1.2) (canLay_eq d ok.1.1) hu' q'
    · obtain ⟨bs, r2⟩ := Dp.reads I _ y u he ry
      exact SeqAt.notIn_tuple_reads r2 r1 (canLayL_eq ds ok.1.2) (canLay_eq d ok.1.1) hu' q'
theorem mem_toS (c : Char) (z : T) : decide (c.toNat ∈ (toS z).cps.toList) = z.contains c := by
  have : (c.toNat ∈ (toS z).cps.toList) ↔ c ∈ z := by
    simp only [toS, List.mem_map]
    constructor
    · rintro ⟨d, hd, e⟩
      rw [← char_inj e]; exact hd
    · exact fun h => ⟨c, h, rfl⟩
  by_cases h : c ∈ z
  · rw [decide_eq_true (this.mpr h)]
    exact (List.contains_iff_mem.mpr h).symm
  · rw [decide_eq_false (fun q => h (this.mp q))]
    exact (Bool.eq_false_iff.mpr fun q => h (List.contains_iff_mem.mp q)).symm
theorem sem_in {neg : Bool} : OpSem G (rInX G.K neg) (fIn neg) := by
  intro μ H st v w x y z st' Q s rv rw_ e k
  unfold fIn at e
  split at e
  · rename_i c z
    cases e
    cases rv
    cases rw_
    refine .inl ⟨c.toNat, toS z, rfl, rfl, ?_⟩
    rw [mem_toS]
    exact k μ H _ Ext.refl s (.bl _)
  · rename_i d hno
    split at e
    · rename_i ds q
      split at e
      · rename_i hc
        cases e
        have hc' := hc
        simp only [inOk, Bool.and_eq_true, decide_eq_true_eq] at hc'
        exact .inr ⟨d, ds, Rp.dp d v hc'.1.1 rv.any, .inl (Rp.dp (.lst ds) w (by simpa [noDct] using hc'.1.2) (viewD_sem s rw_ q)), hc, k μ H _ Ext.refl s (.bl _)⟩
      · cases e
    · rename_i ds q
      split at e
      · rename_i hc
        cases e
        have hc' := hc
        simp only [inOk, Bool.and_eq_true, decide_eq_true_eq] at hc'
        exact .inr ⟨d, ds, Rp.dp d v hc'.1.1 rv.any, .inr (Rp.dp (.tup ds) w (by simpa [noDct] using hc'.1.2) (viewD_sem s rw_ q)), hc, k μ H _ Ext.refl s (.bl _)⟩
      · cases e
    · cases e
  · cases e
end
end Sl
end
section
set_option Elab.async false
set_option linter.all false
set_option maxRecDepth 100000
namespace Sl
open PySem PySem.Spec PyProof.Rows L2

/-! ### order -/
def codes (x : T) : List Nat := x.map Char.toNat
/-- texts in order -/
def tlt (x y : T) : Bool := decide (codes x < codes y)
theorem cps_toS (x : T) : (toS x).cps.toList = codes x := by simp [toS, codes]
/-- data in order, alike ones -/
def dlt (d e : D) : Bool := PySem.W.dataLt (toPy d) (toPy e)
def ltOk (d e : D) : Bool := noDct d && noDct e && PySem.W.alike (toPy d) (toPy e) && decide (min (dep d) (dep e) ≤ 64) && (match d with | .non => false | _ => true)
def fLt : F2 := fun x y st => match x, y with
  | .p (.int i), .p (.int j) => some (.p (.bl (decide (i < j))), st)
  | .p (.str a), .p (.str b) => some (.p (.bl (tlt a b)), st)
  | _, _ => match viewD st x, viewD st y with
    | some d, some e => if ltOk d e = true then some (.p (.bl (dlt d e)), st) else none
    | _, _ => none
def fLe : F2 := fun x y st => match x, y with
  | .p (.int i), .p (.int j) => some (.p (.bl (decide (i ≤ j))), st)
  | .p (.str a), .p (.str b) => some (.p (.bl (!tlt b a)), st)
  | _, _ => none
def fGt : F2 := fun x y st => match x, y with
  | .p (.int i), .p (.int j) => some (.p (.bl (decide (j < i))), st)
  | .p (.str a), .p (.str b) => some (.p (.bl (tlt b a)), st)
  | _, _ => none
def fGe : F2 := fun x y st => match x, y with
  | .p (.int i), .p (.int j) => some (.p (.bl (decide (j ≤ i))), st)
  | .p (.str a), .p (.str b) => some (.p (.bl (!tlt a b)), st)
  | _, _ => none
section
variable {X : Cx} {G : Grd}
def rLtX (K : Frag) : R2 := fun x y H Q => rI0 (fun i j => .bl (decide (i < j))) x y H Q ∨ (∃ i j, x = .str i ∧ y = .str j ∧ Q (.bl (decide (i.cps.toList < j.cps.toList))) H) ∨
  ∃ d e, Dp K H x (toPy d) ∧ Dp K H y (toPy e) ∧ ltOk d e = true ∧ Q (.bl (dlt d e)) H
theorem opr_lt (hu : X.A.units + 64 < cLine) : OpR X (compareOp .Lt) (rLtX X.K) := by
  intro pins s σ H x y v u Q I rx ry h
  rcases h with h | h | ⟨d, e, hd, he, ok, q⟩
  · exact op_lt pins s σ H x y v u Q I rx ry h
  · exact op_lt_str pins s σ H x y v u Q I rx ry h
  · simp only [ltOk, Bool.and_eq_true, decide_eq_true_eq] at ok
    obtain ⟨as, r1⟩ := Dp.reads I _ x v hd rx
    obtain ⟨bs, r2⟩ := Dp.reads I _ y u he ry
    have hn : toPy d ≠ .none := by
      have h2 := ok.2
      have h3 := ok.1.1.1.1
      cases d <;> simp_all [toPy, noDct]
    exact PySem.W.rcLt_alike _ _ X.A s v u as bs r1 r2 ok.1.1.2 hn (by rw [dep_eq, dep_eq]; omega) X.prog X.w X.xe (EP X pins σ Q) ⟨.bl _, H, I, rfl, q⟩
theorem sem_lt : OpSem G (rLtX G.K) fLt := by
  intro μ H st v w x y z st' Q s rv rw_ e k
  unfold fLt at e
  split at e
  · cases e
    cases rv
    cases rw_
    exact .inl ⟨_, _, rfl, rfl, k μ H _ Ext.refl s (.bl _)⟩
  · cases e
    cases rv
    cases rw_
    refine .inr (.inl ⟨_, _, rfl, rfl, ?_⟩)
    rw [cps_toS, cps_toS]
    exact k μ H _ Ext.refl s (.bl _)
  · split at e
    · rename_i d c qd qc
      split at e
      · rename_i hc
        cases e
        have hc' := hc
        simp only [ltOk, Bool.and_eq_true, decide_eq_true_eq] at hc'
        exact .inr (.inr ⟨d, c, Rp.dp d v hc'.1.1.1.1 (viewD_sem s rv qd), Rp.dp c w hc'.1.1.1.2 (viewD_sem s rw_ qc), hc, k μ H _ Ext.refl s (.bl _)⟩)
      · cases e
    · cases e
def rLeX : R2 := fun x y H Q => rI0 (fun i j => .bl (decide (i ≤ j))) x y H Q ∨ ∃ i j, x = .str i ∧ y = .str j ∧ Q (.bl (!decide (j.cps.toList < i.cps.toList))) H
def rGtX : R2 := fun x y H Q => rI0 (fun i j => .bl (decide (j < i))) x y H Q ∨ ∃ i j, x = .str i ∧ y = .str j ∧ Q (.bl (decide (j.cps.toList < i.cps.toList))) H
def rGeX : R2 := fun x y H Q => rI0 (fun i j => .bl (decide (j ≤ i))) x y H Q ∨ ∃ i j, x = .str i ∧ y = .str j ∧ Q (.bl (!decide (i.cps.toList < j.cps.toList))) H
theorem opr_le : OpR X (compareOp .LtE) rLeX := op_le.or op_le_str
theorem opr_gt : OpR X (compareOp .Gt) rGtX := op_gt.or op_gt_str
theorem opr_ge : OpR X (compareOp .GtE) rGeX := op_ge.or op_ge_str
theorem sem_le : OpSem G rLeX fLe := by
  intro μ H st v w x y z st' Q s rv rw_ e k
  unfold fLe at e
  split at e
  · cases e; cases rv; cases rw_
    exact .inl ⟨_, _, rfl, rfl, k μ H _ Ext.refl s (.bl _)⟩
  · cases e; cases rv; cases rw_
    refine .inr ⟨_, _, rfl, rfl, ?_⟩
    rw [cps_toS, cps_toS]
    exact k μ H _ Ext.refl s (.bl _)
  · cases e
theorem sem_gt : OpSem G rGtX fGt := by
  intro μ H st v w x y z st' Q s rv rw_ e k
  unfold fGt at e
  split at e
  · cases e; cases rv; cases rw_
    exact .inl ⟨_, _, rfl, rfl, k μ H _ Ext.refl s (.bl _)⟩
  · cases e; cases rv; cases rw_
    refine .inr ⟨_, _, rfl, rfl, ?_⟩
    rw [cps_toS, cps_toS]
    exact k μ H _ Ext.refl s (.bl _)
  · cases e
theorem sem_ge : OpSem G rGeX fGe := by
  intro μ H st v w x y z st' Q s rv rw_ e k
  unfold fGe at e
  split at e
  · cases e; cases rv; cases rw_
    exact .inl ⟨_, _, rfl, rfl, k μ H _ Ext.refl s (.bl _)⟩
  · cases e; cases rv; cases rw_
    refine .inr ⟨_, _, rfl, rfl, ?_⟩
    rw [cps_toS, cps_toS]
    exact k μ H _ Ext.refl s (.bl _)
  · cases e
/-! ### is -/
def isD : Val → D → Option Bool
  | .p .non, .non => some true
  | .p (.bl a), .bl b => some (a == b)
  | .p _, .non => some false
  | .p _, .bl _ => some false
  | .r _, .non => some false
  | .r _, .bl _ => some false
  | _, _ => none
def fIs (neg : Bool) : F2 := fun x y st => match y with
  | .p d => match isD x d with
    | some b => some (.p (.bl (if neg then !b else b)), st)
    | none => none
  | _ => none
def noTy : V → Prop
  | .ty _ => False
  | _ => True
/-- what stands to the right is None or a bool -/
def rIsX (neg : Bool) : R2 := fun x y H Q => (y = .non ∨ ∃ b, y = .bl b) ∧ noTy x ∧ Q (.bl (if neg then !decide (x = y) else decide (x = y))) H
theorem plain_of {x y : V} {v u : Value} (hx : noTy x) (rx : RelV x v) (hy : y = .non ∨ ∃ b, y = .bl b) (ry : RelV y u) : plainIs v u = true ∧ (v = u ↔ x = y) := by
  rcases hy with rfl | ⟨b, rfl⟩
  · cases ry
    cases x with
    | non => cases rx; exact ⟨rfl, by simp⟩
    | bl _ => cases rx; exact ⟨rfl, by simp⟩
    | int _ => obtain ⟨t, rfl⟩ := rx; exact ⟨rfl, by simp⟩
    | str _ => obtain ⟨t, rfl⟩ := rx; exact ⟨rfl, by simp⟩
    | byt _ => obtain ⟨t, rfl⟩ := rx; exact ⟨rfl, by simp⟩
    | flt _ => obtain ⟨t, rfl⟩ := rx; exact ⟨rfl, by simp⟩
    | ref _ => cases rx; exact ⟨rfl, by simp⟩
    | ty _ => exact hx.elim
  · cases ry
    cases x with
    | non => cases rx; exact ⟨rfl, by simp⟩
    | bl _ => cases rx; exact ⟨rfl, by simp⟩
    | int _ => obtain ⟨t, rfl⟩ := rx; exact ⟨rfl, by simp⟩
    | str _ => obtain ⟨t, rfl⟩ := rx; exact ⟨rfl, by simp⟩
    | byt _ => obtain ⟨t, rfl⟩ := rx; exact ⟨rfl, by simp⟩
    | flt _ => obtain ⟨t, rfl⟩ := rx; exact ⟨rfl, by simp⟩
    | ref _ => cases rx; exact ⟨rfl, by simp⟩
    | ty _ => exact hx.elim
theorem opr_is : OpR X (compareOp .Is) (rIsX false) := by
  intro pins s σ H x y v u Q I rx ry ⟨hy, hx, q⟩
  obtain ⟨h1, h2⟩ := plain_of hx rx hy ry
  by_cases e : x = y
  · have e' := h2.mpr e
    subst e'
    exact wpAny_is_self h1 ⟨.bl true, H, I, rfl, by simpa [e] using q⟩
  · exact wpAny_is_other h1 (fun z => e (h2.mp z)) ⟨.bl false, H, I, rfl, by simpa [e] using q⟩
theorem opr_isnot : OpR X (compareOp .IsNot) (rIsX true) := by
  intro pins s σ H x y v u Q I rx ry ⟨hy, hx, q⟩
  obtain ⟨h1, h2⟩ := plain_of hx rx hy ry
  by_cases e : x = y
  · have e' := h2.mpr e
    subst e'
    exact wpAny_isNot_self h1 ⟨.bl false, H, I, rfl, by simpa [e] using q⟩
  · exact wpAny_isNot_other h1 (fun z => e (h2.mp z)) ⟨.bl true, H, I, rfl, by simpa [e] using q⟩
theorem sem_is {neg : Bool} : OpSem G (rIsX neg) (fIs neg) := by
  intro μ H st v w x y z st' Q s rv rw_ e k
  unfold fIs at e
  split at e
  · rename_i d
    split at e
    · rename_i b qb
      cases e
      have q := k μ H _ Ext.refl s (.bl _)
      have fin : (w = .non ∨ ∃ b, w = .bl b) → noTy v → (decide (v = w) = b) → rIsX neg v w H Q := fun h1 h2 h3 => ⟨h1, h2, by rw [h3]; exact q⟩
      cases d with
      | non =>
        cases rw_
        refine fin (.inl rfl) ?_ ?_
        · cases x with
          | p d => cases rv <;> trivial
          | r l => obtain ⟨a, rfl, _⟩ := rv; trivial
          | x c fs => cases qb
        · cases x with
          | p d => cases rv <;> simp_all [isD]
          | r l => obtain ⟨a, rfl, _⟩ := rv; simp_all [isD]
          | x c fs => cases qb
      | bl b' =>
        cases rw_
        refine fin (.inr ⟨_, rfl⟩) ?_ ?_
        · cases x with
          | p d => cases rv <;> trivial
          | r l => obtain ⟨a, rfl, _⟩ := rv; trivial
          | x c fs => cases qb
        · cases x with
          | p d =>
            cases rv <;> simp_all [isD]
            subst qb
            rfl
          | r l => obtain ⟨a, rfl, _⟩ := rv; simp_all [isD]
          | x c fs => cases qb
      | _ => cases x <;> simp_all [isD]
    · cases e
  · cases e
end
end Sl
end
section
set_option Elab.async false
set_option linter.all false
set_option maxRecDepth 100000
namespace Sl
open PySem PySem.Spec PyProof.Rows L2

/-! ### the tree's plain parts -/
def notStar : Expr → Bool
  | .Starred _ _ => false
  | _ => true
def plainArgs (es : List Expr) : Bool := es.all notStar && decide (es.length < 20)
theorem starEach_plain {e : Expr} (h : notStar e = true) (es : List Expr) (env : Env) : starEach (e :: es) env = (false, eval e env) :: starEach es env := by
  cases e <;> first | rfl | cases h
theorem star_all : ∀ {es : List Expr} (pos : Pos) (env : Env), es.all notStar = true → (backTo pos (starEach es env)).any (·.1) = false
  | [], _, _, _ => rfl
  | e :: es, pos, env, h => by
    simp only [List.all_cons, Bool.and_eq_true] at h
    rw [starEach_plain h.1]
    have ih := star_all pos env h.2
    show (false || (backTo pos (starEach es env)).any (·.1)) = false
    rw [ih]; rfl
theorem star_few : ∀ {es : List Expr} (pos : Pos) (env : Env), es.all notStar = true → (backTo pos (starEach es env)).all (fun x => !x.1) = true
  | [], _, _, _ => rfl
  | e :: es, pos, env, h => by
    simp only [List.all_cons, Bool.and_eq_true] at h
    rw [starEach_plain h.1]
    have ih := star_few pos env h.2
    show (true && (backTo pos (starEach es env)).all (fun x => !x.1)) = true
    rw [ih]; rfl
def notSuper : Expr → Bool
  | .Call (.Name id _) [] [] _ => id != "super"
  | _ => true
theorem base_plain {o : Expr} {f : Str} {env : Env} (h : notSuper o = true) (w : Sem Value) : attributeBase o f env w = w := by
  unfold attributeBase
  split
  · rename_i id p pos
    have h' : (id != "super") = true := h
    simp [h']
  · rfl

/-! ### arguments -/
def aNil : AM := fun _ st => .ok [] st
def aCons (m : EM) (am : AM) : AM := fun env st => (m env st).bind fun x st1 => (am env st1).bind fun xs st2 => .ok (x :: xs) st2
section
variable {X : Cx} {G : Grd} {W : WX} {e : Expr} {es : List Expr} {m : EM} {am : AM} {pos : Pos}
theorem da_nil : DA X G W [] aNil := PA.by pa_nil fun σ H Q ⟨μ, env, st, s, en, f⟩ => f.ok s _ .nil
theorem da_cons (h : DE X G W e m) (hs : DA X G W es am) (hn : notStar e = true) : DA X G W (e :: es) (aCons m am) :=
  PA.by (pa_cons h hs (starEach_plain hn es X.env)) fun σ H Q ⟨μ, env, st, s, en, f⟩ => by
    refine ⟨μ, env, st, s, en, f.bind.mono fun x st1 μ1 H1 e1 s1 h1 v rv => ?_⟩
    refine ⟨μ1, env, st1, s1, en.ext e1, h1.bind.mono fun xs st2 μ2 H2 e2 s2 h2 vs rvs => ?_⟩
    exact h2.ok s2 _ (.cons (rv.ext e2) rvs)

/-! ### calls of what the interpreter brings -/
def CallSem (G : Grd) (r : List V → Hp → VK → Prop) (f : List Val → Sto → Option (Val × Sto)) : Prop :=
  ∀ (μ : List Addr) (H : Hp) (st : Sto) (vs : List V) (xs : List Val) (z : Val) (st' : Sto) (Q : VK), Sim G μ H st → RpVs G.K G.hid μ H vs xs → f xs st = some (z, st') →
    (∀ μ' H' q, Ext μ H μ' H' → Sim G μ' H' st' → RpV G.K G.hid [] μ' H' q z → Q q H') → r vs H Q
abbrev FL := List Val → Sto → Option (Val × Sto)
def mCall (f : FL) (am : AM) : EM := fun env st => (am env st).bind fun xs st1 => R.lift (f xs st1)
theorem rdCall {r : List V → Hp → VK → Prop} {f : FL} (o : CallSem G r f) (σ : L2.St) (H : Hp) (Q : VK) (h : RdE G W (mCall f am) σ H Q) : tCB r (RdA G W am) σ H Q := by
  obtain ⟨μ, env, st, s, en, h⟩ := h
  refine ⟨μ, env, st, s, en, h.bind.mono fun xs st1 μ1 H1 e1 s1 h1 vs rvs => ?_⟩
  cases q : f xs st1 with
  | none =>
    rw [q] at h1
    exact h1.elim
  | some p =>
    obtain ⟨z, st3⟩ := p
    rw [q] at h1
    exact o μ1 H1 st1 vs xs z st3 Q s1 rvs q fun μ3 H3 u e3 s3 r3 => h1 μ3 H3 e3 s3 u r3
theorem de_callB {x : Str} {p : Pos} {id : String} {r : List V → Hp → VK → Prop} {f : FL} (hc : CallR X (.builtin id) r) (o : CallSem G r f) (hg : Gl X x) (hm : X.mg x = none) (hv : bootBuiltins x = some (.builtin id)) (ha : DA X G W (e :: es) am)
    (hp : (e :: es).all notStar = true) (hn : x ≠ "__name__") (hdb : (x == ("__debug__" : Str)) = false) : DE X G W (.Call (.Name x p) (e :: es) [] pos) (mCall f am) := by
  simp only [List.all_cons, Bool.and_eq_true] at hp
  exact PE.by (pe_callB hc hg hm hv ha hn hdb (starEach_plain hp.1 es X.env) (star_all pos X.env hp.2)) (rdCall o)
theorem de_callTy {x : Str} {p : Pos} {id : String} {r : List V → Hp → VK → Prop} {f : FL} (hc : CallR X (.type id) r) (o : CallSem G r f) (hg : Gl X x) (hm : X.mg x = none) (hv : bootBuiltins x = some (.type id)) (ha : DA X G W (e :: es) am)
    (hp : (e :: es).all notStar = true) (hn : x ≠ "__name__") (hdb : (x == ("__debug__" : Str)) = false) : DE X G W (.Call (.Name x p) (e :: es) [] pos) (mCall f am) := by
  simp only [List.all_cons, Bool.and_eq_true] at hp
  exact PE.by (pe_callTy hc hg hm hv ha hn hdb (starEach_plain hp.1 es X.env) (star_all pos X.env hp.2)) (rdCall o)
/-- a name that the module has from another module's functions -/
theorem de_callBfun {x : Str} {p : Pos} {id : String} {r : List V → Hp → VK → Prop} {f : FL} (hc : CallR X (.builtin id) r) (o : CallSem G r f) (hg : Gl X x) (hm : X.mg x = some (.builtin id)) (ha : DA X G W (e :: es) am)
    (hp : (e :: es).all notStar = true) (hdb : (x == ("__debug__" : Str)) = false) : DE X G W (.Call (.Name x p) (e :: es) [] pos) (mCall f am) := by
  simp only [List.all_cons, Bool.and_eq_true] at hp
  exact PE.by (pe_callBfun hc hg hm ha hdb (starEach_plain hp.1 es X.env) (star_all pos X.env hp.2)) (rdCall o)
/-! ### methods of what the interpreter brings -/
def MtSem (G : Grd) (T : String) (r : V → List V → Hp → VK → Prop) (f : Val → List Val → Sto → Option (Val × Sto)) : Prop :=
  ∀ (μ : List Addr) (H : Hp) (st : Sto) (v : V) (x : Val) (vs : List V) (xs : List Val) (z : Val) (st' : Sto) (Q : VK), Sim G μ H st → RpV G.K G.hid [] μ H v x → RpVs G.K G.hid μ H vs xs → f x xs st = some (z, st') →
    (∀ μ' H' q, Ext μ H μ' H' → Sim G μ' H' st' → RpV G.K G.hid [] μ' H' q z → Q q H') → r v vs H Q
/-- the receiver is of the kind -/
def TySem (G : Grd) (T : String) (g : Val → Sto → Bool) : Prop := ∀ (μ : List Addr) (H : Hp) (st : Sto) (v : V) (x : Val), Sim G μ H st → RpV G.K G.hid [] μ H v x → g x st = true → tyV G.K T v H
def mMeth (g : Val → Sto → Bool) (f : Val → List Val → Sto → Option (Val × Sto)) (mo : EM) (am : AM) : EM := fun env st =>
  (mo env st).bind fun x st1 => match g x st1 with
    | true => (am env st1).bind fun xs st2 => R.lift (f x xs st2)
    | false => .fail
theorem rdMeth {T : String} {g : Val → Sto → Bool} {r : V → List V → Hp → VK → Prop} {f : Val → List Val → Sto → Option (Val × Sto)} (ty : TySem G T g) (o : MtSem G T r f) (σ : L2.St) (H : Hp) (Q : VK)
    (h : RdE G W (mMeth g f m am) σ H Q) : tBM G.K T r (RdE G W m) (RdA G W am) σ H Q := by
  obtain ⟨μ, env, st, s, en, h⟩ := h
  refine ⟨μ, env, st, s, en, h.bind.mono fun x st1 μ1 H1 e1 s1 h1 v rv => ?_⟩
  cases q : g x st1 with
  | false =>
    rw [q] at h1
    exact h1.elim
  | true =>
    rw [q] at h1
    refine ⟨ty μ1 H1 st1 v x s1 rv q, μ1, env, st1, s1, en.ext e1, Fin.mono (Fin.bind h1) fun xs st2 μ2 H2 e2 s2 h2 vs rvs => ?_⟩
    cases q2 : f x xs st2 with
    | none =>
      rw [q2] at h2
      exact h2.elim
    | some p =>
      obtain ⟨z, st3⟩ := p
      rw [q2] at h2
      exact o μ2 H2 st2 v x vs xs z st3 Q s2 (rv.ext e2) rvs q2 fun μ3 H3 u e3 s3 r3 => h2 μ3 H3 e3 s3 u r3
theorem kw_few {pos : Pos} {es : List Expr} {env : Env} (h : plainArgs es = true) : ((backTo pos (starEach es env)).all (fun x => !x.1) && (backToKw pos (keywordEach [] env)).all (fun x => x.1.isSome)
      && decide (es.length + ([] : List Keyword).length + (if ([] : List Keyword).isEmpty then 0 else 1) < 30)) = true := by
  simp only [plainArgs, Bool.and_eq_true, decide_eq_true_eq] at h
  rw [star_few pos env h.1]
  simp [backToKw, keywordEach]
  omega
theorem de_bm {o : Expr} {T id : String} {name : Str} {apos : Pos} {mo : EM} {g : Val → Sto → Bool} {r : V → List V → Hp → VK → Prop} {f : Val → List Val → Sto → Option (Val × Sto)} (hK : X.K = G.K) (pa : PlainAttrs T) (slot : Slot T name id) (hty : typeOf (.builtin id) = pure (.type "method_descriptor"))
    (hm : MtR X id r) (ty : TySem G T g) (sem : MtSem G T r f) (ho : DE X G W o mo) (ha : DA X G W (e :: es) am) (hb : notSuper o = true) (hp : plainArgs (e :: es) = true) (hl : (apos.endLine == pos.line) = true) :
    DE X G W (.Call (.Attribute o name apos) (e :: es) [] pos) (mMeth g f mo am) := by
  have hp' := hp
  simp only [plainArgs, List.all_cons, Bool.and_eq_true] at hp'
  refine PE.by (pe_bm pa slot hty hm ho ha (base_plain hb _) (kw_few hp) hl (starEach_plain hp'.1.1 es X.env) (star_all pos X.env hp'.1.2)) ?_
  rw [hK]
  exact rdMeth ty sem
def mMeth0 (g : Val → Sto → Bool) (f : Val → List Val → Sto → Option (Val × Sto)) (mo : EM) : EM := fun env st =>
  (mo env st).bind fun x st1 => match g x st1 with
    | true => R.lift (f x [] st1)
    | false => .fail
theorem de_bm0 {o : Expr} {T id : String} {name : Str} {apos : Pos} {mo : EM} {g : Val → Sto → Bool} {r : V → List V → Hp → VK → Prop} {f : Val → List Val → Sto → Option (Val × Sto)} (hK : X.K = G.K) (pa : PlainAttrs T) (slot : Slot T name id) (hty : typeOf (.builtin id) = pure (.type "method_descriptor"))
    (hm : MtR X id r) (ty : TySem G T g) (sem : MtSem G T r f) (ho : DE X G W o mo) (hb : notSuper o = true) (hl : (apos.endLine == pos.line) = true) :
    DE X G W (.Call (.Attribute o name apos) [] [] pos) (mMeth0 g f mo) := by
  refine PE.by (pe_bm0 pa slot hty hm ho (base_plain hb _) hl) ?_
  rw [hK]
  rintro σ H Q ⟨μ, env, st, s, en, h⟩
  refine ⟨μ, env, st, s, en, h.bind.mono fun x st1 μ1 H1 e1 s1 h1 v rv => ?_⟩
  cases q : g x st1 with
  | false =>
    rw [q] at h1
    exact h1.elim
  | true =>
    rw [q] at h1
    refine ⟨ty μ1 H1 st1 v x s1 rv q, ?_⟩
    cases q2 : f x [] st1 with
    | none =>
      rw [q2] at h1
      exact h1.elim
    | some p =>
      obtain ⟨z, st3⟩ := p
      rw [q2] at h1
      exact sem μ1 H1 st1 v x [] [] z st3 Q s1 rv .nil q2 fun μ3 H3 u e3 s3 r3 => h1 μ3 H3 e3 s3 u r3
/-! ### calls of defs -/
abbrev FS := List Val → Sto → R Val
/-- what a def promises: it does as F says -/
def spF (G : Grd) (n : Nat) (F : FS) : Sp := fun vs H Q E => ∃ μ st xs, Sim G μ H st ∧ RpVs G.K G.hid μ H vs xs ∧ xs.length = n ∧ Fin G (fun cls d _ H' => E cls d H') [] μ H (F xs st) (PV G Q)
def mApp (n : Nat) (F : FS) (am : AM) : EM := fun env st => (am env st).bind fun xs st1 => if xs.length = n then F xs st1 else .fail
theorem de_call {x : Str} {p : Pos} {k n : Nat} {f : Addr} {fd : FuncData} {ps : List Str} {F : FS} (hF : FnOk X.prog X.w X.K X.mg X.base (L2.CX X.prog X.w) k f fd ps (spF G n F)) (hr : Room k X.A) (hg : Gl X x) (hm : X.mg x = some (.ref f)) (hk : PySem.W.keepIn X.K (.ref f) = true) (hb : Binds X.K fd ps [])
    (tk : Takes X W) (ha : DA X G W (e :: es) am) (hp : (e :: es).all notStar = true) (hdb : (x == ("__debug__" : Str)) = false) : DE X G W (.Call (.Name x p) (e :: es) [] pos) (mApp n F am) := by
  simp only [List.all_cons, Bool.and_eq_true] at hp
  refine PE.by (pe_callS hF hr hg hm hk hb (fun σ => passAt tk σ) ha hdb (starEach_plain hp.1 es X.env) (star_all pos X.env hp.2)) ?_
  rintro σ H Q ⟨μ, env, st, s, en, h⟩
  refine ⟨μ, env, st, s, en, h.bind.mono fun xs st1 μ1 H1 e1 s1 h1 vs rvs => ?_⟩
  by_cases hn : xs.length = n
  · rw [if_pos hn] at h1
    refine ⟨μ1, st1, xs, s1, rvs, hn, ?_⟩
    cases q : F xs st1 with
    | fail => rw [q] at h1; exact h1
    | ok a st2 => rw [q] at h1; exact h1
    | exc c fs st2 => rw [q] at h1; exact h1
  · rw [if_neg hn] at h1
    exact h1.elim
end
end Sl
end
section
set_option Elab.async false
set_option linter.all false
set_option maxRecDepth 100000
namespace Sl
open PySem PySem.Spec PyProof.Rows L2

/-! ### numbers as texts -/
def decT (i : Int) : T := (toString i).toList
theorem ofString_toS (z : String) : Str.ofString z = toS z.toList := Str.ofString_eq_toList z
def isDig (c : Char) : Bool := decide (48 ≤ c.toNat) && decide (c.toNat ≤ 57)
def digVal (x : T) : Nat := x.foldl (fun acc c => acc * 10 + (c.toNat - 48)) 0
/-- the integer that a text of digits is -/
def readInt : T → Option Int
  | [] => none
  | c :: cs => if c = '-' then (if cs ≠ [] ∧ cs.all isDig = true then some (-((digVal cs : Nat) : Int)) else none) else (if (c :: cs).all isDig = true then some ((digVal (c :: cs) : Nat) : Int) else none)
theorem digVal_codes (x : T) : NumText.digitsVal (codes x) = digVal x := by
  unfold NumText.digitsVal digVal codes
  rw [List.foldl_map]
theorem allDigits_codes {x : T} (h : x.all isDig = true) : NumText.AllDigits (codes x) := by
  intro c hc
  unfold codes at hc
  obtain ⟨d, hd, rfl⟩ := List.mem_map.mp hc
  have := List.all_eq_true.mp h d hd
  simp only [isDig, Bool.and_eq_true, decide_eq_true_eq] at this
  exact this
theorem readInt_text {x : T} {n : Int} (h : readInt x = some n) (hl : x.length ≤ 640) : intText? (toS x) = some n := by
  cases x with
  | nil => cases h
  | cons c cs =>
    have hlen : (toS (c :: cs)).length ≤ 4300 := by rw [toS_len]; omega
    by_cases hc : c = '-'
    · have h' : (if cs ≠ [] ∧ cs.all isDig = true then some (-((digVal cs : Nat) : Int)) else none) = some n := by
        have := h
        unfold readInt at this
        dsimp only at this
        rwa [if_pos hc] at this
      by_cases hq : cs ≠ [] ∧ cs.all isDig = true
      · rw [if_pos hq] at h'
        cases h'
        have hx : (toS (c :: cs)).cps.toList = 45 :: codes cs := by rw [cps_toS, hc]; rfl
        rw [intText_neg hx (allDigits_codes hq.2) (fun z => hq.1 (by cases cs with | nil => rfl | cons _ _ => simp [codes] at z)) hlen, digVal_codes]
      · rw [if_neg hq] at h'
        cases h'
    · have h' : (if (c :: cs).all isDig = true then some ((digVal (c :: cs) : Nat) : Int) else none) = some n := by
        have := h
        unfold readInt at this
        dsimp only at this
        rwa [if_neg hc] at this
      by_cases hq : (c :: cs).all isDig = true
      · rw [if_pos hq] at h'
        cases h'
        rw [intText_digits (by rw [cps_toS]; exact allDigits_codes hq) (by rw [cps_toS]; simp [codes]) hlen, cps_toS, digVal_codes]
      · rw [if_neg hq] at h'
        cases h'
theorem decT_len {i : Int} (h : i.natAbs.log2 < 1920) : (decT i).length ≤ tMax := by
  have hb : i.natAbs < 10 ^ 1920 := by
    have h1 : i.natAbs < 2 ^ 1920 := by
      by_cases z : i.natAbs = 0
      · rw [z]; exact Nat.two_pow_pos _
      · exact (Nat.log2_lt z).mp h
    exact Nat.lt_of_lt_of_le h1 (Nat.pow_le_pow_left (by decide) _)
  have key : ∀ n : Nat, n < 10 ^ 1920 → (Nat.toDigits 10 n).length ≤ 1920 := fun n hn => by
    have := TL.numL_len (n := n) (k := 1920) (by decide) hn
    unfold TL.numL at this
    simpa using this
  have ht : 1921 ≤ tMax := by decide
  unfold decT
  cases i with
  | ofNat n =>
    have e : toString (Int.ofNat n) = String.ofList (Nat.toDigits 10 n) := rfl
    rw [e, String.toList_ofList]
    have := key n hb
    omega
  | negSucc n =>
    have e : toString (Int.negSucc n) = "-" ++ String.ofList (Nat.toDigits 10 (n + 1)) := rfl
    have := key (n + 1) hb
    have h2 : "-".toList.length = 1 := rfl
    have h3 : (String.ofList (Nat.toDigits 10 (n + 1))).toList = Nat.toDigits 10 (n + 1) := String.toList_ofList
    rw [e, String.toList_append, List.length_append, h2, h3]
    omega

/-! ### len, all, any, tuple, list -/
def fLen : FL := fun xs st => match xs with
  | [.p (.str x)] => some (.p (.int x.length), st)
  | [.p (.tup ds)] => some (.p (.int ds.length), st)
  | [x] => match viewL st x with
    | some ys => some (.p (.int ys.length), st)
    | none => none
  | _ => none
section
variable {X : Cx} {G : Grd}
theorem RpVs.one {K : Frag} {hid : List Addr} {μ : List Addr} {H : Hp} {vs : List V} {x : Val} (h : RpVs K hid μ H vs [x]) : ∃ v, vs = [v] ∧ RpV K hid [] μ H v x := by
  cases h with
  | cons r t => cases t; exact ⟨_, rfl, r⟩
theorem RpVs.two {K : Frag} {hid : List Addr} {μ : List Addr} {H : Hp} {vs : List V} {x y : Val} (h : RpVs K hid μ H vs [x, y]) : ∃ v w, vs = [v, w] ∧ RpV K hid [] μ H v x ∧ RpV K hid [] μ H w y := by
  cases h with
  | cons r t =>
    obtain ⟨w, rfl, q⟩ := RpVs.one t
    exact ⟨_, _, rfl, r, q⟩
def rLenX (K : Frag) : List V → Hp → VK → Prop := fun xs H Q => ∃ x n, xs = [x] ∧ LenV K x H n ∧ Q (.int n) H
theorem sem_len : CallSem G (rLenX G.K) fLen := by
  intro μ H st vs xs z st' Q s rv e k
  unfold fLen at e
  split at e
  · cases e
    obtain ⟨v, rfl, r⟩ := rv.one
    cases r with
    | str x hl =>
      have hz : (16000000 : Nat) ≤ sizeLine := by decide
      exact ⟨_, _, rfl, ⟨by rw [toS_len]; exact Nat.le_trans hl hz, (toS_len _).symm⟩, k μ H _ Ext.refl s (.int _)⟩
  · cases e
    obtain ⟨v, rfl, r⟩ := rv.one
    cases r with
    | tup h1 h2 => exact ⟨_, _, rfl, .inr ⟨_, h1, h2.length.symm⟩, k μ H _ Ext.refl s (.int _)⟩
  · split at e
    · rename_i ys q
      cases e
      obtain ⟨v, rfl, r⟩ := rv.one
      obtain ⟨a, ws, rfl, h1, h2⟩ := viewL_sem s r q
      exact ⟨_, _, rfl, .inl ⟨_, h1, h2.length.symm⟩, k μ H _ Ext.refl s (.int _)⟩
    · cases e
  · cases e
def bools : List Val → Option (List Bool)
  | [] => some []
  | .p (.bl b) :: vs => match bools vs with
    | some bs => some (b :: bs)
    | none => none
  | _ :: _ => none
theorem RpVs.bools {K : Frag} {hid : List Addr} {μ : List Addr} {H : Hp} : ∀ {vs : List V} {xs : List Val} {bs : List Bool}, RpVs K hid μ H vs xs → bools xs = some bs → vs = bs.map V.bl
  | _, _, _, .nil, e => by cases e; rfl
  | _, _, _, .cons (a := v) (b := x) (l₁ := vt) (l₂ := xt) r t, e => by
    cases x with
    | p d =>
      cases d with
      | bl b =>
        cases q : Sl.bools xt with
        | none => simp [Sl.bools, q] at e
        | some bs =>
          simp [Sl.bools, q] at e
          subst e
          cases r
          rw [RpVs.bools t q]; rfl
      | _ => simp [Sl.bools] at e
    | _ => simp [Sl.bools] at e
def fAll (any : Bool) : FL := fun xs st => match xs with
  | [x] => match viewL st x with
    | some ys => match bools ys with
      | some bs => some (.p (.bl (if any then bs.any id else bs.all id)), st)
      | none => none
    | none => none
  | _ => none
theorem sem_all : CallSem G (rAll G.K) (fAll false) := by
  intro μ H st vs xs z st' Q s rv e k
  unfold fAll at e
  split at e
  · split at e
    · rename_i ys q
      split at e
      · rename_i bs qb
        cases e
        obtain ⟨v, rfl, r⟩ := rv.one
        obtain ⟨a, ws, rfl, h1, h2⟩ := viewL_sem s r q
        have := h2.bools qb
        subst this
        exact ⟨a, bs, rfl, h1, k μ H _ Ext.refl s (.bl _)⟩
      · cases e
    · cases e
  · cases e
theorem sem_any : CallSem G (rAny G.K) (fAll true) := by
  intro μ H st vs xs z st' Q s rv e k
  unfold fAll at e
  split at e
  · split at e
    · rename_i ys q
      split at e
      · rename_i bs qb
        cases e
        obtain ⟨v, rfl, r⟩ := rv.one
        obtain ⟨a, ws, rfl, h1, h2⟩ := viewL_sem s r q
        have := h2.bools qb
        subst this
        exact ⟨a, bs, rfl, h1, k μ H _ Ext.refl s (.bl _)⟩
      · cases e
    · cases e
  · cases e
/-- tuple(x) -/
def fTuple : FL := fun xs st => match xs with
  | [.p (.tup ds)] => some (.p (.tup ds), st)
  | [x] => match viewL st x with
    | some ys => newTup ys st
    | none => none
  | _ => none
def rTupleX (K : Frag) : List V → Hp → VK → Prop := fun xs H Q => ∃ p ys, xs = [.ref p] ∧ ((SqL K H p ys ∧ ∀ l, H l = none → Q (.ref l) (upd H l (.tup ys))) ∨ (SqT K H p ys ∧ Q (.ref p) H))
theorem sem_tuple : CallSem G (rTupleX G.K) fTuple := by
  intro μ H st vs xs z st' Q s rv e k
  unfold fTuple at e
  split at e
  · cases e
    obtain ⟨v, rfl, r⟩ := rv.one
    cases r with
    | tup h1 h2 => exact ⟨_, _, rfl, .inr ⟨h1, k μ H _ Ext.refl s (.tup h1 h2)⟩⟩
  · split at e
    · rename_i ys q
      obtain ⟨v, rfl, r⟩ := rv.one
      obtain ⟨a, ws, rfl, h1, h2⟩ := viewL_sem s r q
      exact ⟨_, _, rfl, .inl ⟨h1, (newTup_sem s h2 e k).2⟩⟩
    · cases e
  · cases e
/-- list(x) -/
def fList (md : Bool) : FL := fun xs st => match xs with
  | [.p (.tup ds)] => newLst md (ds.map .p) st
  | [x] => match viewL st x with
    | some ys => newLst md ys st
    | none => none
  | _ => none
def rListX (K : Frag) : List V → Hp → VK → Prop := fun xs H Q => ∃ p ys, xs = [.ref p] ∧ (SqL K H p ys ∨ SqT K H p ys) ∧ ∀ l, H l = none → Q (.ref l) (upd H l (.lst ys))
theorem sem_list {md : Bool} : CallSem G (rListX G.K) (fList md) := by
  intro μ H st vs xs z st' Q s rv e k
  unfold fList at e
  split at e
  · obtain ⟨v, rfl, r⟩ := rv.one
    cases r with
    | tup h1 h2 => exact ⟨_, _, rfl, .inr h1, (newLst_sem s (RpL.vals h2) e k).2⟩
  · split at e
    · rename_i ys q
      obtain ⟨v, rfl, r⟩ := rv.one
      obtain ⟨a, ws, rfl, h1, h2⟩ := viewL_sem s r q
      exact ⟨_, _, rfl, .inl h1, (newLst_sem s h2 e k).2⟩
    · cases e
  · cases e
/-! ### numbers -/
def intL : List Val → Option (List Int)
  | [] => some []
  | .p (.int b) :: vs => match intL vs with
    | some bs => some (b :: bs)
    | none => none
  | _ :: _ => none
theorem RpVs.intsOf {K : Frag} {hid : List Addr} {μ : List Addr} {H : Hp} : ∀ {vs : List V} {xs : List Val} {bs : List Int}, RpVs K hid μ H vs xs → intL xs = some bs → vs = bs.map V.int
  | _, _, _, .nil, e => by cases e; rfl
  | _, _, _, .cons (a := v) (b := x) (l₁ := vt) (l₂ := xt) r t, e => by
    cases x with
    | p d =>
      cases d with
      | int b =>
        cases q : Sl.intL xt with
        | none => simp [Sl.intL, q] at e
        | some bs =>
          simp [Sl.intL, q] at e
          subst e
          cases r
          rw [RpVs.intsOf t q]; rfl
      | _ => simp [Sl.intL] at e
    | _ => simp [Sl.intL] at e
def fSum : FL := fun xs st => match xs with
  | [x] => match viewL st x with
    | some ys => match intL ys with
      | some ns => some (.p (.int ns.sum), st)
      | none => none
    | none => none
  | _ => none
theorem sem_sum : CallSem G (rSum G.K) fSum := by
  intro μ H st vs xs z st' Q s rv e k
  unfold fSum at e
  split at e
  · split at e
    · rename_i ys q
      split at e
      · rename_i ns qb
        cases e
        obtain ⟨v, rfl, r⟩ := rv.one
        obtain ⟨a, ws, rfl, h1, h2⟩ := viewL_sem s r q
        have := h2.intsOf qb
        subst this
        exact ⟨a, ns, rfl, h1, k μ H _ Ext.refl s (.int _)⟩
      · cases e
    · cases e
  · cases e
def fAbs : FL := fun xs st => match xs with
  | [.p (.int i)] => some (.p (.int (if i < 0 then -i else i)), st)
  | _ => none
def rAbsX : List V → Hp → VK → Prop := fun xs H Q => ∃ i, xs = [.int i] ∧ Q (.int (if i < 0 then -i else i)) H
theorem sem_abs : CallSem G rAbsX fAbs := by
  intro μ H st vs xs z st' Q s rv e k
  unfold fAbs at e
  split at e
  · cases e
    obtain ⟨v, rfl, r⟩ := rv.one
    cases r
    exact ⟨_, rfl, k μ H _ Ext.refl s (.int _)⟩
  · cases e
def fGcd : FL := fun xs st => match xs with
  | [.p (.int i), .p (.int j)] => some (.p (.int ((Nat.gcd i.natAbs j.natAbs : Nat) : Int)), st)
  | _ => none
theorem sem_gcd : CallSem G rGcd fGcd := by
  intro μ H st vs xs z st' Q s rv e k
  unfold fGcd at e
  split at e
  · cases e
    obtain ⟨v, w, rfl, r, r'⟩ := rv.two
    cases r
    cases r'
    exact ⟨_, _, rfl, k μ H _ Ext.refl s (.int _)⟩
  · cases e
/-- max, min of two -/
def fMax2 : FL := fun xs st => match xs with
  | [.p (.int i), .p (.int j)] => some (.p (.int (if j > i then j else i)), st)
  | _ => none
def fMin2 : FL := fun xs st => match xs with
  | [.p (.int i), .p (.int j)] => some (.p (.int (if j < i then j else i)), st)
  | _ => none
def rMax2X : List V → Hp → VK → Prop := fun xs H Q => ∃ i j, xs = [.int i, .int j] ∧ Q (.int (if j > i then j else i)) H
def rMin2X : List V → Hp → VK → Prop := fun xs H Q => ∃ i j, xs = [.int i, .int j] ∧ Q (.int (if j < i then j else i)) H
theorem sem_max2 : CallSem G rMax2X fMax2 := by
  intro μ H st vs xs z st' Q s rv e k
  unfold fMax2 at e
  split at e
  · cases e
    obtain ⟨v, w, rfl, r, r'⟩ := rv.two
    cases r
    cases r'
    exact ⟨_, _, rfl, k μ H _ Ext.refl s (.int _)⟩
  · cases e
theorem sem_min2 : CallSem G rMin2X fMin2 := by
  intro μ H st vs xs z st' Q s rv e k
  unfold fMin2 at e
  split at e
  · cases e
    obtain ⟨v, w, rfl, r, r'⟩ := rv.two
    cases r
    cases r'
    exact ⟨_, _, rfl, k μ H _ Ext.refl s (.int _)⟩
  · cases e
/-- int(x) -/
def fInt : FL := fun xs st => match xs with
  | [.p (.int i)] => some (.p (.int i), st)
  | [.p (.bl b)] => some (.p (.int (if b then 1 else 0)), st)
  | [.p (.str x)] => if x.length ≤ 640 then match readInt x with
    | some n => some (.p (.int n), st)
    | none => none else none
  | _ => none
def rIntX : List V → Hp → VK → Prop := fun xs H Q => ((∃ i, xs = [.int i] ∧ Q (.int i) H) ∨ ∃ k, xs = [.bl k] ∧ Q (.int (if k then 1 else 0)) H) ∨ ∃ a n, xs = [.str a] ∧ PySem.intText? a = some n ∧ a.length ≤ 640 ∧ Q (.int n) H
theorem CallR.or {f : Value} {r r' : List V → Hp → VK → Prop} (h : CallR X f r) (h' : CallR X f r') : CallR X f (fun xs H Q => r xs H Q ∨ r' xs H Q) := fun pins s σ H xs us Q I rr q => q.elim (h pins s σ H xs us Q I rr) (h' pins s σ H xs us Q I rr)
theorem callr_int : CallR X (.type "int") rIntX := CallR.or call_int1 call_int_str
theorem sem_int : CallSem G rIntX fInt := by
  intro μ H st vs xs z st' Q s rv e k
  unfold fInt at e
  split at e
  · cases e
    obtain ⟨v, rfl, r⟩ := rv.one
    cases r
    exact .inl (.inl ⟨_, rfl, k μ H _ Ext.refl s (.int _)⟩)
  · cases e
    obtain ⟨v, rfl, r⟩ := rv.one
    cases r
    exact .inl (.inr ⟨_, rfl, k μ H _ Ext.refl s (.int _)⟩)
  · split at e
    · rename_i hl
      split at e
      · rename_i n q
        cases e
        obtain ⟨v, rfl, r⟩ := rv.one
        cases r
        exact .inr ⟨_, n, rfl, readInt_text q hl, by rw [toS_len]; exact hl, k μ H _ Ext.refl s (.int _)⟩
      · cases e
    · cases e
  · cases e
/-- str(x) -/
def strOf : Val → Option T
  | .p (.int i) => if i.natAbs.log2 < 1920 then some (decT i) else none
  | .p (.str x) => some x
  | _ => none
def fStr : FL := fun xs st => match xs with
  | [x] => match strOf x with
    | some t => some (.p (.str t), st)
    | none => none
  | _ => none
def rStrX : List V → Hp → VK → Prop := fun xs H Q => (∃ i, xs = [.int i] ∧ i.natAbs.log2 < 1920 ∧ Q (.str (Str.ofString (toString i))) H) ∨ ∃ a, xs = [.str a] ∧ Q (.str a) H
theorem callr_str : CallR X (.type "str") rStrX := CallR.or call_str_int SkE.call_str_str
theorem sem_str : CallSem G rStrX fStr := by
  intro μ H st vs xs z st' Q s rv e k
  unfold fStr at e
  split at e
  · rename_i x
    split at e
    · rename_i t q
      cases e
      obtain ⟨v, rfl, r⟩ := rv.one
      unfold strOf at q
      split at q
      · split at q
        · rename_i i hl
          cases q
          cases r
          exact .inl ⟨i, rfl, hl, by rw [ofString_toS]; exact k μ H _ Ext.refl s (.str _ (decT_len hl))⟩
        · cases q
      · cases q
        cases r with
        | str _ hl => exact .inr ⟨_, rfl, k μ H _ Ext.refl s (.str _ hl)⟩
      · cases q
    · cases e
  · cases e
/-! ### isinstance -/
def tyName (st : Sto) : Val → Option String
  | .p .non => some "NoneType"
  | .p (.bl _) => some "bool"
  | .p (.int _) => some "int"
  | .p (.str _) => some "str"
  | .p (.tup _) => some "tuple"
  | .p (.lst _) => some "list"
  | .p (.dct _ _) => some "dict"
  | .r l => match st[l]? with
    | some (.lst _) => some "list"
    | some (.dct _ _) => some "dict"
    | _ => none
  | _ => none
def isTy (a T : String) : Bool := a == T || (a == "bool" && T == "int")
def knownTy : List String := ["NoneType", "bool", "int", "str", "tuple", "list", "dict"]
theorem kit_all : (knownTy.all fun a => (["bool", "int", "str", "tuple", "list", "dict"] : List String).all fun b => kitB a b == some (isTy a b)) = true := by decide +kernel
theorem tyName_known {st : Sto} {x : Val} {a : String} (h : tyName st x = some a) : a ∈ knownTy := by
  unfold tyName at h
  split at h <;> first | (cases h; decide) | skip
  · split at h <;> first | (cases h; decide) | cases h
  · cases h
theorem tyX_of {μ : List Addr} {H : Hp} {st : Sto} {v : V} {x : Val} {a : String} (s : Sim G μ H st) (r : RpV G.K G.hid [] μ H v x) (h : tyName st x = some a) : TyX G.K H v (.type a) := by
  unfold tyName at h
  split at h
  · cases h; cases r; exact .base .non
  · cases h; cases r; exact .base (.bl _)
  · cases h; cases r; exact .base (.int _)
  · cases h; cases r; exact .base (.str _)
  · cases h
    cases r with
    | tup h1 h2 =>
      rcases h1 with (h1 | ⟨o, h1⟩) | ⟨o, its, n, h1, h2, _⟩
      · exact .base (.tup h1)
      · exact .fTuple h1
      · exact .kTuple h1 h2
  · cases h
    cases r with
    | lst h1 h2 h3 => exact .base (.lst h1)
  · cases h
    cases r with
    | dct h1 h2 h3 h4 =>
      rcases h1 with h1 | ⟨o, h1⟩
      · exact .base (.dK h1)
      · exact .fDict h1
  · obtain ⟨b, rfl, hb⟩ := r
    split at h
    · rename_i q
      cases h
      obtain ⟨xs, h1, h2⟩ := s.obj _ _ _ hb q
      exact .base (.lst h1)
    · rename_i q
      cases h
      obtain ⟨xs, h1, h2⟩ := s.obj _ _ _ hb q
      exact .base (.dK h1)
    · cases h
  · cases h
def mIsi (T : String) (m : EM) : EM := fun env st => (m env st).bind fun x st1 => match tyName st1 x with
  | some a => .ok (.p (.bl (isTy a T))) st1
  | none => .fail
theorem de_isi {W : WX} {e : Expr} {m : EM} {pos p p2 : Pos} {y : Str} {T : String} (hK : X.K = G.K) (hT : T ∈ (["bool", "int", "str", "tuple", "list", "dict"] : List String)) (hg : Gl X "isinstance") (hm : X.mg "isinstance" = none)
    (hy : Gl X y) (hmy : X.mg y = none) (hvy : bootBuiltins y = some (.type T)) (hn : y ≠ "__name__") (hd : (y == ("__debug__" : Str)) = false) (h : DE X G W e m) (hs : notStar e = true) :
    DE X G W (.Call (.Name "isinstance" p) [e, .Name y p2] [] pos) (mIsi T m) := by
  have hb : bootBuiltins ("isinstance" : Str) = some (.builtin "isinstance") := by decide +kernel
  refine PE.by (pe_callB (call_isi (X := X)) hg hm hb (pa_cons h (pa_cons (pe_bltn (v := .ty T) hy hmy hvy rfl hn hd) pa_nil rfl) (starEach_plain hs _ _)) (by decide) (by decide) (starEach_plain hs _ _) rfl) ?_
  rintro σ H Q ⟨μ, env, st, s, en, f⟩
  refine ⟨μ, env, st, s, en, f.bind.mono fun x st1 μ1 H1 e1 s1 h1 v rv => ?_⟩
  cases q : tyName st1 x with
  | none => rw [q] at h1; exact h1.elim
  | some a =>
    rw [q] at h1
    have k1 := List.all_eq_true.mp (List.all_eq_true.mp kit_all a (tyName_known q)) T hT
    refine ⟨v, .ty T, .type a, .type T, isTy a T, rfl, .ty T, by rw [hK]; exact tyX_of s1 rv q, kit_ty (eq_of_beq k1), ?_⟩
    exact h1.ok s1 _ (.bl _)
end
end Sl
end
section
set_option Elab.async false
set_option linter.all false
set_option maxRecDepth 100000
namespace Sl
open PySem PySem.Spec PyProof.Rows L2

/-! ### dicts by key -/
def keyOf : Val → Option DK
  | .p (.int i) => some (.inl i)
  | .p (.str x) => some (.inr x)
  | _ => none
def dfind {α : Type} (k : DK) : List DK → List α → Option α
  | k' :: ks, x :: xs => if k' = k then some x else dfind k ks xs
  | _, _ => none
def viewK (st : Sto) : Val → Option (List DK × List Val)
  | .p (.dct ks ds) => some (ks, ds.map .p)
  | .r l => match st[l]? with
    | some (.dct ks vs) => some (ks, vs)
    | some (.ldct ks vs) => some (ks, vs)
    | _ => none
  | _ => none
section
variable {X : Cx} {G : Grd} {μ : List Addr} {H : Hp} {st : Sto} {v : V} {x : Val}
theorem viewK_sem {ks : List DK} {ys : List Val} (s : Sim G μ H st) (r : RpV G.K G.hid [] μ H v x) (e : viewK st x = some (ks, ys)) : ∃ a kvs, v = .ref a ∧ Rd H a (.dK kvs) ∧ kvs.map Prod.fst = ks.map toK ∧ RpVs G.K G.hid μ H (kvs.map Prod.snd) ys := by
  unfold viewK at e
  split at e
  · cases e
    cases r with
    | dct h1 h2 h3 h4 => exact ⟨_, _, rfl, h1, h3, RpL.vals h4⟩
  · obtain ⟨a, rfl, ha⟩ := r
    split at e
    · rename_i q
      cases e
      obtain ⟨kvs, h1, h2, h3⟩ := s.obj _ _ _ ha q
      exact ⟨a, kvs, rfl, .inl h1, h2, h3⟩
    · rename_i q
      cases e
      obtain ⟨o, kvs, h1, h2, h3⟩ := s.obj _ _ _ ha q
      exact ⟨a, kvs, rfl, .inr ⟨o, h1⟩, h2, h3⟩
    · cases e
  · cases e
theorem keyOf_sem {k : DK} (r : RpV G.K G.hid [] μ H v x) (e : keyOf x = some k) : v = kV (toK k) := by
  unfold keyOf at e
  split at e
  · cases e; cases r; rfl
  · cases e; cases r; rfl
  · cases e
theorem dfind_sem {K : Frag} {hid : List Addr} {k : DK} : ∀ {ks : List DK} {kvs : List (Key × V)} {ys : List Val}, kvs.map Prod.fst = ks.map toK → RpVs K hid μ H (kvs.map Prod.snd) ys →
    (∀ y, dfind k ks ys = some y → ∃ w, valV kvs (toK k) = some w ∧ RpV K hid [] μ H w y) ∧ (dfind k ks ys = none → valV kvs (toK k) = none)
  | [], kvs, ys, e, r => by
    cases kvs with
    | nil => exact ⟨fun y h => by simp [dfind] at h, fun _ => rfl⟩
    | cons p kvs => simp at e
  | k' :: ks, kvs, ys, e, r => by
    cases kvs with
    | nil => simp at e
    | cons p kvs =>
      simp only [List.map_cons, List.cons.injEq] at e
      simp only [List.map_cons] at r
      cases r with
      | cons r1 r2 =>
        rename_i y ys
        by_cases q : k' = k
        · refine ⟨fun z h => ?_, fun h => ?_⟩
          · simp only [dfind, if_pos q, Option.some.injEq] at h
            subst h
            exact ⟨p.2, valV_pos (by rw [e.1, q]), r1⟩
          · simp [dfind, q] at h
        · have q' : ¬ p.1 = toK k := fun z => q (toK_inj (e.1.symm.trans z))
          have ih := dfind_sem (K := K) (k := k) e.2 r2
          rw [valV_neg q']
          simp only [dfind, if_neg q]
          exact ih

/-! ### o[i] -/
def fIxO : F2 := fun x y st => match viewL st x with
  | some ys => match y with
    | .p (.int i) => match atI ys i with
      | some z => some (z, st)
      | none => none
    | _ => none
  | none => match viewK st x with
    | some (ks, ys) => match keyOf y with
      | some k => match dfind k ks ys with
        | some z => some (z, st)
        | none => none
      | none => none
    | none => none
def fIx : F2 := fun x y st => match x, y with
  | .p (.str s), .p (.int i) => match atI s i with
    | some c => some (.p (.str [c]), st)
    | none => none
  | .p (.tup ds), .p (.int i) => match atI ds i with
    | some d => some (.p d, st)
    | none => none
  | x, y => fIxO x y st
theorem atI_map {α β : Type} (f : α → β) (xs : List α) (i : Int) : atI (xs.map f) i = (atI xs i).map f := by
  unfold atI
  rw [List.length_map]
  cases ixN xs.length i with
  | none => rfl
  | some j => simp
theorem RpL.atI {K : Frag} {F : Addr → Prop} {vs : List V} {ds : List D} {i : Int} {d : D} (r : RpL K F H vs ds) (e : atI ds i = some d) : ∃ w, L2.atI vs i = some w ∧ Rp K F H w d := by
  unfold L2.atI at e ⊢
  rw [r.length]
  cases q : ixN ds.length i with
  | none => rw [q] at e; cases e
  | some j =>
    rw [q] at e
    exact r.get e
theorem RpVs.get {K : Frag} {hid : List Addr} : ∀ {vs : List V} {ys : List Val} {i : Nat} {y : Val}, RpVs K hid μ H vs ys → ys[i]? = some y → ∃ w, vs[i]? = some w ∧ RpV K hid [] μ H w y
  | _, _, _, _, .nil, e => by simp at e
  | _, _, 0, _, .cons r _, e => by simp at e; subst e; exact ⟨_, rfl, r⟩
  | _, _, i + 1, _, .cons _ t, e => by
    obtain ⟨u, h1, h2⟩ := RpVs.get (i := i) t (by simpa using e)
    exact ⟨u, by simpa using h1, h2⟩
theorem RpVs.atI {K : Frag} {hid : List Addr} {vs : List V} {ys : List Val} {i : Int} {y : Val} (r : RpVs K hid μ H vs ys) (e : L2.atI ys i = some y) : ∃ w, L2.atI vs i = some w ∧ RpV K hid [] μ H w y := by
  unfold L2.atI at e ⊢
  rw [r.length]
  cases q : ixN ys.length i with
  | none => rw [q] at e; cases e
  | some j =>
    rw [q] at e
    exact r.get e
def rIxD : R2 := fun x y H Q => ∃ a v, x = .ref a ∧ DGet H a y (some v) ∧ Q v H
def rIxX (K : Frag) : R2 := fun x y H Q => rIx K x y H Q ∨ rIxD x y H Q
theorem ixr_dict (hu : X.A.units + 1 < cLine) : IxR X rIxD := by
  intro value slice pins s σ H x y v u Q I rx ry h hs
  obtain ⟨a, w, rfl, g, q⟩ := h
  cases rx
  have hT : s.TypeIs (.ref a) "dict" := dict_typeIs I g
  have get := d_getItem (A := X.A) (E := X.xe) (Q := fun r s₃ => EP X pins σ Q r s₃) hu I g ry fun w' s3 I3 rw' => ⟨w, H, I3, rw', q⟩
  unfold subscriptTail
  refine wpAny_bind ?_
  rw [getitemInPython_of_ne hT.not_modules]
  refine wpAny_bind (wpAny_specialOf hT PySem.F.slot_dict_getitem.lookup ?_)
  have go : wpAny (model X.prog X.w) X.A (subscripted slice false (.ref a) u) (fun r s₃ =>
      wpAny (model X.prog X.w) X.A (letTemporaryGo value (.ref a) r >>= fun _ => pure r) (EP X pins σ Q) X.xe s₃) X.xe s := by
    rw [hs]
    exact wpAny_operating (wpAny_mono get (fun r s₃ h₃ =>
      wpAny_bind (wpAny_letTemporaryGo (wpAny_pure h₃))) fun _ _ x => x)
  first
    | exact wpAny_bind go
    | exact wpAny_pure (wpAny_bind go)
    | exact wpAny_bind (wpAny_pure (wpAny_bind go))
theorem ixr_all (hu : X.A.units + 1 < cLine) : IxR X (rIxX X.K) := ix_seq.or (ixr_dict hu)
theorem codes_at {x : T} {i : Int} {c : Char} (e : atI x i = some c) : atI (toS x).cps.toList i = some c.toNat := by
  rw [cps_toS]
  unfold codes
  rw [atI_map, e]
  rfl
theorem sem_ix : OpSem G (rIxX G.K) fIx := by
  intro μ H st v w x y z st' Q s rv rw_ e k
  unfold fIx at e
  split at e
  · split at e
    · rename_i c q
      cases e
      cases rw_
      cases rv with
      | str _ hl =>
        have hz : (16000000 : Nat) ≤ sizeLine := by decide
        exact .inl (.inr (.inr ⟨_, _, c.toNat, rfl, rfl, by rw [toS_len]; exact Nat.le_trans hl hz, codes_at q, k μ H _ Ext.refl s (.str [c] (by show 1 ≤ tMax; decide))⟩))
    · cases e
  · split at e
    · rename_i d q
      cases e
      cases rw_
      cases rv with
      | tup h1 h2 =>
        obtain ⟨u, hu, ru⟩ := h2.atI q
        exact .inl (.inr (.inl ⟨_, _, _, _, rfl, rfl, h1, hu, k μ H _ Ext.refl s ru⟩))
    · cases e
  · unfold fIxO at e
    split at e
    · rename_i ys qv
      split at e
      · rename_i i
        split at e
        · rename_i zz q
          cases e
          obtain ⟨a, vs, rfl, h1, h2⟩ := viewL_sem s rv qv
          cases rw_
          obtain ⟨u, hu, ru⟩ := h2.atI q
          exact .inl (.inl ⟨_, _, _, _, rfl, rfl, h1, hu, k μ H _ Ext.refl s ru⟩)
        · cases e
      · cases e
    · split at e
      · rename_i ks ys qv
        split at e
        · rename_i kk qk
          split at e
          · rename_i zz q
            cases e
            obtain ⟨a, kvs, rfl, h1, h2, h3⟩ := viewK_sem s rv qv
            obtain ⟨u, hu, ru⟩ := (dfind_sem (k := kk) h2 h3).1 _ q
            exact .inr ⟨a, u, rfl, .inl ⟨kvs, toK kk, h1, keyOf_sem rw_ qk, hu.symm⟩, k μ H _ Ext.refl s ru⟩
          · cases e
        · cases e
      · cases e
def notSlice : Expr → Bool
  | .Slice _ _ _ _ => false
  | _ => true
theorem plainIx_of {b : Expr} (h : notSlice b = true) : PlainIx b := fun o i => by
  cases b <;> first | rfl | cases h
theorem de_ix {W : WX} {a b : Expr} {ma mb : EM} {pos : Pos} (hK : X.K = G.K) (hu : X.A.units + 1 < cLine) (ha : DE X G W a ma) (hb : DE X G W b mb) (hs : notSlice b = true) : DE X G W (.Subscript a b pos) (m2 fIx ma mb) := by
  refine PE.by (pe_ix (ixr_all hu) ha hb (plainIx_of hs)) ?_
  rw [hK]
  exact rd2 sem_ix

/-! ### slices -/
def cutL {α : Type} (xs : List α) (lo hi : Option Int) : List α := (xs.drop (HT.sIx xs.length 0 lo)).take (HT.sIx xs.length xs.length hi - HT.sIx xs.length 0 lo)
abbrev OM := Slots → Sto → R (Option Int)
def RdO (G : Grd) (W : WX) (m : OM) : TO := fun σ H Q => ∃ μ env st, Sim G μ H st ∧ EnvRp G μ H env σ ∧ Fin G W σ μ H (m env st) (fun o st' μ' H' => ∃ st2, Sim G μ' H' st2 ∧ st2 = st' ∧ Q o H')
def oNone : OM := fun _ st => .ok none st
def oSome (m : EM) : OM := fun env st => (m env st).bind fun x st1 => match x with
  | .p (.int i) => .ok (some i) st1
  | _ => .fail
def mSlice (f : Val → Option Int → Option Int → Sto → Option (Val × Sto)) (m : EM) (ml mh : OM) : EM := fun env st => (m env st).bind fun x st1 => (ml env st1).bind fun lo st2 => (mh env st2).bind fun hi st3 => R.lift (f x lo hi st3)
def fSl (md : Bool) : Val → Option Int → Option Int → Sto → Option (Val × Sto) := fun x lo hi st => match x with
  | .p (.str s) => some (.p (.str (cutL s lo hi)), st)
  | .p (.tup ds) => some (.p (.tup (cutL ds lo hi)), st)
  | _ => match viewL st x with
    | some ys => newLst md (cutL ys lo hi) st
    | none => none
theorem RpVs.take {K : Frag} {hid : List Addr} : ∀ {vs : List V} {ys : List Val} (n : Nat), RpVs K hid μ H vs ys → RpVs K hid μ H (vs.take n) (ys.take n)
  | _, _, 0, _ => .nil
  | _, _, _ + 1, .nil => .nil
  | _, _, n + 1, .cons r t => .cons r (RpVs.take n t)
theorem RpVs.drop {K : Frag} {hid : List Addr} : ∀ {vs : List V} {ys : List Val} (n : Nat), RpVs K hid μ H vs ys → RpVs K hid μ H (vs.drop n) (ys.drop n)
  | _, _, 0, h => h
  | _, _, _ + 1, .nil => .nil
  | _, _, n + 1, .cons r t => RpVs.drop n t
def rSlX (K : Frag) : V → Option Int → Option Int → Hp → VK → Prop := fun x lo hi H Q => rSlL K x lo hi H Q ∨ rSlA K x lo hi H Q ∨ rSlS x lo hi H Q
theorem slr_all : SlR X (rSlX X.K) := sl_list.or (sl_tupA.or sl_str)
theorem sem_sl {md : Bool} {lo hi : Option Int} {st' : Sto} {z : Val} {Q : VK} (s : Sim G μ H st) (rv : RpV G.K G.hid [] μ H v x) (e : fSl md x lo hi st = some (z, st'))
    (k : ∀ μ' H' q, Ext μ H μ' H' → Sim G μ' H' st' → RpV G.K G.hid [] μ' H' q z → Q q H') : rSlX G.K v lo hi H Q := by
  unfold fSl at e
  split at e
  · rename_i t
    cases e
    cases rv with
    | str _ hl =>
      have hz : (16000000 : Nat) ≤ sizeLine := by decide
      refine .inr (.inr ⟨_, rfl, by rw [toS_len]; exact Nat.le_trans hl hz, ?_⟩)
      have ec : cutS (toS t) lo hi = toS (cutL t lo hi) := by
        unfold cutS cutL
        rw [toS_len, cps_toS]
        unfold codes toS
        rw [← List.map_drop, ← List.map_take]
      rw [ec]
      refine k μ H _ Ext.refl s (.str _ (Nat.le_trans ?_ hl))
      unfold cutL
      rw [List.length_take, List.length_drop]
      omega
  · rename_i ds
    cases e
    cases rv with
    | tup h1 h2 =>
      rename_i a vs
      refine .inr (.inl ⟨a, vs, rfl, h1, fun hw => ?_, fun _ p hp => ?_⟩)
      · have e1 : cutL ds lo hi = ds := by
          unfold cutL
          rw [← h2.length, hw.1, hw.2]
          simp [h2.length]
        rw [e1] at k
        exact k μ H _ Ext.refl s (.tup h1 h2)
      · have r2 : RpL G.K (Fz G.hid μ) H (cutV vs lo hi) (cutL ds lo hi) := by
          unfold cutV cutL
          rw [← h2.length]
          exact RpL.take _ (RpL.drop _ h2)
        exact k μ _ _ (Ext.new hp) (s.new hp) (.tup (.inl (.inl upd_same)) (RpL.carry (Ext.new hp).carry _ _ r2))
  · split at e
    · rename_i ys q
      obtain ⟨a, vs, rfl, h1, h2⟩ := viewL_sem s rv q
      have r2 : RpVs G.K G.hid μ H (cutV vs lo hi) (cutL ys lo hi) := by
        unfold cutV cutL
        rw [← h2.length]
        exact RpVs.take _ (RpVs.drop _ h2)
      exact .inl ⟨a, vs, rfl, h1, (newLst_sem s r2 e k).2⟩
    · cases e
theorem po_by {e : Option Expr} {t t' : TO} (h : PO X e t) (k : ∀ σ H Q, t' σ H Q → t σ H Q) : PO X e t' := ⟨fun pins s σ H Q I q => h.run pins s σ H Q I (k σ H Q q)⟩
theorem do_none {W : WX} : PO X none (RdO G W oNone) := po_by po_none fun σ H Q ⟨μ, env, st, s, en, f⟩ => by
  obtain ⟨_, _, _, q⟩ := f.ok s
  exact q
theorem do_some {W : WX} {e : Expr} {m : EM} (h : DE X G W e m) : PO X (some e) (RdO G W (oSome m)) := po_by (po_some h) fun σ H Q ⟨μ, env, st, s, en, f⟩ => by
  refine ⟨μ, env, st, s, en, f.bind.mono fun x st1 μ1 H1 e1 s1 h1 v rv => ?_⟩
  split at h1
  · rename_i i
    cases rv
    obtain ⟨_, _, _, q⟩ := h1.ok s1
    exact ⟨i, rfl, q⟩
  · exact h1.elim
theorem de_slice {W : WX} {a : Expr} {lo hi : Option Expr} {ma : EM} {ml mh : OM} {md : Bool} {pos p2 : Pos} (hK : X.K = G.K) (ha : DE X G W a ma) (hl : PO X lo (RdO G W ml)) (hh : PO X hi (RdO G W mh)) :
    DE X G W (.Subscript a (.Slice lo hi none p2) pos) (mSlice (fSl md) ma ml mh) := by
  refine PE.by (pe_slice (slr_all (X := X)) ha hl hh) ?_
  rw [hK]
  rintro σ H Q ⟨μ, env, st, s, en, f⟩
  refine ⟨μ, env, st, s, en, f.bind.mono fun x st1 μ1 H1 e1 s1 h1 v rv => ?_⟩
  refine ⟨μ1, env, st1, s1, en.ext e1, h1.bind.mono fun lo st2 μ2 H2 e2 s2 h2 => ⟨st2, s2, rfl, ?_⟩⟩
  refine ⟨μ2, env, st2, s2, (en.ext e1).ext e2, h2.bind.mono fun hi st3 μ3 H3 e3 s3 h3 => ⟨st3, s3, rfl, ?_⟩⟩
  cases q : fSl md x lo hi st3 with
  | none => rw [q] at h3; exact h3.elim
  | some p =>
    obtain ⟨z, st4⟩ := p
    rw [q] at h3
    exact sem_sl s3 ((rv.ext e2).ext e3) q fun μ4 H4 u e4 s4 r4 => h3 μ4 H4 e4 s4 u r4

/-! ### displays -/
def mTup (am : AM) : EM := fun env st => (am env st).bind fun xs st1 => R.lift (newTup xs st1)
def mLst (md : Bool) (am : AM) : EM := fun env st => (am env st).bind fun xs st1 => R.lift (newLst md xs st1)
theorem de_tup {W : WX} {es : List Expr} {am : AM} {k : Nat} {pos : Pos} (h : DA X G W es am) : DE X G W (.Tuple es k pos) (mTup am) :=
  PE.by (pe_tup h) fun σ H Q ⟨μ, env, st, s, en, f⟩ => by
    refine ⟨μ, env, st, s, en, f.bind.mono fun xs st1 μ1 H1 e1 s1 h1 vs rv => ?_⟩
    cases q : newTup xs st1 with
    | none => rw [q] at h1; exact h1.elim
    | some p =>
      obtain ⟨z, st2⟩ := p
      rw [q] at h1
      exact newTup_sem s1 rv q fun μ4 H4 u e4 s4 r4 => h1 μ4 H4 e4 s4 u r4
theorem de_lst {W : WX} {es : List Expr} {am : AM} {md : Bool} {pos : Pos} (h : DA X G W es am) : DE X G W (.List es pos) (mLst md am) :=
  PE.by (pe_lst h) fun σ H Q ⟨μ, env, st, s, en, f⟩ => by
    refine ⟨μ, env, st, s, en, f.bind.mono fun xs st1 μ1 H1 e1 s1 h1 vs rv => ?_⟩
    cases q : newLst md xs st1 with
    | none => rw [q] at h1; exact h1.elim
    | some p =>
      obtain ⟨z, st2⟩ := p
      rw [q] at h1
      exact newLst_sem s1 rv q fun μ4 H4 u e4 s4 r4 => h1 μ4 H4 e4 s4 u r4

/-! ### and, or, not, if .. else -/
def mAndV (ma mb : EM) : EM := fun env st => (ma env st).bind fun x st1 => match x with
  | .p (.bl true) => mb env st1
  | .p (.bl false) => .ok (.p (.bl false)) st1
  | _ => .fail
def mOrV (ma mb : EM) : EM := fun env st => (ma env st).bind fun x st1 => match x with
  | .p (.bl false) => mb env st1
  | .p (.bl true) => .ok (.p (.bl true)) st1
  | _ => .fail
def mNotV (ma : EM) : EM := fun env st => (ma env st).bind fun x st1 => match x with
  | .p (.bl b) => .ok (.p (.bl (!b))) st1
  | _ => .fail
def mIf (mt : TM) (ma mb : EM) : EM := fun env st => (mt env st).bind fun b st1 => match b with
  | true => ma env st1
  | false => mb env st1
section
variable {W : WX} {a b c : Expr} {ma mb : EM} {mt mu : TM} {pos : Pos} {rest : List Expr}
theorem de_one {op : BoolOp} (h : DE X G W a ma) : DE X G W (.BoolOp op [a] pos) ma := pe_one h
theorem de_and (ha : DE X G W a ma) (hb : DE X G W (.BoolOp .And (b :: rest) pos) mb) : DE X G W (.BoolOp .And (a :: b :: rest) pos) (mAndV ma mb) :=
  PE.by (pe_and ha hb) fun σ H Q ⟨μ, env, st, s, en, f⟩ => by
    refine ⟨μ, env, st, s, en, f.bind.mono fun x st1 μ1 H1 e1 s1 h1 v rv => ?_⟩
    split at h1
    · cases rv
      exact ⟨true, rfl, iteT ⟨μ1, env, st1, s1, en.ext e1, h1⟩⟩
    · cases rv
      exact ⟨false, rfl, iteF (h1.ok s1 _ (.bl _))⟩
    · exact h1.elim
theorem de_or (ha : DE X G W a ma) (hb : DE X G W (.BoolOp .Or (b :: rest) pos) mb) : DE X G W (.BoolOp .Or (a :: b :: rest) pos) (mOrV ma mb) :=
  PE.by (pe_or ha hb) fun σ H Q ⟨μ, env, st, s, en, f⟩ => by
    refine ⟨μ, env, st, s, en, f.bind.mono fun x st1 μ1 H1 e1 s1 h1 v rv => ?_⟩
    split at h1
    · cases rv
      exact ⟨false, rfl, iteF ⟨μ1, env, st1, s1, en.ext e1, h1⟩⟩
    · cases rv
      exact ⟨true, rfl, iteT (h1.ok s1 _ (.bl _))⟩
    · exact h1.elim
theorem de_not (ha : DE X G W a ma) : DE X G W (.UnaryOp .Not a pos) (mNotV ma) :=
  PE.by (pe_not ha) fun σ H Q ⟨μ, env, st, s, en, f⟩ => by
    refine ⟨μ, env, st, s, en, f.bind.mono fun x st1 μ1 H1 e1 s1 h1 v rv => ?_⟩
    split at h1
    · cases rv
      exact ⟨_, rfl, h1.ok s1 _ (.bl _)⟩
    · exact h1.elim
theorem de_if (hc : DT X G W c mt) (ha : DE X G W a ma) (hb : DE X G W b mb) : DE X G W (.IfExp c a b pos) (mIf mt ma mb) :=
  PE.by (pe_ifExp hc ha hb) fun σ H Q ⟨μ, env, st, s, en, f⟩ => by
    refine ⟨μ, env, st, s, en, f.bind.mono fun x st1 μ1 H1 e1 s1 h1 => ?_⟩
    cases x with
    | true => exact iteT ⟨μ1, env, st1, s1, en.ext e1, h1⟩
    | false => exact iteF ⟨μ1, env, st1, s1, en.ext e1, h1⟩
def mNeg (ma : EM) : EM := fun env st => (ma env st).bind fun x st1 => match x with
  | .p (.int i) => .ok (.p (.int (-i))) st1
  | _ => .fail
theorem de_neg (ha : DE X G W a ma) : DE X G W (.UnaryOp .USub a pos) (mNeg ma) :=
  PE.by (pe_un un_neg ha) fun σ H Q ⟨μ, env, st, s, en, f⟩ => by
    refine ⟨μ, env, st, s, en, f.bind.mono fun x st1 μ1 H1 e1 s1 h1 v rv => ?_⟩
    split at h1
    · cases rv
      exact ⟨_, rfl, h1.ok s1 _ (.int _)⟩
    · exact h1.elim
/-! ### tests -/
abbrev DW (X : Cx) (G : Grd) (W : WX) (e : Expr) (m : TM) : Prop := PW X e (RdT G W m)
theorem PW.by {e : Expr} {t t' : TT} (h : PW X e t) (k : ∀ σ H Q, t' σ H Q → t σ H Q) : PW X e t' := ⟨fun wh pins s σ H Q I q => h.run wh pins s σ H Q I (k σ H Q q)⟩
def tAndM (t u : TM) : TM := fun env st => (t env st).bind fun b st1 => match b with
  | true => u env st1
  | false => .ok false st1
def tOrM (t u : TM) : TM := fun env st => (t env st).bind fun b st1 => match b with
  | true => .ok true st1
  | false => u env st1
def tNotM (t : TM) : TM := fun env st => (t env st).bind fun b st1 => .ok (!b) st1
theorem dw_and1 (h : DT X G W a mt) : DW X G W (.BoolOp .And [a] pos) mt := pw_and1 h
theorem dw_or1 (h : DT X G W a mt) : DW X G W (.BoolOp .Or [a] pos) mt := pw_or1 h
theorem dw_and (h : DT X G W a mt) (h2 : DW X G W (.BoolOp .And (b :: rest) pos) mu) : DW X G W (.BoolOp .And (a :: b :: rest) pos) (tAndM mt mu) :=
  PW.by (pw_and h h2) fun σ H Q ⟨μ, env, st, s, en, f⟩ => by
    refine ⟨μ, env, st, s, en, f.bind.mono fun x st1 μ1 H1 e1 s1 h1 => ?_⟩
    cases x with
    | true => exact iteT ⟨μ1, env, st1, s1, en.ext e1, h1⟩
    | false => exact iteF (h1.ok s1)
theorem dw_or (h : DT X G W a mt) (h2 : DW X G W (.BoolOp .Or (b :: rest) pos) mu) : DW X G W (.BoolOp .Or (a :: b :: rest) pos) (tOrM mt mu) :=
  PW.by (pw_or h h2) fun σ H Q ⟨μ, env, st, s, en, f⟩ => by
    refine ⟨μ, env, st, s, en, f.bind.mono fun x st1 μ1 H1 e1 s1 h1 => ?_⟩
    cases x with
    | true => exact iteT (h1.ok s1)
    | false => exact iteF ⟨μ1, env, st1, s1, en.ext e1, h1⟩
theorem dt_not (h : DT X G W a mt) : DT X G W (.UnaryOp .Not a pos) (tNotM mt) :=
  PT.by (pt_not h) fun σ H Q ⟨μ, env, st, s, en, f⟩ => by
    refine ⟨μ, env, st, s, en, f.bind.mono fun x st1 μ1 H1 e1 s1 h1 => ?_⟩
    exact h1.ok s1
/-- a comparison as a test -/
def tVal (m : EM) : TM := fun env st => (m env st).bind fun x st1 => match x with
  | .p (.bl b) => .ok b st1
  | _ => .fail
theorem dt_cmp {op : CmpOp} {r : R2} {f : F2} (ho : OpR X (compareOp op) r) (o : OpSem G r f) (ha : DE X G W a ma) (hb : DE X G W b mb) (hm : behindInMarks op b = false) : DT X G W (.Compare a [op] [b] pos) (tVal (m2 f ma mb)) :=
  PT.by (pt_cmpR ho ha hb hm) fun σ H Q ⟨μ, env, st, s, en, f⟩ => rd2 o σ H _ ⟨μ, env, st, s, en, f.bind.mono fun x st1 μ1 H1 e1 s1 h1 v rv => by
    split at h1
    · cases rv
      exact ⟨_, rfl, h1.ok s1⟩
    · exact h1.elim⟩
/-- a value's truth -/
def truth (st : Sto) : Val → Option Bool
  | .p .non => some false
  | .p (.bl b) => some b
  | .p (.int i) => some (i != 0)
  | .p (.str x) => some !x.isEmpty
  | .p (.tup ds) => some !ds.isEmpty
  | .p (.dct ks _) => none
  | x => match viewL st x with
    | some ys => some !ys.isEmpty
    | none => none
def tTruth (m : EM) : TM := fun env st => (m env st).bind fun x st1 => match truth st1 x with
  | some b => .ok b st1
  | none => .fail
theorem truth_sem {bb : Bool} (s : Sim G μ H st) (r : RpV G.K G.hid [] μ H v x) (e : truth st x = some bb) : TruV G.K v H bb := by
  have lst : ∀ {ys}, viewL st x = some ys → TruV G.K v H (!ys.isEmpty) := fun {ys} q => by
    obtain ⟨a, vs, rfl, h1, h2⟩ := viewL_sem s r q
    refine .inl ⟨vs, h1, ?_⟩
    have hl := h2.length
    cases vs <;> cases ys <;> simp_all
  unfold truth at e
  split at e
  · cases e; cases r; rfl
  · cases e; cases r; rfl
  · cases e; cases r; rfl
  · cases e
    cases r with
    | str _ hl =>
      rename_i t
      have hz : (16000000 : Nat) ≤ sizeLine := by decide
      refine ⟨by rw [toS_len]; exact Nat.le_trans hl hz, ?_⟩
      rw [toS_len]
      cases t <;> simp
      omega
  · cases e
    cases r with
    | tup h1 h2 =>
      refine .inr (.inl ⟨_, h1, ?_⟩)
      have hl := h2.length
      rename_i ds a vs
      cases ds <;> cases vs <;> simp_all
  · cases e
  · split at e
    · rename_i ys q
      cases e
      exact lst q
    · cases e
def plainTest : Expr → Bool
  | .UnaryOp .Not _ _ => false
  | .BoolOp _ _ _ => false
  | .IfExp _ _ _ _ => false
  | .Compare _ _ _ _ => false
  | _ => true
theorem isTrue_of {e : Expr} (h : plainTest e = true) (env : Env) (whole : Sem Value) : isTrue e env whole = (do let v ← whole; standAt e.pos; holding [v] (truthy v)) := by
  cases e
  case UnaryOp op x p =>
    cases op <;> first | rfl | cases h
  all_goals first | rfl | cases h
theorem dt_truth (hK : X.K = G.K) (ha : DE X G W a ma) (hp : plainTest a = true) : DT X G W a (tTruth ma) :=
  PT.by (pt_truth ha (isTrue_of hp X.env)) fun σ H Q ⟨μ, env, st, s, en, f⟩ => by
    refine ⟨μ, env, st, s, en, f.bind.mono fun x st1 μ1 H1 e1 s1 h1 v rv => ?_⟩
    cases q : truth st1 x with
    | none => rw [q] at h1; exact h1.elim
    | some b =>
      rw [q] at h1
      rw [hK]
      exact ⟨b, truth_sem s1 rv q, h1.ok s1⟩
/-! ### chains of two comparisons -/
def mChain (f g : F2) (ma mb mc : EM) : EM := fun env st => (ma env st).bind fun x st1 => (mb env st1).bind fun y st2 => match f x y st2 with
  | some (.p (.bl true), st3) => (mc env st3).bind fun z st4 => R.lift (g y z st4)
  | some (.p (.bl false), st3) => .ok (.p (.bl false)) st3
  | _ => .fail
theorem rdChain {r r' : R2} {f g : F2} {mc : EM} (o : OpSem G r f) (o' : OpSem G r' g) (σ : L2.St) (H : Hp) (Q : VK) (h : RdE G W (mChain f g ma mb mc) σ H Q) : tChain r r' (RdE G W ma) (RdE G W mb) (RdE G W mc) σ H Q := by
  obtain ⟨μ, env, st, s, en, h⟩ := h
  refine ⟨μ, env, st, s, en, h.bind.mono fun x st1 μ1 H1 e1 s1 h1 v rv => ?_⟩
  refine ⟨μ1, env, st1, s1, en.ext e1, h1.bind.mono fun y st2 μ2 H2 e2 s2 h2 w rw_ => ?_⟩
  have en2 := (en.ext e1).ext e2
  cases q : f x y st2 with
  | none => rw [q] at h2; exact h2.elim
  | some p =>
    obtain ⟨z, st3⟩ := p
    rw [q] at h2
    refine o μ2 H2 st2 v w x y z st3 _ s2 (rv.ext e2) rw_ q fun μ3 H3 u e3 s3 r3 => ?_
    split at h2
    · rename_i q'
      cases q'
      cases r3
      refine ⟨true, rfl, iteT ⟨μ3, env, _, s3, en2.ext e3, (Fin.ext e3 h2).bind.mono fun zz st4 μ4 H4 e4 s4 h4 u ru => ?_⟩⟩
      cases q4 : g y zz st4 with
      | none => rw [q4] at h4; exact h4.elim
      | some p4 =>
        obtain ⟨z5, st5⟩ := p4
        rw [q4] at h4
        exact o' μ4 H4 st4 w u y zz z5 st5 Q s4 ((rw_.ext e3).ext e4) ru q4 fun μ5 H5 t e5 s5 r5 => h4 μ5 H5 e5 s5 t r5
    · rename_i q'
      cases q'
      cases r3
      exact ⟨false, rfl, iteF ((Fin.ext e3 h2).ok s3 _ (.bl _))⟩
    · exact h2.elim
theorem marks2 {op op' : CmpOp} {b c : Expr} (h : behindInMarks op' c = false) : lastMarks [op, op'] [b, c] = false := h
theorem de_chain {op op' : CmpOp} {r r' : R2} {f g : F2} {mc : EM} (ho : OpR X (compareOp op) r) (ho' : OpR X (compareOp op') r') (o : OpSem G r f) (o' : OpSem G r' g) (ha : DE X G W a ma) (hb : DE X G W b mb) (hc : DE X G W c mc) (hm : behindInMarks op' c = false) :
    DE X G W (.Compare a [op, op'] [b, c] pos) (mChain f g ma mb mc) := PE.by (pe_chain ho ho' ha hb hc (marks2 hm)) (rdChain o o')
theorem dt_chain {op op' : CmpOp} {r r' : R2} {f g : F2} {mc : EM} (ho : OpR X (compareOp op) r) (ho' : OpR X (compareOp op') r') (o : OpSem G r f) (o' : OpSem G r' g) (ha : DE X G W a ma) (hb : DE X G W b mb) (hc : DE X G W c mc) (hm : behindInMarks op' c = false) :
    DT X G W (.Compare a [op, op'] [b, c] pos) (tVal (mChain f g ma mb mc)) := PT.by (pt_chain ho ho' ha hb hc (marks2 hm)) fun σ H Q ⟨μ, env, st, s, en, f⟩ => rdChain o o' σ H _ ⟨μ, env, st, s, en, f.bind.mono fun x st1 μ1 H1 e1 s1 h1 v rv => by
    split at h1
    · cases rv
      exact ⟨_, rfl, h1.ok s1⟩
    · exact h1.elim⟩
end
end
end Sl
end
section
set_option Elab.async false
set_option linter.all false
set_option maxRecDepth 100000
namespace Sl
open PySem PySem.Spec PyProof.Rows L2

def strL : List Val → Option (List T)
  | [] => some []
  | .p (.str b) :: vs => match strL vs with
    | some bs => some (b :: bs)
    | none => none
  | _ :: _ => none
/-- the items of a list or a tuple -/
def viewS (st : Sto) (x : Val) : Option (List Val) := match viewT x with
  | some ds => some (ds.map .p)
  | none => viewL st x
def joinT (sep : T) : List T → T
  | [] => []
  | [p] => p
  | p :: q :: r => p ++ (sep ++ joinT sep (q :: r))
/-- a text cut at each sign c -/
def splitC (c : Char) : T → List T
  | [] => [[]]
  | d :: r => if d = c then [] :: splitC c r else match splitC c r with
    | w :: ws => (d :: w) :: ws
    | [] => [[d]]
section
variable {X : Cx} {G : Grd} {μ : List Addr} {H : Hp} {st : Sto} {v : V} {x : Val}
theorem RpVs.strs {K : Frag} {hid : List Addr} : ∀ {vs : List V} {xs : List Val} {bs : List T}, RpVs K hid μ H vs xs → strL xs = some bs → vs = (bs.map toS).map V.str ∧ ∀ b ∈ bs, b.length ≤ tMax
  | _, _, _, .nil, e => by cases e; exact ⟨rfl, fun _ h => nomatch h⟩
  | _, _, _, .cons (a := v) (b := x) (l₁ := vt) (l₂ := xt) r t, e => by
    cases x with
    | p d =>
      cases d with
      | str b =>
        cases q : strL xt with
        | none => simp [strL, q] at e
        | some bs =>
          simp [strL, q] at e
          subst e
          cases r with
          | str _ hl =>
            obtain ⟨h1, h2⟩ := RpVs.strs t q
            refine ⟨by rw [h1]; rfl, fun b hb => ?_⟩
            rcases List.mem_cons.mp hb with rfl | hb
            · exact hl
            · exact h2 b hb
      | _ => simp [strL] at e
    | _ => simp [strL] at e
theorem viewS_sem {ys : List Val} (s : Sim G μ H st) (r : RpV G.K G.hid [] μ H v x) (e : viewS st x = some ys) : ∃ a vs, v = .ref a ∧ (SqL G.K H a vs ∨ SqT G.K H a vs) ∧ RpVs G.K G.hid μ H vs ys := by
  unfold viewS at e
  split at e
  · rename_i ds q
    cases e
    obtain ⟨a, vs, rfl, h1, h2⟩ := viewT_sem r q
    exact ⟨a, vs, rfl, .inr h1, RpL.vals h2⟩
  · obtain ⟨a, vs, rfl, h1, h2⟩ := viewL_sem s r e
    exact ⟨a, vs, rfl, .inl h1, h2⟩
theorem tl_toS (x : T) : TL.tl (toS x) = codes x := cps_toS x
theorem joinL_codes (sep : T) : ∀ ys : List T, TL.joinL (codes sep) (ys.map codes) = codes (joinT sep ys)
  | [] => rfl
  | [p] => rfl
  | p :: q :: r => by
    show codes p ++ (codes sep ++ TL.joinL (codes sep) ((q :: r).map codes)) = codes (p ++ (sep ++ joinT sep (q :: r)))
    rw [joinL_codes sep (q :: r)]
    simp [codes]
theorem join_toS (sep : T) (ys : List T) : Txt.join (toS sep) (ys.map toS) = toS (joinT sep ys) := by
  rw [TL.join_eq]
  refine TL.ext_tl ?_
  rw [TL.tl_join, tl_toS, tl_toS, List.map_map]
  have : (ys.map (TL.tl ∘ toS)) = ys.map codes := List.map_congr_left fun y _ => tl_toS y
  rw [this, joinL_codes]
def joinLen (sep : T) (ys : List T) : Nat := (ys.map List.length).sum + ys.length * sep.length
theorem joinT_len (sep : T) : ∀ ys : List T, (joinT sep ys).length ≤ joinLen sep ys
  | [] => by simp [joinT, joinLen]
  | [p] => by simp [joinT, joinLen]
  | p :: q :: r => by
    have ih := joinT_len sep (q :: r)
    simp only [joinT, joinLen, List.length_append, List.map_cons, List.sum_cons, List.length_cons, Nat.succ_mul] at ih ⊢
    omega
def isStrV : Val → Sto → Bool := fun x _ => match x with
  | .p (.str _) => true
  | _ => false
theorem ty_str : TySem G "str" isStrV := fun μ H st v x s r e => by
  unfold isStrV at e
  split at e
  · cases r; rfl
  · cases e
def fJoin : Val → List Val → Sto → Option (Val × Sto) := fun x xs st => match x, xs with
  | .p (.str sep), [y] => match viewS st y with
    | some ys => match strL ys with
      | some ts => if joinLen sep ts ≤ tMax then some (.p (.str (joinT sep ts)), st) else none
      | none => none
    | none => none
  | _, _ => none
def rJoinX (K : Frag) : V → List V → Hp → VK → Prop := fun x xs H Q => ∃ a p, ∃ ys : List Str, x = .str a ∧ xs = [.ref p] ∧ (SqL K H p (ys.map V.str) ∨ SqT K H p (ys.map V.str)) ∧ (ys.map (·.length)).sum + ys.length * a.length ≤ 16777216 ∧ Q (.str (Txt.join a ys)) H
theorem sem_join : MtSem G "str" (rJoinX G.K) fJoin := by
  intro μ H st v x vs xs z st' Q s rx rv e k
  unfold fJoin at e
  split at e
  · rename_i sep y
    split at e
    · rename_i ys q
      split at e
      · rename_i ts qt
        split at e
        · rename_i hl
          cases e
          cases rx
          obtain ⟨w, rfl, r⟩ := rv.one
          obtain ⟨a, ws, rfl, h1, h2⟩ := viewS_sem s r q
          obtain ⟨h3, _⟩ := h2.strs qt
          subst h3
          refine ⟨_, a, ts.map toS, rfl, rfl, h1, ?_, ?_⟩
          · have e1 : (ts.map toS).map (·.length) = ts.map List.length := by
              rw [List.map_map]
              exact List.map_congr_left fun y _ => toS_len y
            have hz : tMax ≤ 16777216 := by decide
            rw [e1, List.length_map, toS_len]
            exact Nat.le_trans hl hz
          · rw [join_toS]
            exact k μ H _ Ext.refl s (.str _ (Nat.le_trans (joinT_len _ _) hl))
        · cases e
      · cases e
    · cases e
  · cases e
theorem splitC_ne (c : Char) : ∀ x : T, splitC c x ≠ []
  | [] => by simp [splitC]
  | d :: r => by
    unfold splitC
    split
    · simp
    · split <;> simp
theorem spl_codes (c : Char) : ∀ (x : T) (acc : List Nat), TL.spl [c.toNat] 0 acc (codes x) = match splitC c x with
    | w :: ws => (acc ++ codes w) :: ws.map codes
    | [] => []
  | [], acc => by simp [codes, TL.spl, splitC]
  | d :: r, acc => by
    have hc : codes (d :: r) = d.toNat :: codes r := rfl
    rw [hc]
    by_cases q : d = c
    · subst q
      have hp : TL.pre [d.toNat] (d.toNat :: codes r) = true := by simp [TL.pre]
      rw [TL.spl_hit hp]
      have ih := spl_codes d r []
      show acc :: TL.spl [d.toNat] 0 [] (codes r) = _
      rw [ih]
      have e2 : splitC d (d :: r) = [] :: splitC d r := by rw [splitC, if_pos rfl]
      rw [e2]
      cases hw : splitC d r with
      | nil => exact absurd hw (splitC_ne d r)
      | cons w ws => simp [codes]
    · have hp : TL.pre [c.toNat] (d.toNat :: codes r) = false := TL.pre_of_head _ _ fun z => q (char_inj z)
      rw [TL.spl_miss hp, spl_codes c r]
      have e2 : splitC c (d :: r) = (match splitC c r with | w :: ws => (d :: w) :: ws | [] => [[d]]) := by
        rw [splitC, if_neg q]
      rw [e2]
      cases hw : splitC c r with
      | nil => exact absurd hw (splitC_ne c r)
      | cons w ws => simp [codes]
theorem split_toS (c : Char) (h : c.toNat < 256) (x : T) : Txt.split (toS x) (toS [c]) = (splitC c x).map toS := by
  have hk : (toS [c]).cps.all (· < 256) = true := by simp [toS, h]
  have h1 := TL.split_spl (toS x) (toS [c]) (by rw [tl_toS]; simp [codes]) (TL.kind_ok hk)
  rw [tl_toS, tl_toS] at h1
  have h2 := spl_codes c x []
  refine TL.map_tl_inj ?_
  rw [h1]
  show TL.spl [c.toNat] 0 [] (codes x) = _
  rw [h2, List.map_map]
  cases hw : splitC c x with
  | nil => exact absurd hw (splitC_ne c x)
  | cons w ws =>
    have : (ws.map (TL.tl ∘ toS)) = ws.map codes := List.map_congr_left fun y _ => tl_toS y
    simp only [List.nil_append, List.map_cons, Function.comp, tl_toS] at this ⊢
    rw [this]
theorem splitC_len (c : Char) : ∀ x : T, (splitC c x).length ≤ x.length + 1 ∧ ∀ w ∈ splitC c x, w.length ≤ x.length
  | [] => by simp [splitC]
  | d :: r => by
    have ih := splitC_len c r
    unfold splitC
    split
    · refine ⟨by simp; exact ih.1, fun w hw => ?_⟩
      rcases List.mem_cons.mp hw with rfl | hw
      · simp
      · have := ih.2 w hw; simp; omega
    · cases hw : splitC c r with
      | nil => exact absurd hw (splitC_ne c r)
      | cons w ws =>
        rw [hw] at ih
        refine ⟨by simp at ih ⊢; omega, fun u hu => ?_⟩
        rcases List.mem_cons.mp hu with rfl | hu
        · have := ih.2 w (List.mem_cons_self ..); simp; omega
        · have := ih.2 u (List.mem_cons_of_mem _ hu); simp; omega
def fSplit (md : Bool) : Val → List Val → Sto → Option (Val × Sto) := fun x xs st => match x, xs with
  | .p (.str t), [.p (.str [c])] => if c.toNat < 256 then newLst md ((splitC c t).map fun w => .p (.str w)) st else none
  | _, _ => none
def rSplitX : V → List V → Hp → VK → Prop := fun x xs H Q => ∃ a b, x = .str a ∧ xs = [.str b] ∧ (b.length == 0) = false ∧ a.length + 2 ≤ sizeLine ∧ rNewStrs (Txt.split a b) H Q
theorem strs_rp {K : Frag} {hid : List Addr} : ∀ {ws : List T}, (∀ w ∈ ws, w.length ≤ tMax) → RpVs K hid μ H ((ws.map toS).map V.str) (ws.map fun w => .p (.str w))
  | [], _ => .nil
  | w :: ws, h => .cons (Rp.str w (h w (List.mem_cons_self ..))) (strs_rp fun u hu => h u (List.mem_cons_of_mem _ hu))
theorem sem_split {md : Bool} : MtSem G "str" rSplitX (fSplit md) := by
  intro μ H st v x vs xs z st' Q s rx rv e k
  unfold fSplit at e
  split at e
  · rename_i t c
    split at e
    · rename_i hc
      cases rx with
      | str _ hl =>
        obtain ⟨w, rfl, r⟩ := rv.one
        cases r
        have hz : (16000002 : Nat) ≤ sizeLine := by decide
        have hl' : t.length ≤ 16000000 := hl
        refine ⟨_, _, rfl, rfl, rfl, by rw [toS_len]; omega, ?_⟩
        rw [split_toS c hc]
        exact (newLst_sem s (strs_rp fun w hw => Nat.le_trans ((splitC_len c t).2 w hw) hl) e k).2
    · cases e
  · cases e

/-! ### f-strings -/
def mFmt (m : EM) : EM := fun env st => (m env st).bind fun x st1 => match strOf x with
  | some t => .ok (.p (.str t)) st1
  | none => .fail
theorem de_fmt {W : WX} {e : Expr} {m : EM} {pos : Pos} (h : DE X G W e m) : DE X G W (.FormattedValue e (-1) none pos) (mFmt m) :=
  PE.by (pe_fmt h) fun σ H Q ⟨μ, env, st, s, en, f⟩ => by
    refine ⟨μ, env, st, s, en, f.bind.mono fun x st1 μ1 H1 e1 s1 h1 v rv => ?_⟩
    split at h1
    · rename_i t q
      unfold strOf at q
      split at q
      · split at q
        · rename_i i hl
          cases q
          cases rv
          exact .inr ⟨i, rfl, hl, by rw [ofString_toS]; exact h1.ok s1 _ (.str _ (decT_len hl))⟩
        · cases q
      · cases q
        cases rv with
        | str _ hl =>
          have hz : (16000000 : Nat) ≤ sizeLine := by decide
          exact .inl ⟨_, rfl, by rw [toS_len]; exact Nat.le_trans hl hz, h1.ok s1 _ (.str _ hl)⟩
      · cases q
    · exact h1.elim
/-- the parts one behind the other -/
def mJs : List EM → T → EM
  | [], acc => fun _ st => .ok (.p (.str acc)) st
  | m :: ms, acc => fun env st => (m env st).bind fun x st1 => match x with
    | .p (.str t) => if (acc ++ t).length ≤ tMax then mJs ms (acc ++ t) env st1 else .fail
    | _ => .fail
inductive DJ (X : Cx) (G : Grd) (W : WX) : List Expr → List EM → Prop where
  | nil : DJ X G W [] []
  | cons {e : Expr} {m : EM} {es : List Expr} {ms : List EM} (h : DE X G W e m) (r : DJ X G W es ms) : DJ X G W (e :: es) (m :: ms)
theorem DJ.pj {W : WX} : ∀ {es : List Expr} {ms : List EM}, DJ X G W es ms → PJ X es (ms.map (RdE G W))
  | _, _, .nil => .nil
  | _, _, .cons h r => .cons h r.pj
theorem rdJs {W : WX} : ∀ (ms : List EM) (acc : T) (σ : L2.St) (H : Hp) (Q : VK), acc.length ≤ tMax → RdE G W (mJs ms acc) σ H Q → tJs (ms.map (RdE G W)) (toS acc) σ H fun out H1 => Q (.str out) H1
  | [], acc, σ, H, Q, hl, ⟨μ, env, st, s, en, f⟩ => f.ok s _ (.str _ hl)
  | m :: ms, acc, σ, H, Q, hl, ⟨μ, env, st, s, en, f⟩ => by
    refine ⟨μ, env, st, s, en, f.bind.mono fun x st1 μ1 H1 e1 s1 h1 v rv => ?_⟩
    split at h1
    · rename_i t
      split at h1
      · rename_i hl2
        cases rv
        have hz : (16000000 : Nat) ≤ sizeLine := by decide
        refine ⟨_, rfl, by rw [toS_app, toS_len]; exact Nat.le_trans hl2 hz, ?_⟩
        rw [toS_app]
        exact rdJs ms (acc ++ t) σ H1 Q hl2 ⟨μ1, env, st1, s1, en.ext e1, h1⟩
      · exact h1.elim
    · exact h1.elim
theorem de_joined {W : WX} {v1 v2 : Expr} {rest : List Expr} {ms : List EM} {pos : Pos} (h : DJ X G W (v1 :: v2 :: rest) ms) : DE X G W (.JoinedStr (v1 :: v2 :: rest) pos) (mJs ms []) :=
  PE.by (pe_joined h.pj) fun σ H Q q => rdJs ms [] σ H Q (by decide) q
theorem de_joined1 {W : WX} {e : Expr} {m : EM} {pos : Pos} (h : DE X G W e m) : DE X G W (.JoinedStr [e] pos) m := pe_joined1 h
end
end Sl
end
section
set_option Elab.async false
set_option linter.all false
set_option maxRecDepth 100000
namespace Sl
open PySem PySem.Spec PyProof.Rows L2

/-! ### the same data -/
mutual
def sameD : D → D → Bool
  | .non, .non => true
  | .bl a, .bl b => a == b
  | .int a, .int b => a == b
  | .str a, .str b => a == b
  | .tup a, .tup b => sameDs a b
  | .lst a, .lst b => sameDs a b
  | .dct k a, .dct l b => decide (k = l) && sameDs a b
  | _, _ => false
def sameDs : List D → List D → Bool
  | [], [] => true
  | x :: xs, y :: ys => sameD x y && sameDs xs ys
  | _, _ => false
end
mutual
theorem sameD_eq : ∀ a b, sameD a b = true → a = b
  | .non, b, h => by cases b <;> simp_all [sameD]
  | .bl x, b, h => by cases b <;> simp_all [sameD]
  | .int x, b, h => by cases b <;> simp_all [sameD]
  | .str x, b, h => by cases b <;> simp_all [sameD]
  | .tup x, b, h => by
    cases b with
    | tup y => rw [sameDs_eq x y (by simpa [sameD] using h)]
    | _ => simp [sameD] at h
  | .lst x, b, h => by
    cases b with
    | lst y => rw [sameDs_eq x y (by simpa [sameD] using h)]
    | _ => simp [sameD] at h
  | .dct k x, b, h => by
    cases b with
    | dct l y =>
      simp only [sameD, Bool.and_eq_true, decide_eq_true_eq] at h
      rw [h.1, sameDs_eq x y h.2]
    | _ => simp [sameD] at h
theorem sameDs_eq : ∀ a b, sameDs a b = true → a = b
  | [], [], _ => rfl
  | [], _ :: _, h => by simp [sameDs] at h
  | _ :: _, [], h => by simp [sameDs] at h
  | x :: xs, y :: ys, h => by
    simp only [sameDs, Bool.and_eq_true] at h
    rw [sameD_eq x y h.1, sameDs_eq xs ys h.2]
end
mutual
theorem sameD_refl : ∀ a, sameD a a = true
  | .non => rfl
  | .bl x => by simp [sameD]
  | .int x => by simp [sameD]
  | .str x => by simp [sameD]
  | .tup x => by simp only [sameD]; exact sameDs_refl x
  | .lst x => by simp only [sameD]; exact sameDs_refl x
  | .dct k x => by simp only [sameD, Bool.and_eq_true]; exact ⟨by simp, sameDs_refl x⟩
theorem sameDs_refl : ∀ a, sameDs a a = true
  | [] => rfl
  | x :: xs => by simp only [sameDs, Bool.and_eq_true]; exact ⟨sameD_refl x, sameDs_refl xs⟩
end
def sameV : Val → Val → Bool
  | .p a, .p b => sameD a b
  | .r a, .r b => a == b
  | _, _ => false
def sameVs : List Val → List Val → Bool
  | [], [] => true
  | x :: xs, y :: ys => sameV x y && sameVs xs ys
  | _, _ => false
theorem sameVs_eq : ∀ {xs ys : List Val}, sameVs xs ys = true → xs = ys
  | [], [], _ => rfl
  | [], _ :: _, h => by simp [sameVs] at h
  | _ :: _, [], h => by simp [sameVs] at h
  | x :: xs, y :: ys, h => by
    simp only [sameVs, Bool.and_eq_true] at h
    rw [sameVs_eq h.2]
    have h1 := h.1
    cases x <;> cases y <;> simp only [sameV, beq_iff_eq, Bool.false_eq_true] at h1
    · rw [sameD_eq _ _ h1]
    · rw [h1]

/-! ### what is walked -/
abbrev IM := Slots → Sto → R (List Val × Option Nat)
/-- a list of the store that is walked is as it was -/
def watch (st : Sto) (src : Option Nat) (xs : List Val) : Bool := match src with
  | none => true
  | some l => match viewL st (.r l) with
    | some ys => sameVs ys xs
    | none => false
structure IterOk (G : Grd) (μ0 : List Addr) (H0 : Hp) (src : Option Nat) (xs : List Val) (J : It) : Prop where
  go : ∀ (hd : List Addr), (∀ a ∈ hd, a ∈ G.hid ∨ H0 a = none) → ∀ (μ : List Addr) (H : Hp) (st : Sto) (i : Nat), Ext μ0 H0 μ H → Sim (G.h hd) μ H st → watch st src xs = true → i < xs.length → J.go i H
  yld : ∀ (hd : List Addr), (∀ a ∈ hd, a ∈ G.hid ∨ H0 a = none) → ∀ (μ : List Addr) (H : Hp) (st : Sto) (i : Nat) (v : V) (H' : Hp), Ext μ0 H0 μ H → Sim (G.h hd) μ H st → watch st src xs = true → i < xs.length → J.yld i H v H' →
    Ext μ H μ H' ∧ Sim (G.h hd) μ H' st ∧ ∀ x, xs[i]? = some x → RpV G.K hd [] μ H' v x
  stop : ∀ (hd : List Addr), (∀ a ∈ hd, a ∈ G.hid ∨ H0 a = none) → ∀ (μ : List Addr) (H : Hp) (st : Sto), Ext μ0 H0 μ H → Sim (G.h hd) μ H st → watch st src xs = true → J.stop xs.length H
def RdI (G : Grd) (W : WX) (mi : IM) : TI := fun σ H Q => ∃ μ env st, Sim G μ H st ∧ EnvRp G μ H env σ ∧ Fin G W σ μ H (mi env st) (fun p _ μ' H' => ∀ J, IterOk G μ' H' p.2 p.1 J → Q J H')
abbrev DI (X : Cx) (G : Grd) (W : WX) (tg e : Expr) (mi : IM) : Prop := PI X tg e (RdI G W mi)
def itemsOf (st : Sto) : Val → Option (List Val × Option Nat)
  | .p (.lst ds) => some (ds.map .p, none)
  | .p (.tup ds) => some (ds.map .p, none)
  | .p (.str t) => some (t.map fun c => .p (.str [c]), none)
  | .r l => match viewL st (.r l) with
    | some ys => some (ys, some l)
    | none => none
  | _ => none
def mIter (m : EM) : IM := fun env st => (m env st).bind fun x st1 => match itemsOf st1 x with
  | some p => .ok p st1
  | none => .fail
section
variable {X : Cx} {G : Grd} {W : WX} {μ : List Addr} {H : Hp} {st : Sto} {v : V} {x : Val}
theorem RpVs.at {K : Frag} {hid : List Addr} {vs : List V} {ys : List Val} {i : Nat} {w : V} (r : RpVs K hid μ H vs ys) (e : vs[i]? = some w) : ∀ y, ys[i]? = some y → RpV K hid [] μ H w y := fun y ey => by
  obtain ⟨u, h1, h2⟩ := r.get ey
  rw [e] at h1
  cases h1
  exact h2
theorem sqT_ext {K : Frag} {μ μ' : List Addr} {H H' : Hp} (e : Ext μ H μ' H') {a : Addr} {vs : List V} (h : SqT K H a vs) : SqT K H' a vs := by
  rcases h with h | h
  · exact .inl (e.tup _ _ h)
  · exact .inr h
theorem iter_tup {a : Addr} {vs : List V} {ds : List D} (h1 : SqT G.K H a vs) (h2 : RpL G.K (Fz G.hid μ) H vs ds) : IterOk G μ H none (ds.map .p) (Itt G.K a) := by
  have hl : vs.length = (ds.map Val.p).length := by rw [h2.length, List.length_map]
  refine ⟨fun hd hh μ' H' st i e s _ hi => ?_, fun hd hh μ' H' st i v H2 e s _ hi y => ?_, fun hd hh μ' H' st e s _ => ?_⟩
  · exact walk_tup.goes i H' (by omega) (sqT_ext e h1)
  · obtain ⟨rfl, hv⟩ := walk_tup.yields i H' v H2 (by omega) (sqT_ext e h1) y
    exact ⟨Ext.refl, s, RpVs.at (hid := hd) (RpL.vals (RpL.carry (e.carryH hh) _ _ h2)) hv⟩
  · rw [← hl]
    exact walk_tup.stops H' (sqT_ext e h1)
theorem iter_lst {a : Addr} {vs : List V} {ds : List D} (h1 : H a = some (.lst vs)) (hF : Fz G.hid μ a) (h2 : RpL G.K (Fz G.hid μ) H vs ds) : IterOk G μ H none (ds.map .p) (Itl G.K a) := by
  have hl : vs.length = (ds.map Val.p).length := by rw [h2.length, List.length_map]
  have hs : ∀ {μ' : List Addr} {H' : Hp}, Ext μ H μ' H' → SqL G.K H' a vs := fun e => .inl (.inl (e.lst _ _ hF.1 h1))
  refine ⟨fun hd hh μ' H' st i e s _ hi => ?_, fun hd hh μ' H' st i v H2 e s _ hi y => ?_, fun hd hh μ' H' st e s _ => ?_⟩
  · exact walk_list.goes i H' (by omega) (hs e)
  · obtain ⟨rfl, hv⟩ := walk_list.yields i H' v H2 (by omega) (hs e) y
    exact ⟨Ext.refl, s, RpVs.at (hid := hd) (RpL.vals (RpL.carry (e.carryH hh) _ _ h2)) hv⟩
  · rw [← hl]
    exact walk_list.stops H' (hs e)
theorem iter_sto {l : Nat} {a : Addr} {ys : List Val} (h1 : μ[l]? = some a) : IterOk G μ H (some l) ys (Itl G.K a) := by
  have key : ∀ {hd : List Addr} {μ' : List Addr} {H' : Hp} {st : Sto}, Ext μ H μ' H' → Sim (G.h hd) μ' H' st → watch st (some l) ys = true → ∃ vs, SqL G.K H' a vs ∧ RpVs G.K hd μ' H' vs ys := fun {hd μ' H' st} e s w => by
    unfold watch at w
    dsimp only at w
    split at w
    · rename_i zs q
      have ez := sameVs_eq w
      subst ez
      have hr : RpV (G.h hd).K (G.h hd).hid [] μ' H' (.ref a) (.r l) := ⟨a, rfl, by
        obtain ⟨t, ht⟩ := e.pre
        rw [← ht, List.getElem?_append_left (List.getElem?_eq_some_iff.mp h1).1]
        exact h1⟩
      obtain ⟨b, vs, eb, k1, k2⟩ := viewL_sem s hr q
      cases eb
      exact ⟨vs, k1, k2⟩
    · cases w
  refine ⟨fun hd hh μ' H' st i e s w hi => ?_, fun hd hh μ' H' st i v H2 e s w hi y => ?_, fun hd hh μ' H' st e s w => ?_⟩
  · obtain ⟨vs, k1, k2⟩ := key e s w
    exact walk_list.goes i H' (by rw [k2.length]; exact hi) k1
  · obtain ⟨vs, k1, k2⟩ := key e s w
    obtain ⟨rfl, hv⟩ := walk_list.yields i H' v H2 (by rw [k2.length]; exact hi) k1 y
    exact ⟨Ext.refl, s, RpVs.at k2 hv⟩
  · obtain ⟨vs, k1, k2⟩ := key e s w
    rw [← k2.length]
    exact walk_list.stops H' k1
theorem iter_str {t : T} : IterOk G μ H none (t.map fun c => .p (.str [c])) (Its (toS t)) := by
  have hl : (toS t).cps.size = (t.map fun c => Val.p (.str [c])).length := by simp [toS]
  refine ⟨fun hd hh μ' H' st i e s _ hi => ?_, fun hd hh μ' H' st i v H2 e s _ hi y => ?_, fun hd hh μ' H' st e s _ => ?_⟩
  · exact walk_str.goes i H' (by omega) trivial
  · obtain ⟨rfl, c, hc, rfl⟩ := walk_str.yields i H' v H2 (by omega) trivial y
    refine ⟨Ext.refl, s, fun x ex => ?_⟩
    rw [List.getElem?_map] at ex
    obtain ⟨d, hd, rfl⟩ := Option.map_eq_some_iff.mp ex
    have : c = d.toNat := by
      have h2 : (toS t).cps[i]? = some d.toNat := by simp [toS, hd]
      rw [hc] at h2
      exact Option.some.inj h2
    subst this
    exact Rp.str [d] (by show 1 ≤ tMax; decide)
  · rw [← hl]
    exact walk_str.stops H' trivial
theorem di_val {tg iter : Expr} {m : EM} (hK : X.K = G.K) (h : DE X G W iter m) : DI X G W tg iter (mIter m) := by
  refine ⟨fun pins s σ H Rr I ⟨μ, env, st, si, en, f⟩ => ?_⟩
  unfold mIter at f
  have f0 := f
  cases q : m env st with
  | fail => rw [q] at f; exact f.elim
  | exc c fs st1 =>
    rw [q] at f
    exact (pi_tup h).run pins s σ H Rr I ⟨μ, env, st, si, en, by rw [q]; exact f⟩
  | ok x st1 =>
    rw [q] at f
    have f1 : Fin G W σ μ H (match itemsOf st1 x with | some p => R.ok p st1 | none => R.fail) (fun p _ μ' H' => ∀ J, IterOk G μ' H' p.2 p.1 J → Rr J H') := f
    cases qi : itemsOf st1 x with
    | none => rw [qi] at f1; exact f1.elim
    | some p =>
      rw [qi] at f1
      obtain ⟨xs, src⟩ := p
      unfold itemsOf at qi
      split at qi
      · cases qi
        refine (pi_list h).run pins s σ H Rr I ⟨μ, env, st, si, en, ?_⟩
        rw [q]
        intro μ1 H1 e1 s1 v rv
        rw [hK]
        cases rv with
        | lst h1 h2 h3 => exact ⟨_, rfl, ⟨_, .inl (.inl h1)⟩, f1 μ1 H1 e1 s1 _ (iter_lst h1 h2 h3)⟩
      · cases qi
        refine (pi_tup h).run pins s σ H Rr I ⟨μ, env, st, si, en, ?_⟩
        rw [q]
        intro μ1 H1 e1 s1 v rv
        rw [hK]
        cases rv with
        | tup h1 h2 => exact ⟨_, rfl, ⟨_, h1⟩, f1 μ1 H1 e1 s1 _ (iter_tup h1 h2)⟩
      · cases qi
        refine (pi_str h).run pins s σ H Rr I ⟨μ, env, st, si, en, ?_⟩
        rw [q]
        intro μ1 H1 e1 s1 v rv
        cases rv with
        | str _ hl => exact ⟨_, rfl, f1 μ1 H1 e1 s1 _ iter_str⟩
      · split at qi
        · rename_i l ys qv
          cases qi
          refine (pi_list h).run pins s σ H Rr I ⟨μ, env, st, si, en, ?_⟩
          rw [q]
          intro μ1 H1 e1 s1 v rv
          rw [hK]
          obtain ⟨b, vs, rfl, k1, k2⟩ := viewL_sem s1 rv qv
          obtain ⟨a, ea, ha⟩ := rv
          cases ea
          exact ⟨_, rfl, ⟨_, k1⟩, f1 μ1 H1 e1 s1 _ (iter_sto ha)⟩
        · cases qi
      · cases qi
/-! ### ranges -/
def rngItems (lo : Int) (n : Nat) : List Val := (List.range n).map fun i => .p (.int (lo + (i : Nat)))
def inW (i : Int) : Bool := decide (-(2 ^ 62) ≤ i) && decide (i < 2 ^ 62)
theorem inW_ok {i : Int} (h : inW i = true) : -(2 ^ 62) ≤ i ∧ i < 2 ^ 62 := by
  simp only [inW, Bool.and_eq_true, decide_eq_true_eq] at h
  exact h
def mRng1 (am : AM) : IM := fun env st => (am env st).bind fun xs st1 => match xs with
  | [.p (.int j)] => if inW j = true then .ok (rngItems 0 j.toNat, none) st1 else .fail
  | _ => .fail
def mRng2 (am : AM) : IM := fun env st => (am env st).bind fun xs st1 => match xs with
  | [.p (.int i), .p (.int j)] => if inW i = true ∧ inW j = true then .ok (rngItems i (j - i).toNat, none) st1 else .fail
  | _ => .fail
def rngItemsC (lo c : Int) (n : Nat) : List Val := (List.range n).map fun i => .p (.int (lo + (i : Nat) * c))
/-- upward by steps of c -/
def mRng3 (am : AM) : IM := fun env st => (am env st).bind fun xs st1 => match xs with
  | [.p (.int i), .p (.int j), .p (.int c)] => if c ≠ 0 ∧ c.natAbs < 1073741824 ∧ Builtin.Range.small i j c = true ∧ Builtin.Range.rangeSize i j c = ((Builtin.Range.rangeSize i j c).toNat : Int) then .ok (rngItemsC i c (Builtin.Range.rangeSize i j c).toNat, none) st1 else .fail
  | _ => .fail
theorem iter_rng {lo : Int} {n : Nat} : IterOk G μ H none (rngItems lo n) (Itr lo n) := by
  have hl : n = (rngItems lo n).length := by simp [rngItems]
  refine ⟨fun hd hh μ' H' st i e s _ hi => ?_, fun hd hh μ' H' st i v H2 e s _ hi y => ?_, fun hd hh μ' H' st e s _ => ?_⟩
  · exact walk_range.goes i H' (by omega) trivial
  · obtain ⟨rfl, rfl⟩ := walk_range.yields i H' v H2 (by omega) trivial y
    refine ⟨Ext.refl, s, fun x ex => ?_⟩
    unfold rngItems at ex
    rw [List.getElem?_map] at ex
    obtain ⟨d, hd, rfl⟩ := Option.map_eq_some_iff.mp ex
    have hin : i < n := by omega
    rw [List.getElem?_range hin] at hd
    cases hd
    exact Rp.int _
  · rw [← hl]
    exact walk_range.stops H' trivial
theorem iter_rngC {lo c : Int} {n : Nat} : IterOk G μ H none (rngItemsC lo c n) (Itc lo c n) := by
  have hl : n = (rngItemsC lo c n).length := by simp [rngItemsC]
  refine ⟨fun hd hh μ' H' st i e s _ hi => ?_, fun hd hh μ' H' st i v H2 e s _ hi y => ?_, fun hd hh μ' H' st e s _ => ?_⟩
  · exact walk_rangeC.goes i H' (by omega) trivial
  · obtain ⟨rfl, rfl⟩ := walk_rangeC.yields i H' v H2 (by omega) trivial y
    refine ⟨Ext.refl, s, fun x ex => ?_⟩
    unfold rngItemsC at ex
    rw [List.getElem?_map] at ex
    obtain ⟨d, hd, rfl⟩ := Option.map_eq_some_iff.mp ex
    have hin : i < n := by omega
    rw [List.getElem?_range hin] at hd
    cases hd
    exact Rp.int _
  · rw [← hl]
    exact walk_rangeC.stops H' trivial
theorem RpVs.three {K : Frag} {hid : List Addr} {vs : List V} {x y z : Val} (h : RpVs K hid μ H vs [x, y, z]) : ∃ v w u, vs = [v, w, u] ∧ RpV K hid [] μ H v x ∧ RpV K hid [] μ H w y ∧ RpV K hid [] μ H u z := by
  cases h with
  | cons r t =>
    obtain ⟨w, u, rfl, q⟩ := RpVs.two t
    exact ⟨_, _, _, rfl, r, q⟩
theorem di_rng1 {tg a : Expr} {am : AM} {p pos : Pos} (hg : Gl X "range") (hm : X.mg "range" = none) (h : DA X G W [a] am) (hn : notStar a = true) : DI X G W tg (.Call (.Name "range" p) [a] [] pos) (mRng1 am) := by
  refine ⟨fun pins s σ H Rr I ⟨μ, env, st, si, en, f⟩ => (pi_range1 (tg := tg) (p := p) (pos := pos) hg hm h (starEach_plain hn [] X.env)).run pins s σ H Rr I ⟨μ, env, st, si, en, f.bind.mono fun xs st1 μ1 H1 e1 s1 h1 vs rv => ?_⟩⟩
  split at h1
  · split at h1
    · rename_i j hj
      obtain ⟨v, rfl, r⟩ := rv.one
      cases r
      exact ⟨j, rfl, (inW_ok hj).1, (inW_ok hj).2, h1.ok s1 _ iter_rng⟩
    · exact h1.elim
  · exact h1.elim
theorem di_rng2 {tg a b : Expr} {am : AM} {p pos : Pos} (hg : Gl X "range") (hm : X.mg "range" = none) (h : DA X G W [a, b] am) (hn : notStar a = true) (hn' : notStar b = true) : DI X G W tg (.Call (.Name "range" p) [a, b] [] pos) (mRng2 am) := by
  refine ⟨fun pins s σ H Rr I ⟨μ, env, st, si, en, f⟩ => (pi_range2 (tg := tg) (p := p) (pos := pos) hg hm h (by rw [starEach_plain hn, starEach_plain hn']; rfl) (starEach_plain hn' [] X.env)).run pins s σ H Rr I ⟨μ, env, st, si, en, f.bind.mono fun xs st1 μ1 H1 e1 s1 h1 vs rv => ?_⟩⟩
  split at h1
  · split at h1
    · rename_i i j hj
      obtain ⟨v, w, rfl, r, r'⟩ := rv.two
      cases r
      cases r'
      exact ⟨i, j, rfl, ⟨(inW_ok hj.1).1, (inW_ok hj.1).2, (inW_ok hj.2).1, (inW_ok hj.2).2⟩, h1.ok s1 _ iter_rng⟩
    · exact h1.elim
  · exact h1.elim
theorem di_rng3 {tg a b c : Expr} {am : AM} {p pos : Pos} (hg : Gl X "range") (hm : X.mg "range" = none) (h : DA X G W [a, b, c] am) (hn : ([a, b, c] : List Expr).all notStar = true) : DI X G W tg (.Call (.Name "range" p) [a, b, c] [] pos) (mRng3 am) := by
  have hn' := hn
  simp only [List.all_cons, Bool.and_eq_true] at hn'
  refine ⟨fun pins s σ H Rr I ⟨μ, env, st, si, en, f⟩ => (pi_range3 (tg := tg) (p := p) (pos := pos) hg hm h (starEach_plain hn'.1 _ _) (star_all pos X.env (by simp [hn'.2.1, hn'.2.2]))).run pins s σ H Rr I ⟨μ, env, st, si, en, f.bind.mono fun xs st1 μ1 H1 e1 s1 h1 vs rv => ?_⟩⟩
  split at h1
  · split at h1
    · rename_i i j c hj
      obtain ⟨v, w, u, rfl, r, r', r''⟩ := rv.three
      cases r
      cases r'
      cases r''
      exact ⟨i, j, c, _, rfl, ⟨hj.1, hj.2.1, hj.2.2.1, hj.2.2.2⟩, h1.ok s1 _ iter_rngC⟩
    · exact h1.elim
  · exact h1.elim
/-! ### enumerate, zip -/
def enumItems (ds : List D) : List Val := ds.mapIdx fun i d => .p (.tup [.int (i : Nat), d])
/-- what is enumerated, zipped: a list of data -/
def srcOf (st : Sto) : Val → Option (List D × Option Nat)
  | .p (.lst ds) => some (ds, none)
  | .r l => match viewL st (.r l) with
    | some ys => match pureL ys with
      | some ds => some (ds, some l)
      | none => none
    | none => none
  | _ => none
def mEnum (am : AM) : IM := fun env st => (am env st).bind fun xs st1 => match xs with
  | [x] => match srcOf st1 x with
    | some (ds, none) => .ok (enumItems ds, none) st1
    | _ => .fail
  | _ => .fail
/-- a list that is data, as it stands from now on -/
theorem srcOf_lst {ds : List D} {src : Option Nat} (r : RpV G.K G.hid [] μ H v x) (e : srcOf st x = some (ds, none)) : ∃ a vs, v = .ref a ∧ H a = some (.lst vs) ∧ Fz G.hid μ a ∧ RpL G.K (Fz G.hid μ) H vs ds := by
  unfold srcOf at e
  split at e
  · cases e
    cases r with
    | lst h1 h2 h3 => exact ⟨_, _, rfl, h1, h2, h3⟩
  · split at e
    · split at e
      · cases e
      · cases e
    · cases e
  · cases e
theorem iter_enum {a : Addr} {vs : List V} {ds : List D} (h1 : H a = some (.lst vs)) (hF : Fz G.hid μ a) (h2 : RpL G.K (Fz G.hid μ) H vs ds) : IterOk G μ H none (enumItems ds) (Ite G.K a) := by
  have hl : vs.length = (enumItems ds).length := by simp [enumItems, h2.length]
  have hs : ∀ {μ' : List Addr} {H' : Hp}, Ext μ H μ' H' → SqL G.K H' a vs := fun e => .inl (.inl (e.lst _ _ hF.1 h1))
  refine ⟨fun hd hh μ' H' st i e s _ hi => ?_, fun hd hh μ' H' st i v H2 e s _ hi y => ?_, fun hd hh μ' H' st e s _ => ?_⟩
  · exact walk_enum.goes i H' (by omega) (hs e)
  · obtain ⟨T, x, z, rfl, nT, rfl, hx, hz⟩ := walk_enum.yields i H' v H2 (by omega) (hs e) y
    have hz' : vs[i]? = some z := hz
    cases hx
    refine ⟨Ext.new nT, s.new nT, fun q eq => ?_⟩
    unfold enumItems at eq
    rw [List.getElem?_mapIdx] at eq
    obtain ⟨d, hd, rfl⟩ := Option.map_eq_some_iff.mp eq
    obtain ⟨w, hw, rw_⟩ := (RpL.carry (Ext.new nT).carry _ _ (RpL.carry (e.carryH hh) _ _ h2)).get hd
    rw [hz'] at hw
    cases hw
    exact Rp.tup (.inl (.inl upd_same)) (.cons (.int _) (.cons rw_ .nil))
  · rw [← hl]
    exact walk_enum.stops H' (hs e)
theorem di_enum {a : Expr} {am : AM} {p pos tpos : Pos} {elts : List Expr} {kk : Nat} (hK : X.K = G.K) (hg : Gl X "enumerate") (hm : X.mg "enumerate" = none) (h : DA X G W [a] am) (hn : notStar a = true) :
    DI X G W (.Tuple elts kk tpos) (.Call (.Name "enumerate" p) [a] [] pos) (mEnum am) := by
  refine ⟨fun pins s σ H Rr I ⟨μ, env, st, si, en, f⟩ => (pi_enum (p := p) (pos := pos) hg hm h (starEach_plain hn [] X.env)).run pins s σ H Rr I ⟨μ, env, st, si, en, f.bind.mono fun xs st1 μ1 H1 e1 s1 h1 vs rv => ?_⟩⟩
  split at h1
  · split at h1
    · rename_i x ds q
      obtain ⟨v, rfl, r⟩ := rv.one
      obtain ⟨b, ws, rfl, k1, k2, k3⟩ := srcOf_lst (src := none) r q
      exact ⟨b, ws, rfl, by rw [hK]; exact .inl (.inl k1), h1.ok s1 _ (by rw [hK]; exact iter_enum k1 k2 k3)⟩
    · exact h1.elim
  · exact h1.elim
def zipItems (ds es : List D) : List Val := (ds.zip es).map fun p => .p (.tup [p.1, p.2])
def mZip (am : AM) : IM := fun env st => (am env st).bind fun xs st1 => match xs with
  | [x, y] => match srcOf st1 x, srcOf st1 y with
    | some (ds, none), some (es, none) => .ok (zipItems ds es, none) st1
    | _, _ => .fail
  | _ => .fail
theorem iter_zip {a b : Addr} {vs ws : List V} {ds es : List D} (h1 : H a = some (.lst vs)) (hF : Fz G.hid μ a) (h2 : RpL G.K (Fz G.hid μ) H vs ds) (k1 : H b = some (.lst ws)) (kF : Fz G.hid μ b) (k2 : RpL G.K (Fz G.hid μ) H ws es) :
    IterOk G μ H none (zipItems ds es) (Itz G.K a b) := by
  have hl : min vs.length ws.length = (zipItems ds es).length := by simp [zipItems, h2.length, k2.length]
  have hs : ∀ {μ' : List Addr} {H' : Hp}, Ext μ H μ' H' → SqL G.K H' a vs ∧ SqL G.K H' b ws := fun e => ⟨.inl (.inl (e.lst _ _ hF.1 h1)), .inl (.inl (e.lst _ _ kF.1 k1))⟩
  refine ⟨fun hd hh μ' H' st i e s _ hi => ?_, fun hd hh μ' H' st i v H2 e s _ hi y => ?_, fun hd hh μ' H' st e s _ => ?_⟩
  · exact (walk_zip rfl).goes i H' (by omega) (hs e)
  · obtain ⟨T, x, z, rfl, nT, rfl, hx, hz⟩ := (walk_zip rfl).yields i H' v H2 (by omega) (hs e) y
    refine ⟨Ext.new nT, s.new nT, fun q eq => ?_⟩
    unfold zipItems at eq
    rw [List.getElem?_map] at eq
    obtain ⟨pq, hd, rfl⟩ := Option.map_eq_some_iff.mp eq
    rw [List.getElem?_zip_eq_some] at hd
    obtain ⟨w, hw, rw_⟩ := (RpL.carry (Ext.new nT).carry _ _ (RpL.carry (e.carryH hh) _ _ h2)).get hd.1
    obtain ⟨w', hw', rw2⟩ := (RpL.carry (Ext.new nT).carry _ _ (RpL.carry (e.carryH hh) _ _ k2)).get hd.2
    have hx' : vs[i]? = some x := hx
    have hz' : ws[i]? = some z := hz
    rw [hx'] at hw
    cases hw
    rw [hz'] at hw'
    cases hw'
    exact Rp.tup (.inl (.inl upd_same)) (.cons rw_ (.cons rw2 .nil))
  · rw [← hl]
    exact (walk_zip rfl).stops H' (hs e)
theorem di_zip {a b : Expr} {am : AM} {p pos tpos : Pos} {elts : List Expr} {kk : Nat} (hK : X.K = G.K) (hg : Gl X "zip") (hm : X.mg "zip" = none) (h : DA X G W [a, b] am) (hn : notStar a = true) (hn' : notStar b = true) :
    DI X G W (.Tuple elts kk tpos) (.Call (.Name "zip" p) [a, b] [] pos) (mZip am) := by
  refine ⟨fun pins s σ H Rr I ⟨μ, env, st, si, en, f⟩ => (pi_zip (p := p) (pos := pos) hg hm h (starEach_plain hn _ X.env) (star_all pos X.env (by simp [hn']))).run pins s σ H Rr I ⟨μ, env, st, si, en, f.bind.mono fun xs st1 μ1 H1 e1 s1 h1 vs rv => ?_⟩⟩
  split at h1
  · split at h1
    · rename_i x y ds es q q'
      obtain ⟨v, w, rfl, r, r'⟩ := rv.two
      obtain ⟨b, ws, rfl, k1, k2, k3⟩ := srcOf_lst (src := none) r q
      obtain ⟨b', ws', rfl, l1, l2, l3⟩ := srcOf_lst (src := none) r' q'
      exact ⟨b, b', ws, ws', rfl, by rw [hK]; exact .inl (.inl k1), by rw [hK]; exact .inl (.inl l1), h1.ok s1 _ (by rw [hK]; exact iter_zip k1 k2 k3 l1 l2 l3)⟩
    · exact h1.elim
  · exact h1.elim
end
end Sl
end
section
set_option Elab.async false
set_option linter.all false
set_option maxRecDepth 100000
namespace Sl
open PySem PySem.Spec PyProof.Rows L2

/-! ### more is hidden -/
section
variable {G : Grd} {K : Frag} {hid hid' : List Addr} {xs : List (Addr × Addr)} {μ μ' : List Addr} {H H' : Hp} {st : Sto} {env : Slots} {σ : L2.St}
/-- an object, its contents carried -/
theorem ObjRp.map {cls : Str → Option Addr} {a : Addr} {o : SObj} (hb : H' a = H a) (c : ∀ {vs : List V} {ys : List Val}, RpVs K hid μ H vs ys → RpVs K hid' μ' H' vs ys) (h : ObjRp cls K hid μ H a o) : ObjRp cls K hid' μ' H' a o := by
  cases o with
  | lst vs => obtain ⟨xs, h1, h2⟩ := h; exact ⟨xs, hb.trans h1, c h2⟩
  | dct ks vs => obtain ⟨kvs, h1, h2, h3⟩ := h; exact ⟨kvs, hb.trans h1, h2, c h3⟩
  | ldct ks vs => obtain ⟨o, kvs, h1, h2, h3⟩ := h; exact ⟨o, kvs, hb.trans h1, h2, c h3⟩
  | ins cc fs => obtain ⟨C, dx, fvs, h0, h1, h2, h3⟩ := h; exact ⟨C, dx, fvs, h0, hb.trans h1, h2, c h3⟩
  | scr ns => obtain ⟨o, h1⟩ := h; exact ⟨o, hb.trans h1⟩
/-- contents go over to another hiding -/
theorem Rp.over {F F' : Addr → Prop} (k : ∀ a, F a → F' a) : ∀ {d : D} {v : V}, Rp K F H v d → Rp K F' H v d := fun {d v} h => Rp.carry ⟨fun _ _ q => q, fun a _ q r => ⟨r, k a q⟩, fun a _ q r => ⟨r, k a q⟩⟩ d v h
theorem RpV.over {v : V} (k : ∀ a, Fz hid μ a → Fz hid' μ' a) (pre : μ <+: μ') : ∀ {x : Val}, RpV K hid [] μ H v x → RpV K hid' [] μ' H v x
  | .p d, h => Rp.over k h
  | .r l, ⟨a, h1, h2⟩ => ⟨a, h1, by
    obtain ⟨t, ht⟩ := pre
    rw [← ht, List.getElem?_append_left (List.getElem?_eq_some_iff.mp h2).1]
    exact h2⟩
  | .x _ _, ⟨_, _, _, _, h2, _⟩ => nomatch h2
theorem RpVs.over (k : ∀ a, Fz hid μ a → Fz hid' μ' a) (pre : μ <+: μ') : ∀ {vs : List V} {ys : List Val}, RpVs K hid μ H vs ys → RpVs K hid' μ' H vs ys
  | _, _, .nil => .nil
  | _, _, .cons r t => .cons (RpV.over k pre r) (RpVs.over k pre t)
/-- a new thing is hidden -/
theorem Sim.hide {p : Addr} {u : HO} (s : Sim G μ H st) (hp : H p = none) : Sim (G.h (p :: G.hid)) μ (L2.upd H p u) st where
  len := s.len
  nd := s.nd
  hid := fun a h => by
    rcases List.mem_cons.mp h with rfl | h
    · rw [upd_same]; exact fun z => nomatch z
    · exact (Ext.new (μ := μ) hp).on a (s.hid a h)
  dis := fun a h z => by
    rcases List.mem_cons.mp h with rfl | h
    · obtain ⟨l, hl, el⟩ := List.getElem_of_mem z
      exact s.at_some (l := l) (a := a) (by simp [hl, el]) hp
    · exact s.dis a h z
  obj := fun l a o h1 h2 => ObjRp.map (upd_ne fun z => s.at_some h1 (by rw [z]; exact hp)) (fun r => RpVs.extH (Ext.new hp) (fun a h => by
    rcases List.mem_cons.mp h with rfl | h
    · exact .inr hp
    · exact .inl h) r) (s.obj l a o h1 h2)
/-- what was hidden is data now -/
theorem Sim.unhide {p : Addr} (s : Sim (G.h (p :: G.hid)) μ H st) : Sim G μ H st where
  len := s.len
  nd := s.nd
  hid := fun a h => s.hid a (List.mem_cons_of_mem _ h)
  dis := fun a h => s.dis a (List.mem_cons_of_mem _ h)
  obj := fun l a o h1 h2 => ObjRp.map rfl (fun r => RpVs.over (fun a h => ⟨h.1, fun z => h.2 (List.mem_cons_of_mem _ z)⟩) (List.prefix_refl _) r) (s.obj l a o h1 h2)
/-- .. or an object of the store -/
theorem Sim.unhideS {p : Addr} {o : SObj} (s : Sim (G.h (p :: G.hid)) μ H st) (hn : p ∉ μ) (hnh : p ∉ G.hid) (ho : ObjRp G.cls G.K G.hid (μ ++ [p]) H p o) : Sim G (μ ++ [p]) H (st ++ [o]) where
  len := by simp [s.len]
  nd := by
    rw [List.nodup_append]
    refine ⟨s.nd, by simp, fun a ha b hb => ?_⟩
    rw [List.mem_singleton.mp hb]
    intro z
    subst z
    exact hn ha
  hid := fun a h => s.hid a (List.mem_cons_of_mem _ h)
  dis := fun a h z => by
    rcases List.mem_append.mp z with z | z
    · exact s.dis a (List.mem_cons_of_mem _ h) z
    · exact hnh (by rw [← List.mem_singleton.mp z]; exact h)
  obj := fun j b w hj hw => by
    by_cases q : j < μ.length
    · rw [List.getElem?_append_left q] at hj
      rw [List.getElem?_append_left (by rw [← s.len]; exact q)] at hw
      refine ObjRp.map rfl (fun r => RpVs.over (fun a h => ⟨fun z => ?_, fun z => h.2 (List.mem_cons_of_mem _ z)⟩) ⟨[p], rfl⟩ r) (s.obj j b w hj hw)
      rcases List.mem_append.mp z with z | z
      · exact h.1 z
      · exact h.2 (by rw [List.mem_singleton.mp z]; exact List.mem_cons_self ..)
    · have hjl : j = μ.length := by
        have := (List.getElem?_eq_some_iff.mp hj).1
        simp at this
        omega
      subst hjl
      rw [List.getElem?_append_right (Nat.le_refl _)] at hj
      rw [List.getElem?_append_right (by rw [s.len]; exact Nat.le_refl _)] at hw
      simp at hj
      rw [s.len] at hw
      simp at hw
      subst hj
      subst hw
      exact ho
end

/-! ### targets -/
abbrev GM := Val → Slots → Option Slots
def RdG (G : Grd) (gs : List Nat) (gm : GM) : TG := fun v σ H Q => ∃ μ env st x env', Sim G μ H st ∧ EnvRp G μ H env σ ∧ RpV G.K G.hid [] μ H v x ∧ gm x env = some env' ∧
  ∀ σ', EnvRp G μ H env' σ' → σ'.length = σ.length → (∀ j, j ∉ gs → σ'[j]? = σ[j]?) → Q σ' H
def gN (i : Nat) : GM := fun x env => some (env.set i (some x))
def gsGo : List GM → List D → Slots → Option Slots
  | [], [], env => some env
  | g :: gs, d :: ds, env => match g (.p d) env with
    | some env' => gsGo gs ds env'
    | none => none
  | _, _, _ => none
def gT (gms : List GM) : GM := fun x env => match x with
  | .p (.tup ds) => gsGo gms ds env
  | _ => none
theorem PG.by {X : Cx} {e : Expr} {t t' : TG} (h : PG X e t) (k : ∀ v σ H Q, t' v σ H Q → t v σ H Q) : PG X e t' := ⟨fun pins s σ H v u Q I r q => h.run pins s σ H v u Q I r (k v σ H Q q)⟩
theorem PG.ex {X : Cx} {e : Expr} {f : List Addr → TG} (h : ∀ a, PG X e (f a)) : PG X e (fun v σ H Q => ∃ a, f a v σ H Q) := ⟨fun pins s σ H v u Q I r ⟨a, q⟩ => (h a).run pins s σ H v u Q I r q⟩
theorem PE.ex {X : Cx} {e : Expr} {f : List Addr → TE} (h : ∀ a, PE X e (f a)) : PE X e (fun σ H Q => ∃ a, f a σ H Q) := ⟨fun pins s σ H Q I ⟨a, q⟩ => (h a).run pins s σ H Q I q⟩
theorem PTs.ex {X : Cx} {e : List Expr} {f : List Addr → TT} (h : ∀ a, PTs X e (f a)) : PTs X e (fun σ H Q => ∃ a, f a σ H Q) := ⟨fun pins s σ H Q I ⟨a, q⟩ => (h a).run pins s σ H Q I q⟩
section
variable {X : Cx} {G : Grd} {pos : Pos}
theorem EnvRp.set {μ : List Addr} {H : Hp} {env : Slots} {σ : L2.St} {i : Nat} {v : V} {x : Val} (r : EnvRp G μ H env σ) (h : RpV G.K G.hid [] μ H v x) : EnvRp G μ H (env.set i (some x)) (σ.set i (some v)) := by
  refine ⟨by rw [List.length_set, List.length_set]; exact r.len, fun j y e => ?_⟩
  by_cases q : i = j
  · subst q
    by_cases hi : i < env.length
    · rw [List.getElem?_set_self hi] at e
      cases e
      refine ⟨v, by rw [List.getElem?_set_self (by rw [← r.len]; exact hi)], ?_⟩
      cases x with
      | p d => exact h
      | r l => exact h
      | x c fs => obtain ⟨_, _, _, _, h2, _⟩ := h; exact nomatch h2
    · rw [List.getElem?_eq_none (by simpa using hi)] at e
      cases e
  · rw [List.getElem?_set_ne q] at e ⊢
    exact r.at_ j y e
theorem dg_name {i : Nat} {x : Str} (hN : X.N.Nodup) (hi : X.N[i]? = some x) (hx : Loc X.env.scope x) (hf : X.fn x = true ∨ X.env.scope.names.lookup x = some .local) : PG X (.Name x pos) (RdG G [i] (gN i)) :=
  PG.by (pg_name hN hi hx hf) fun v σ H Q ⟨μ, env, st, y, env', s, en, rv, e, k⟩ => by
    cases e
    exact k _ (en.set rv) (by rw [List.length_set]) fun j hj => List.getElem?_set_ne (fun z => hj (by simp [z]))
def RdGs (G : Grd) (gs : List Nat) (gms : List GM) : TGs := fun vs σ H Q => ∃ μ env st ds env', Sim G μ H st ∧ EnvRp G μ H env σ ∧ RpL G.K (Fz G.hid μ) H vs ds ∧ gsGo gms ds env = some env' ∧
  ∀ σ', EnvRp G μ H env' σ' → σ'.length = σ.length → (∀ j, j ∉ gs → σ'[j]? = σ[j]?) → Q σ' H
theorem PGs.by {es : List Expr} {t t' : TGs} (h : PGs X es t) (k : ∀ v σ H Q, t' v σ H Q → t v σ H Q) : PGs X es t' := ⟨fun pins s σ H v u Q I r q => h.run pins s σ H v u Q I r (k v σ H Q q)⟩
theorem dgs_nil : PGs X [] (RdGs G [] []) := PGs.by pgs_nil fun vs σ H Q ⟨μ, env, st, ds, env', s, en, rv, e, k⟩ => by
  cases ds with
  | nil =>
    cases e
    cases rv
    exact ⟨rfl, k _ en rfl fun _ _ => rfl⟩
  | cons d ds => cases e
/-- a target that is a name or a tuple of such -/
def plainTg : Expr → Bool
  | .Name _ _ => true
  | .Tuple _ _ _ => true
  | _ => false
theorem assignEach_plain {e : Expr} (h : plainTg e = true) (es : List Expr) (env : Env) : assignEach (e :: es) env = (false, assign e env) :: assignEach es env := by
  cases e <;> first | rfl | cases h
theorem dgs_cons {e : Expr} {es : List Expr} {gs gs' : List Nat} {gm : GM} {gms : List GM} (h : PG X e (RdG G gs gm)) (hs : PGs X es (RdGs G gs' gms)) (hp : plainTg e = true) : PGs X (e :: es) (RdGs G (gs ++ gs') (gm :: gms)) :=
  PGs.by (pgs_cons h hs (by rw [assignEach_plain hp]; rfl)) fun vs σ H Q ⟨μ, env, st, ds, env', s, en, rv, e, k⟩ => by
    cases ds with
    | nil => cases e
    | cons d ds =>
      cases rv with
      | cons r1 r2 =>
        unfold gsGo at e
        split at e
        · rename_i env1 q
          refine ⟨_, _, rfl, μ, env, st, .p d, env1, s, en, r1, q, fun σ1 en1 hl1 hj1 => ?_⟩
          exact ⟨μ, env1, st, ds, env', s, en1, r2, e, fun σ2 en2 hl2 hj2 => k σ2 en2 (hl2.trans hl1) fun j hj => (hj2 j fun z => hj (List.mem_append_right _ z)).trans (hj1 j fun z => hj (List.mem_append_left _ z))⟩
        · cases e
theorem each_len : ∀ {es : List Expr} (env : Env), es.all plainTg = true → (assignEach es env).length = es.length ∧ (assignEach es env).findIdx? (·.1) = none
  | [], _, _ => ⟨rfl, rfl⟩
  | e :: es, env, h => by
    simp only [List.all_cons, Bool.and_eq_true] at h
    rw [assignEach_plain h.1]
    obtain ⟨h1, h2⟩ := each_len env h.2
    exact ⟨by simp [h1], by simp [List.findIdx?_cons, h2]⟩
theorem gsGo_len : ∀ {gms : List GM} {ds : List D} {env env' : Slots}, gsGo gms ds env = some env' → ds.length = gms.length
  | [], [], _, _, _ => rfl
  | [], _ :: _, _, _, h => by cases h
  | _ :: _, [], _, _, h => by cases h
  | g :: gs, d :: ds, env, env', h => by
    unfold gsGo at h
    split at h
    · simp [gsGo_len h]
    · cases h
theorem dg_tup {es : List Expr} {k : Nat} {gs : List Nat} {gms : List GM} (hK : X.K = G.K) (hc : X.calm = true) (h : PGs X es (RdGs G gs gms)) (hp : es.all plainTg = true) (hl : gms.length = es.length) : PG X (.Tuple es k pos) (RdG G gs (gT gms)) :=
  PG.by (pg_tup hc h (each_len X.env hp).1 (each_len X.env hp).2) fun v σ H Q ⟨μ, env, st, x, env', s, en, rv, e, k⟩ => by
    unfold gT at e
    split at e
    · rename_i ds
      cases rv with
      | tup h1 h2 => exact ⟨_, _, rfl, by rw [hK]; exact h1, by rw [h2.length, gsGo_len e, hl], μ, env, st, ds, env', s, en, h2, e, k⟩
    · cases e
end

/-! ### list comprehensions -/
def R.noExc {α : Type} : R α → R α
  | .exc _ _ _ => .fail
  | r => r
def wipeE (env : Slots) : List Nat → Slots
  | [] => env
  | v :: vs => (wipeE env vs).set v none
/-- the turns over what is left -/
def lcGo (src : Option Nat) (all : List Val) (gm : GM) (mt : TM) (me : EM) (env : Slots) : List Val → Sto → R (List Val)
  | [], st => if watch st src all = true then .ok [] st else .fail
  | x :: rest, st => if watch st src all = true then match gm x env with
    | none => .fail
    | some env1 => (mt env1 st).bind fun b st1 => match b with
      | true => (me env1 st1).bind fun y st2 => (lcGo src all gm mt me env rest st2).bind fun ys st3 => .ok (y :: ys) st3
      | false => lcGo src all gm mt me env rest st1
    else .fail
def mComp (md : Bool) (own : List Nat) (mi : IM) (gm : GM) (mt : TM) (me : EM) : EM := fun env st => (mi env st).bind fun p st1 =>
  (lcGo p.2 p.1 gm mt me (wipeE env own) p.1 st1).noExc.bind fun ys st2 => R.lift (newLst md ys st2)
def tmYes : TM := fun _ st => .ok true st
section
variable {X : Cx} {G : Grd} {W : WX}
abbrev WF : WX := fun _ _ _ _ => False
theorem wipe_env {μ : List Addr} {H : Hp} {env : Slots} {σ : L2.St} (r : EnvRp G μ H env σ) : ∀ vs : List Nat, EnvRp G μ H (wipeE env vs) (wipe σ vs)
  | [] => r
  | v :: vs => by
    have ih := wipe_env r vs
    unfold wipeE wipe
    refine ⟨by rw [List.length_set, List.length_set]; exact ih.len, fun j y e => ?_⟩
    by_cases q : v = j
    · subst q
      by_cases hi : v < (wipeE env vs).length
      · rw [List.getElem?_set_self hi] at e
        cases e
      · rw [List.getElem?_eq_none (by simpa using hi)] at e
        cases e
    · rw [List.getElem?_set_ne q] at e ⊢
      exact ih.at_ j y e
theorem wipe_at {σ : L2.St} : ∀ {vs : List Nat} (j : Nat), (wipe σ vs)[j]? = if j ∈ vs ∧ j < σ.length then some none else σ[j]?
  | [], j => by simp [wipe]
  | v :: vs, j => by
    unfold wipe
    by_cases q : v = j
    · subst q
      by_cases hi : v < σ.length
      · rw [List.getElem?_set_self (by rw [wipe_length]; exact hi)]
        simp [hi]
      · rw [List.getElem?_eq_none (by rw [List.length_set, wipe_length]; omega)]
        rw [if_neg (fun z => hi z.2), List.getElem?_eq_none (by omega)]
    · rw [List.getElem?_set_ne q, wipe_at]
      by_cases hj : j ∈ vs <;> simp [hj, Ne.symm q]
theorem wipe_same {σ σ' : L2.St} {vs : List Nat} (hl : σ'.length = σ.length) (h : ∀ j, j ∉ vs → σ'[j]? = σ[j]?) : wipe σ' vs = wipe σ vs := by
  refine List.ext_getElem? fun j => ?_
  rw [wipe_at, wipe_at, hl]
  by_cases hj : j ∈ vs
  · by_cases hi : j < σ.length
    · simp [hj, hi]
    · rw [if_neg (fun z => hi z.2), if_neg (fun z => hi z.2), List.getElem?_eq_none (by omega), List.getElem?_eq_none (by omega)]
  · simp [hj, h j hj]
theorem wipe_wipe {σ : L2.St} {vs : List Nat} : wipe (wipe σ vs) vs = wipe σ vs := wipe_same (wipe_length _ _) fun j hj => by rw [wipe_at]; simp [hj]
end
end Sl
end
section
set_option Elab.async false
set_option linter.all false
set_option maxRecDepth 100000
set_option maxHeartbeats 1000000
namespace Sl
open PySem PySem.Spec PyProof.Rows L2
section
variable {X : Cx} {G : Grd} {W : WX} {K : Frag} {hid : List Addr} {μ μ' : List Addr} {H H' : Hp} {st : Sto}
/-- a thing that was not there is changed -/
theorem Ext.later {a : Addr} {u : HO} (e : Ext μ H μ' H') (h : H a = none) : Ext μ H μ' (L2.upd H' a u) where
  pre := e.pre
  tup := fun b vs q => by
    have nb : b ≠ a := fun z => rd_some q (by rw [z]; exact h)
    have := e.tup b vs q
    unfold Rd at this ⊢
    rw [upd_ne nb]; exact this
  lst := fun b vs hm q => by
    have nb : b ≠ a := fun z => by rw [z, h] at q; cases q
    rw [upd_ne nb]; exact e.lst b vs hm q
  dcx := fun b vs hm q => (upd_ne fun z => rd_some q (by rw [z]; exact h)).trans (e.dcx b vs hm q)
  xd := fun b vs q => by
    have nb : b ≠ a := fun z => by rw [z, h] at q; cases q
    rw [upd_ne nb]; exact e.xd b vs q
  fresh := e.fresh
  on := fun b q => by
    by_cases z : b = a
    · rw [z, upd_same]; exact fun z => nomatch z
    · rw [upd_ne z]; exact e.on b q
/-- a hidden list is changed -/
theorem carry_hid {D : Addr} {vs ws : List V} (h : H D = some (.lst vs)) (hm : D ∈ hid) : Carry (Fz hid μ) (Fz hid μ) H (upd H D (.lst ws)) := by
  have nt : ∀ {b : Addr} {xs : List V}, Rd H b (.tup xs) → b ≠ D := fun q z => by
    subst z
    rcases q with q | ⟨o, q⟩ <;> (rw [h] at q; cases q)
  refine ⟨fun b xs q => ?_, fun b xs hb q => ⟨?_, hb⟩, fun b xs hb q => ⟨?_, hb⟩⟩
  · have nb := nt q
    unfold Rd at q ⊢
    rw [upd_ne nb]; exact q
  · rw [upd_ne fun z => hb.2 (by rw [z]; exact hm)]; exact q
  · have nb : b ≠ D := fun z => hb.2 (by rw [z]; exact hm)
    unfold Rd at q ⊢
    rw [upd_ne nb]; exact q
theorem RpV.by (c : Carry (Fz hid μ) (Fz hid μ) H H') {v : V} : ∀ {x : Val}, RpV K hid [] μ H v x → RpV K hid [] μ H' v x
  | .p d, h => Rp.carry c d v h
  | .r l, h => h
  | .x _ _, ⟨_, _, _, _, h2, _⟩ => nomatch h2
theorem RpVs.by (c : Carry (Fz hid μ) (Fz hid μ) H H') : ∀ {vs : List V} {ys : List Val}, RpVs K hid μ H vs ys → RpVs K hid μ H' vs ys
  | _, _, .nil => .nil
  | _, _, .cons r t => .cons (RpV.by c r) (RpVs.by c t)
theorem Sim.hidSet {D : Addr} {vs ws : List V} (s : Sim G μ H st) (h : H D = some (.lst vs)) (hm : D ∈ G.hid) (hn : D ∉ μ) : Sim G μ (L2.upd H D (.lst ws)) st where
  len := s.len
  nd := s.nd
  hid := fun a ha => by
    by_cases z : a = D
    · rw [z, upd_same]; exact fun z => nomatch z
    · rw [upd_ne z]; exact s.hid a ha
  dis := s.dis
  obj := fun l a o h1 h2 => ObjRp.map (upd_ne fun z => hn (z ▸ List.mem_of_getElem? h1)) (fun r => RpVs.by (carry_hid h hm) r) (s.obj l a o h1 h2)
theorem pureL_len : ∀ {xs : List Val} {ds : List D}, pureL xs = some ds → xs.length = ds.length
  | [], ds, h => by cases h; rfl
  | .p d :: xs, ds, h => by
    cases w : pureL xs with
    | none => simp [pureL, w] at h
    | some es =>
      simp [pureL, w] at h
      subst h
      simp [pureL_len w]
  | .r l :: xs, ds, h => by cases h
  | .x c fs :: xs, ds, h => by cases h
theorem notSet_of {e : Expr} (h : (match e with | .Set _ _ _ => false | _ => true) = true) (env : Env) : ∀ x, foldedSetIterable e env x = pure x := fun x => by
  cases e <;> first | rfl | cases h
/-- what a comprehension's rule asks -/
theorem rd_lc {mi : IM} {gs ow : List Nat} {gm : GM} {mt : TM} {me : EM} {md : Bool} (hgs : ∀ j ∈ gs, j ∈ ow) : ∀ σ H Q, RdE G W (mComp md ow mi gm mt me) σ H Q →
    tLc (RdI G W mi) (fun v σ H Q => ∃ h, RdG (G.h h) gs gm v σ H Q) (fun σ H Q => ∃ h, RdT (G.h h) WF mt σ H Q) (fun σ H Q => ∃ h, RdE (G.h h) WF me σ H Q) ow σ H Q := by
  rintro σ H Q ⟨μ, env, st, s, en, f⟩
  refine ⟨μ, env, st, s, en, f.bind.mono fun p st1 μ1 H1 e1 s1 h1 J hJ D hD => ?_⟩
  obtain ⟨all, src⟩ := p
  dsimp only at h1 hJ
  cases r : lcGo src all gm mt me (wipeE env ow) all st1 with
  | fail => rw [r] at h1; exact h1.elim
  | exc c fs st2 => rw [r] at h1; exact h1.elim
  | ok yall stN =>
    rw [r] at h1
    have h1 : Fin G W σ μ1 H1 (R.lift (newLst md yall stN)) (PV G Q) := h1
    cases q : newLst md yall stN with
    | none => rw [q] at h1; exact h1.elim
    | some zs =>
      obtain ⟨z, st'⟩ := zs
      rw [q] at h1
      have h1 : Fin G W σ μ1 H1 (.ok z st') (PV G Q) := h1
      have hlen : yall.length ≤ sizeLine := by
        unfold newLst at q
        cases md with
        | true =>
          dsimp only at q
          split at q
          · assumption
          · cases q
        | false =>
          dsimp only at q
          split at q
          · rename_i ds qd
            split at q
            · rw [pureL_len qd]; assumption
            · cases q
          · cases q
      have hh : ∀ a ∈ D :: G.hid, a ∈ G.hid ∨ H1 a = none := fun a ha => by
        rcases List.mem_cons.mp ha with rfl | ha
        · exact .inr hD
        · exact .inl ha
      have hDμ : D ∉ μ1 := fun hm => by
        obtain ⟨l, hl, el⟩ := List.getElem_of_mem hm
        exact s1.at_some (l := l) (a := D) (by simp [hl, el]) hD
      refine ⟨fun i m H => m = all.length - i ∧ i ≤ all.length ∧ ∃ μi sti ys vs, Ext μ1 H1 μi H ∧ Sim (G.h (D :: G.hid)) μi H sti ∧ H D = some (.lst vs) ∧ RpVs G.K (D :: G.hid) μi H vs ys ∧ D ∉ μi ∧
        ∃ zs, lcGo src all gm mt me (wipeE env ow) (all.drop i) sti = .ok zs stN ∧ yall = ys ++ zs, ⟨all.length, by simp, Nat.zero_le _, μ1, st1, [], [], Ext.new hD, s1.hide hD, upd_same, .nil, hDμ, yall, by rw [List.drop_zero]; exact r, rfl⟩, ?_⟩
      rintro i m H2 ⟨rfl, hi2, μi, sti, ys, vs, ei, si, hHD, rvs, hDi, zs, hgo, hy⟩
      by_cases hlt : i < all.length
      · refine .inr ?_
        obtain ⟨x, hx⟩ : ∃ x, all[i]? = some x := ⟨all[i], by simp [hlt]⟩
        have hdrop : all.drop i = x :: all.drop (i + 1) := by
          rw [List.drop_eq_getElem_cons hlt]
          congr 1
          rw [List.getElem?_eq_getElem hlt] at hx
          exact Option.some.inj hx
        rw [hdrop] at hgo
        unfold lcGo at hgo
        split at hgo
        · rename_i hw
          cases qg : gm x (wipeE env ow) with
          | none => rw [qg] at hgo; cases hgo
          | some env1 =>
            rw [qg] at hgo
            dsimp only at hgo
            cases qt : mt env1 sti with
            | fail => rw [qt] at hgo; cases hgo
            | exc c fs st2 => rw [qt] at hgo; cases hgo
            | ok b st2 =>
              rw [qt] at hgo
              dsimp only [R.bind] at hgo
              refine ⟨hJ.go _ hh μi H2 sti i ei si hw hlt, fun H' => all.length - (i + 1) = all.length - (i + 1) ∧ i + 1 ≤ all.length ∧ ∃ μi sti ys vs, Ext μ1 H1 μi H' ∧ Sim (G.h (D :: G.hid)) μi H' sti ∧ H' D = some (.lst vs) ∧ RpVs G.K (D :: G.hid) μi H' vs ys ∧ D ∉ μi ∧
                ∃ zs, lcGo src all gm mt me (wipeE env ow) (all.drop (i + 1)) sti = .ok zs stN ∧ yall = ys ++ zs, fun H' q => ⟨_, by omega, q⟩, fun v H' y => ?_⟩
              obtain ⟨e2, s2, rv⟩ := hJ.yld _ hh μi H2 sti i v H' ei si hw hlt y
              have rx := rv x hx
              have en' : EnvRp (G.h (D :: G.hid)) μi H' (wipeE env ow) (wipe σ ow) := wipe_env (EnvRp.extH (h := G.hid) (ei.trans e2) hh (en.ext e1)) ow
              refine ⟨D :: G.hid, μi, wipeE env ow, sti, x, env1, s2, en', rx, qg, fun σ2 en2 hl2 hj2 => ⟨?_, ?_⟩⟩
              · rw [wipe_same (vs := ow) hl2 fun j hj => hj2 j fun z => hj (hgs j z), wipe_wipe]
              · refine ⟨D :: G.hid, μi, env1, sti, s2, en2, ?_⟩
                rw [qt]
                intro μ3 H3 e3 s3
                have e23 := e2.trans e3
                cases b with
                | true =>
                  dsimp only at hgo
                  cases qe : me env1 st2 with
                  | fail => rw [qe] at hgo; cases hgo
                  | exc c fs st3 => rw [qe] at hgo; cases hgo
                  | ok y1 st3 =>
                    rw [qe] at hgo
                    have hgo : ((lcGo src all gm mt me (wipeE env ow) (all.drop (i + 1)) st3).bind fun ys st4 => .ok (y1 :: ys) st4) = R.ok zs stN := hgo
                    cases qr : lcGo src all gm mt me (wipeE env ow) (all.drop (i + 1)) st3 with
                    | fail => rw [qr] at hgo; cases hgo
                    | exc c fs st3 => rw [qr] at hgo; cases hgo
                    | ok ws st4 =>
                      rw [qr] at hgo
                      cases hgo
                      refine iteT ⟨D :: G.hid, μ3, env1, st2, s3, en2.ext e3, ?_⟩
                      rw [qe]
                      intro μ4 H4 e4 s4 v4 rv4
                      have e24 := e23.trans e4
                      have hH4 : H4 D = some (.lst vs) := e24.lst D vs hDi hHD
                      have hD4 : D ∉ μ4 := e24.stay hDi (.inl hHD)
                      refine ⟨vs, hH4, ?_, rfl, hlt, μ4, st3, ys ++ [y1], vs ++ [v4], (ei.trans e24).later hD, s4.hidSet hH4 (List.mem_cons_self ..) hD4, upd_same, ?_, hD4, ws, qr, by rw [hy]; simp⟩
                      · have l1 := rvs.length
                        have l2 : yall.length = ys.length + (ws.length + 1) := by rw [hy]; simp
                        omega
                      · exact RpVs.by (carry_hid hH4 (List.mem_cons_self ..)) (RpVs.append (rvs.ext e24) (.cons rv4 .nil))
                | false =>
                  dsimp only at hgo
                  exact iteF ⟨rfl, hlt, μ3, st2, ys, vs, ei.trans e23, s3, e23.lst D vs hDi hHD, rvs.ext e23, e23.stay hDi (.inl hHD), zs, hgo, hy⟩
        · cases hgo
      · have ei2 : i = all.length := by omega
        subst ei2
        rw [List.drop_length] at hgo
        unfold lcGo at hgo
        split at hgo
        · rename_i hw
          cases hgo
          rw [List.append_nil] at hy
          subst hy
          refine .inl ⟨hJ.stop _ hh μi H2 stN ei si hw, ?_⟩
          unfold newLst at q
          cases md with
          | true =>
            dsimp only at q
            rw [if_pos hlen] at q
            cases q
            have e3 : Ext μ1 H1 (μi ++ [D]) H2 := { ei with
              pre := ei.pre.trans ⟨[D], rfl⟩
              fresh := fun a ha hn => by
                rcases List.mem_append.mp ha with ha | ha
                · exact ei.fresh a ha hn
                · rw [List.mem_singleton.mp ha]; exact hD }
            refine h1 (μi ++ [D]) H2 e3 (si.unhideS hDi (fun z => s1.hid D z hD) ⟨vs, hHD, RpVs.over (fun a h => ⟨fun z => ?_, fun z => h.2 (List.mem_cons_of_mem _ z)⟩) ⟨[D], rfl⟩ rvs⟩) _ ⟨D, rfl, ?_⟩
            · rcases List.mem_append.mp z with z | z
              · exact h.1 z
              · exact h.2 (by rw [List.mem_singleton.mp z]; exact List.mem_cons_self ..)
            · have := si.len
              rw [← this]
              simp
          | false =>
            dsimp only at q
            split at q
            · rename_i ds qd
              split at q
              · cases q
                have hnh : D ∉ G.hid := fun z => s1.hid D z hD
                exact h1 μi H2 ei si.unhide _ (.lst hHD ⟨hDi, hnh⟩ (RpL.carry ⟨fun _ _ z => z, fun a _ z w => ⟨w, z.1, fun y => z.2 (List.mem_cons_of_mem _ y)⟩, fun a _ z w => ⟨w, z.1, fun y => z.2 (List.mem_cons_of_mem _ y)⟩⟩ _ _ (RpVs.pure (hid := D :: G.hid) rvs qd)))
              · cases q
            · cases q
        · cases hgo
theorem de_lc {elt tg iter : Expr} {ifs : List Expr} {scope : Scope} {own : List (Str × Nat)} {pos : Pos} {mi : IM} {gs : List Nat} {gm : GM} {mt : TM} {me : EM} {md : Bool} (hc : X.calm = true) (hN : X.N.Nodup) (hi : DI X G W tg iter mi) (ok : BlkOk X.N X.env.scope scope own)
    (hg : ∀ (h : List Addr) (s : Shared) (H : Hp) (C : Addr) (cl : List (Str × Addr)) (fp : List Addr), PG (X.blk s H scope (compEnvC scope cl C X.env) fp) tg (RdG (G.h h) gs gm))
    (ht : ∀ (h : List Addr) (s : Shared) (H : Hp) (C : Addr) (cl : List (Str × Addr)) (fp : List Addr), PTs (X.blk s H scope (compEnvC scope cl C X.env) fp) ifs (RdT (G.h h) WF mt))
    (he : ∀ (h : List Addr) (s : Shared) (H : Hp) (C : Addr) (cl : List (Str × Addr)) (fp : List Addr), PE (X.blk s H scope (compEnvC scope cl C X.env) fp) elt (RdE (G.h h) WF me))
    (hgs : ∀ j ∈ gs, j ∈ own.map (·.2)) (hs : ∀ x, foldedSetIterable iter X.env x = pure x) :
    DE X G W (.ListComp elt [⟨tg, iter, ifs, 0⟩] scope pos) (mComp md (own.map (·.2)) mi gm mt me) :=
  PE.by (pe_lc (g := fun v σ H Q => ∃ h, RdG (G.h h) gs gm v σ H Q) (tt := fun σ H Q => ∃ h, RdT (G.h h) WF mt σ H Q) (te := fun σ H Q => ∃ h, RdE (G.h h) WF me σ H Q) hc hN hi ok
    (fun s H C cl fp => PG.ex fun h => hg h s H C cl fp) (fun s H C cl fp => PTs.ex fun h => ht h s H C cl fp) (fun s H C cl fp => PE.ex fun h => he h s H C cl fp) hs) (rd_lc hgs)
end
end Sl
end
section
set_option Elab.async false
set_option linter.all false
set_option maxRecDepth 100000
set_option maxHeartbeats 1000000
namespace Sl
open PySem PySem.Spec PyProof.Rows L2

/-- how a statement ends -/
inductive SR where
  | fail | nx (env : Slots) (st : Sto) | rt (v : Val) (st : Sto) | bk (env : Slots) (st : Sto) | ct (env : Slots) (st : Sto) | exc (c : Str) (fs : List (Str × D)) (env : Slots) (st : Sto)
abbrev SM := Slots → Sto → SR
/-- what is wanted of a statement's end; base: the entry of the def -/
def FinS (G : Grd) (W : WX) (μ0 : List Addr) (H0 : Hp) (μ : List Addr) (H : Hp) (r : SR) (E : Ends) : Prop := match r with
  | .fail => False
  | .nx env st => ∀ μ' H' σ', Ext μ H μ' H' → Sim G μ' H' st → EnvRp G μ' H' env σ' → E.nx σ' H'
  | .rt v st => ∀ μ' H' w, Ext μ0 H0 μ' H' → Sim G μ' H' st → RpV G.K G.hid [] μ' H' w v → E.rt w H'
  | .bk env st => ∀ μ' H' σ', Ext μ H μ' H' → Sim G μ' H' st → EnvRp G μ' H' env σ' → E.bk σ' H'
  | .ct env st => ∀ μ' H' σ', Ext μ H μ' H' → Sim G μ' H' st → EnvRp G μ' H' env σ' → E.ct σ' H'
  | .exc c fs env st => ∀ μ' H' σ' cls d, Ext μ H μ' H' → Sim G μ' H' st → EnvRp G μ' H' env σ' → ExRp G μ' H' c fs cls d → W cls d σ' H'
/-- where a statement stands -/
structure At (G : Grd) (n0 : Nat) (μ0 : List Addr) (H0 : Hp) (μ : List Addr) (H : Hp) (env : Slots) (st : Sto) (σ : L2.St) : Prop where
  n0 : μ0.length = n0
  ext : Ext μ0 H0 μ H
  sim : Sim G μ H st
  env : EnvRp G μ H env σ
def RdS (G : Grd) (W : WX) (n0 : Nat) (m : SM) : TS := fun E σ H => ∃ μ0 H0 μ env st, At G n0 μ0 H0 μ H env st σ ∧ FinS G W μ0 H0 μ H (m env st) E
abbrev DS (X : Cx) (G : Grd) (W : WX) (n0 : Nat) (st : Stmt) (m : SM) : Prop := PS X st (RdS G W n0 m)
abbrev DSs (X : Cx) (G : Grd) (W : WX) (n0 : Nat) (st : List Stmt) (m : SM) : Prop := PSs X st (RdS G W n0 m)
theorem PS.by {X : Cx} {e : Stmt} {t t' : TS} (h : PS X e t) (k : ∀ E σ H, t' E σ H → t E σ H) : PS X e t' := ⟨fun pins s σ H E I q => h.run pins s σ H E I (k E σ H q)⟩
theorem PSs.by {X : Cx} {e : List Stmt} {t t' : TS} (h : PSs X e t) (k : ∀ E σ H, t' E σ H → t E σ H) : PSs X e t' := ⟨fun pins s σ H E I q => h.run pins s σ H E I (k E σ H q)⟩
section
variable {X : Cx} {G : Grd} {W : WX} {n0 : Nat} {μ0 μ μ' : List Addr} {H0 H H' : Hp} {env env' : Slots} {st st' : Sto} {σ σ' : L2.St} {r : SR} {E E' : Ends} {pos : Pos}
theorem FinS.ext (e : Ext μ H μ' H') (h : FinS G W μ0 H0 μ H r E) : FinS G W μ0 H0 μ' H' r E := by
  cases r with
  | fail => exact h
  | nx env st => exact fun μ2 H2 σ2 e2 s2 n2 => h μ2 H2 σ2 (e.trans e2) s2 n2
  | rt v st => exact h
  | bk env st => exact fun μ2 H2 σ2 e2 s2 n2 => h μ2 H2 σ2 (e.trans e2) s2 n2
  | ct env st => exact fun μ2 H2 σ2 e2 s2 n2 => h μ2 H2 σ2 (e.trans e2) s2 n2
  | exc c fs env st => exact fun μ2 H2 σ2 cls d e2 s2 n2 x => h μ2 H2 σ2 cls d (e.trans e2) s2 n2 x
theorem At.go (a : At G n0 μ0 H0 μ H env st σ) (e : Ext μ H μ' H') (s : Sim G μ' H' st') : At G n0 μ0 H0 μ' H' env st' σ := ⟨a.n0, a.ext.trans e, s, a.env.ext e⟩
theorem At.to (a : At G n0 μ0 H0 μ H env st σ) (e : Ext μ H μ' H') (s : Sim G μ' H' st') (n : EnvRp G μ' H' env' σ') : At G n0 μ0 H0 μ' H' env' st' σ' := ⟨a.n0, a.ext.trans e, s, n⟩
/-- an expression, then what is done with its value -/
def R.then {α : Type} (m : R α) (env : Slots) (k : α → Sto → SR) : SR := match m with
  | .fail => .fail
  | .ok a st => k a st
  | .exc c fs st => .exc c fs env st
theorem FinS.thn {α : Type} {m : R α} {k : α → Sto → SR} (a : At G n0 μ0 H0 μ H env st σ) (h : FinS G W μ0 H0 μ H (m.then env k) E) : Fin G W σ μ H m (fun x st' μ' H' => FinS G W μ0 H0 μ' H' (k x st') E) := by
  cases m with
  | fail => exact h
  | ok x st' => exact fun μ' H' e s => FinS.ext e h
  | exc c fs st' => exact fun μ' H' cls d e s x => h μ' H' σ cls d e s (a.env.ext e) x

/-! ### blocks -/
def sNil : SM := fun env st => .nx env st
def sSeq (m k : SM) : SM := fun env st => match m env st with
  | .nx env' st' => k env' st'
  | r => r
theorem dss_nil : DSs X G W n0 [] sNil := PSs.by pss_nil fun E σ H ⟨μ0, H0, μ, env, st, a, f⟩ => f μ H σ Ext.refl a.sim a.env
theorem FinS.seq {k : SM} (a : At G n0 μ0 H0 μ H env st σ) (h : FinS G W μ0 H0 μ H (match r with | .nx env' st' => k env' st' | r => r) E) : FinS G W μ0 H0 μ H r { E with nx := RdS G W n0 k E } := by
  cases r with
  | nx env' st' => exact fun μ' H' σ' e s n => ⟨μ0, H0, μ', env', st', a.to e s n, FinS.ext e h⟩
  | _ => exact h
theorem dss_cons {s : Stmt} {ss : List Stmt} {m k : SM} (h : DS X G W n0 s m) (hs : DSs X G W n0 ss k) : DSs X G W n0 (s :: ss) (sSeq m k) :=
  PSs.by (pss_cons h hs) fun E σ H ⟨μ0, H0, μ, env, st, a, f⟩ => ⟨μ0, H0, μ, env, st, a, FinS.seq a f⟩
theorem ds_pass : DS X G W n0 (.Pass pos) sNil := PS.by ps_pass fun E σ H ⟨μ0, H0, μ, env, st, a, f⟩ => f μ H σ Ext.refl a.sim a.env
def sBrk : SM := fun env st => .bk env st
def sCt : SM := fun env st => .ct env st
theorem ds_break : DS X G W n0 (.Break pos) sBrk := PS.by ps_break fun E σ H ⟨μ0, H0, μ, env, st, a, f⟩ => f μ H σ Ext.refl a.sim a.env
theorem ds_cont : DS X G W n0 (.Continue pos) sCt := PS.by ps_continue fun E σ H ⟨μ0, H0, μ, env, st, a, f⟩ => f μ H σ Ext.refl a.sim a.env

/-! ### expressions as statements, names stored -/
def sExpr (m : EM) : SM := fun env st => (m env st).then env fun _ st' => .nx env st'
/-- no comprehension's value is dropped, stored by itself -/
def notComp : Expr → Bool
  | .ListComp _ _ _ _ => false
  | .SetComp _ _ _ _ => false
  | .DictComp _ _ _ _ _ => false
  | _ => true
theorem swaps_none {e : Expr} (h : notComp e = true) (t : Option Expr) (l : Nat) (env : Env) : swapsWith e t l env = pure false := by
  cases e <;> first | rfl | cases h
theorem ds_expr {e : Expr} {m : EM} (h : DE X G W e m) (hn : notComp e = true) : DS X G W n0 (.Expr e pos) (sExpr m) :=
  PS.by (ps_expr h (swaps_none hn none pos.line X.env)) fun E σ H ⟨μ0, H0, μ, env, st, a, f⟩ => ⟨μ, env, st, a.sim, a.env, (FinS.thn a f).mono fun x st1 μ1 H1 e1 s1 h1 v rv => h1 μ1 H1 σ Ext.refl s1 (a.env.ext e1)⟩
def sAsg (m : EM) (gm : GM) : SM := fun env st => (m env st).then env fun x st' => match gm x env with
  | some env' => .nx env' st'
  | none => .fail
theorem rdAsg {m : EM} {gs : List Nat} {gm : GM} (E : Ends) (σ : L2.St) (H : Hp) (h : RdS G W n0 (sAsg m gm) E σ H) : tAsg (RdE G W m) (RdG G gs gm) E σ H := by
  obtain ⟨μ0, H0, μ, env, st, a, f⟩ := h
  refine ⟨μ, env, st, a.sim, a.env, (FinS.thn a f).mono fun x st1 μ1 H1 e1 s1 h1 v rv => ?_⟩
  cases q : gm x env with
  | none => rw [q] at h1; exact h1.elim
  | some env' =>
    rw [q] at h1
    exact ⟨μ1, env, st1, x, env', s1, a.env.ext e1, rv, q, fun σ' en' _ _ => h1 μ1 H1 σ' Ext.refl s1 en'⟩
theorem gName_of {i : Nat} {v : V} {σ : L2.St} {H : Hp} {Q : L2.St → Hp → Prop} (h : RdG G [i] (gN i) v σ H Q) : gName i v σ H Q := by
  obtain ⟨μ, env, st, y, env', s, en, rv, e, k⟩ := h
  cases e
  exact k _ (en.set rv) (by rw [List.length_set]) fun j hj => List.getElem?_set_ne (fun z => hj (by simp [z]))
theorem tAsg_name {m : EM} {i : Nat} {E : Ends} {σ : L2.St} {H : Hp} (h : RdS G W n0 (sAsg m (gN i)) E σ H) : tAsg (RdE G W m) (gName i) E σ H := by
  obtain ⟨μ0, H0, μ, env, st, a, f⟩ := h
  refine ⟨μ, env, st, a.sim, a.env, (FinS.thn a f).mono fun x st1 μ1 H1 e1 s1 h1 v rv => ?_⟩
  exact h1 μ1 H1 _ Ext.refl s1 ((a.env.ext e1).set rv)
theorem ds_set {i : Nat} {x : Str} {e : Expr} {m : EM} {p : Pos} (hN : X.N.Nodup) (hi : X.N[i]? = some x) (hx : Loc X.env.scope x) (hf : X.fn x = true ∨ X.env.scope.names.lookup x = some .local) (h : DE X G W e m) (hn : notComp e = true) :
    DS X G W n0 (.Assign [.Name x p] e pos) (sAsg m (gN i)) :=
  PS.by (ps_set hN hi hx h (swaps_none hn _ _ _) hf) fun E σ H q => tAsg_name q
/-- name = [..] that is not stored by itself -/
theorem ds_setC {i : Nat} {x : Str} {e : Expr} {m : EM} {p : Pos} (hN : X.N.Nodup) (hi : X.N[i]? = some x) (hx : Loc X.env.scope x) (hf : X.fn x = true ∨ X.env.scope.names.lookup x = some .local) (h : DE X G W e m) (hs : swapsWith e (some (.Name x p)) pos.line X.env = pure false) :
    DS X G W n0 (.Assign [.Name x p] e pos) (sAsg m (gN i)) :=
  PS.by (ps_set hN hi hx h hs hf) fun E σ H q => tAsg_name q
/-- name = [..], stored by itself -/
theorem ds_setLc {i : Nat} {x : Str} {px : Pos} {elt tg iter : Expr} {ifs : List Expr} {scope : Scope} {own : List (Str × Nat)} {spos : Pos} {mi : IM} {gs : List Nat} {gm : GM} {mt : TM} {me : EM} {md : Bool} (hc : X.calm = true) (hN : X.N.Nodup) (hy : X.N[i]? = some x) (hyl : X.env.scope.names.lookup x = some .local)
    (hsw : swapsWith (.ListComp elt [⟨tg, iter, ifs, 0⟩] scope pos) (some (.Name x px)) spos.line X.env = pure true) (hi : DI X G W tg iter mi) (ok : BlkOk X.N X.env.scope scope own)
    (hg : ∀ (h : List Addr) (s : Shared) (H : Hp) (C : Addr) (cl : List (Str × Addr)) (fp : List Addr), PG (X.blk s H scope (compEnvC scope cl C X.env) fp) tg (RdG (G.h h) gs gm))
    (ht : ∀ (h : List Addr) (s : Shared) (H : Hp) (C : Addr) (cl : List (Str × Addr)) (fp : List Addr), PTs (X.blk s H scope (compEnvC scope cl C X.env) fp) ifs (RdT (G.h h) WF mt))
    (he : ∀ (h : List Addr) (s : Shared) (H : Hp) (C : Addr) (cl : List (Str × Addr)) (fp : List Addr), PE (X.blk s H scope (compEnvC scope cl C X.env) fp) elt (RdE (G.h h) WF me))
    (hgs : ∀ j ∈ gs, j ∈ own.map (·.2)) (hs : ∀ x, foldedSetIterable iter X.env x = pure x) :
    DS X G W n0 (.Assign [.Name x px] (.ListComp elt [⟨tg, iter, ifs, 0⟩] scope pos) spos) (sAsg (mComp md (own.map (·.2)) mi gm mt me) (gN i)) :=
  PS.by (ps_setLc (g := fun v σ H Q => ∃ h, RdG (G.h h) gs gm v σ H Q) (tt := fun σ H Q => ∃ h, RdT (G.h h) WF mt σ H Q) (te := fun σ H Q => ∃ h, RdE (G.h h) WF me σ H Q) hc hN hy hyl hsw hi ok
    (fun s H C cl fp => PG.ex fun h => hg h s H C cl fp) (fun s H C cl fp => PTs.ex fun h => ht h s H C cl fp) (fun s H C cl fp => PE.ex fun h => he h s H C cl fp) hs) fun E σ H q => rd_lc hgs σ H _ (tAsg_name q)
/-- a, b = e -/
theorem ds_asg {tg e : Expr} {m : EM} {gs : List Nat} {gm : GM} (h : DE X G W e m) (hg : PG X tg (RdG G gs gm)) (hn : notComp e = true) (hp : plainTg tg = true) (hw : swappedStores [tg] e X.env = pure none) : DS X G W n0 (.Assign [tg] e pos) (sAsg m gm) :=
  PS.by (ps_asg h hg (by show swapsWith e (some tg) pos.line X.env = pure false; exact swaps_none hn _ _ _) hw (by rw [assignEach_plain hp]; rfl)) fun E σ H q => rdAsg E σ H q
/-- a, b = e1, e2 -/
def sPar (i j : Nat) (am : AM) : SM := fun env st => (am env st).then env fun xs st' => match xs with
  | [x, y] => .nx ((env.set i (some x)).set j (some y)) st'
  | _ => .fail
theorem ds_par {i j : Nat} {x y : Str} {a b : Expr} {am : AM} {px py pt : Pos} {kt k2 : Nat} {pt2 : Pos} (h : PS X (.Assign [.Tuple [.Name x px, .Name y py] kt pt] (.Tuple [a, b] k2 pt2) pos) (tPar i j (RdA G W am))) : DS X G W n0 (.Assign [.Tuple [.Name x px, .Name y py] kt pt] (.Tuple [a, b] k2 pt2) pos) (sPar i j am) :=
  PS.by h fun E σ H ⟨μ0, H0, μ, env, st, at_, f⟩ => ⟨μ, env, st, at_.sim, at_.env, (FinS.thn at_ f).mono fun xs st1 μ1 H1 e1 s1 h1 vs rv => by
    split at h1
    · obtain ⟨v, w, rfl, r1, r2⟩ := rv.two
      exact ⟨v, w, rfl, h1 μ1 H1 _ Ext.refl s1 (((at_.env.ext e1).set r1).set r2)⟩
    · exact h1.elim⟩

/-! ### if, return -/
def sIf (t : TM) (m k : SM) : SM := fun env st => (t env st).then env fun b st' => match b with
  | true => m env st'
  | false => k env st'
theorem ds_if {c : Expr} {a b : List Stmt} {t : TM} {m k : SM} (hc : DT X G W c t) (ha : DSs X G W n0 a m) (hb : DSs X G W n0 b k) : DS X G W n0 (.If c a b pos) (sIf t m k) :=
  PS.by (ps_if hc ha hb) fun E σ H ⟨μ0, H0, μ, env, st, at_, f⟩ => ⟨μ, env, st, at_.sim, at_.env, (FinS.thn at_ f).mono fun x st1 μ1 H1 e1 s1 h1 => by
    cases x with
    | true => exact iteT ⟨μ0, H0, μ1, env, st1, at_.go e1 s1, h1⟩
    | false => exact iteF ⟨μ0, H0, μ1, env, st1, at_.go e1 s1, h1⟩⟩
/-- the value as it is -/
def sRetK (m : EM) : SM := fun env st => (m env st).then env fun x st' => .rt x st'
theorem ds_retK {e : Expr} {m : EM} (h : DE X G W e m) : DS X G W n0 (.Return (some e) pos) (sRetK m) :=
  PS.by (ps_ret h) fun E σ H ⟨μ0, H0, μ, env, st, a, f⟩ => ⟨μ, env, st, a.sim, a.env, (FinS.thn a f).mono fun x st1 μ1 H1 e1 s1 h1 v rv => h1 μ1 H1 v (a.ext.trans e1) s1 rv⟩
/-! what a def made for itself is data from its end on -/
mutual
def closedV (n0 : Nat) : Val → Bool
  | .p _ => true
  | .r l => decide (l < n0)
  | .x _ _ => false
end
def closedO (n0 : Nat) : SObj → Bool
  | .lst vs => vs.all (closedV n0)
  | .dct _ vs => vs.all (closedV n0)
  | .ldct _ vs => vs.all (closedV n0)
  | .ins _ fs => fs.all fun p => closedV n0 p.2
  | .scr _ => true
mutual
def frzV (n0 : Nat) (st : Sto) : Nat → Val → Option D
  | _, .p d => some d
  | 0, _ => none
  | n + 1, .r l => if l < n0 then none else match st[l]? with
    | some (.lst vs) => match frzL n0 st n vs with
      | some ds => some (.lst ds)
      | none => none
    | some (.dct ks vs) => match frzL n0 st n vs with
      | some ds => some (.dct ks ds)
      | none => none
    | _ => none
  | _, .x _ _ => none
def frzL (n0 : Nat) (st : Sto) : Nat → List Val → Option (List D)
  | _, [] => some []
  | n, v :: vs => match frzV n0 st n v, frzL n0 st n vs with
    | some d, some ds => some (d :: ds)
    | _, _ => none
end
def frzS (n0 : Nat) (st : Sto) : Option Val → Option Val
  | some (.p d) => some (.p d)
  | some (.r l) => if l < n0 then some (.r l) else match frzV n0 st 4 (.r l) with
    | some d => some (.p d)
    | none => none
  | _ => none
def settle (n0 : Nat) (env : Slots) (st : Sto) : Option (Slots × Sto) :=
  if st.length = n0 then some (env, st) else if (st.take n0).all (closedO n0) = true then some (env.map (frzS n0 st), st.take n0) else none
/-- .. and the value -/
def sRet (n0 : Nat) (m : EM) : SM := fun env st => if st.length = n0 then sRetK m env st else match settle n0 env st with
  | some (env', st') => (match m env' st' with
    | .ok x st2 => .rt x st2
    | _ => .fail)
  | none => .fail
mutual
theorem frzV_sem {K : Frag} (s : Sim G μ H st) : ∀ (n : Nat) (x : Val) (v : V) (d : D), RpV G.K G.hid [] μ H v x → frzV n0 st n x = some d → Rp G.K (Fz G.hid (μ.take n0)) H v d
  | n, .p d', v, d, r, e => by
    have e' : d' = d := by cases n <;> (simp only [frzV] at e; exact Option.some.inj e)
    subst e'
    exact Rp.over (fun a h => ⟨fun z => h.1 (List.mem_of_mem_take z), h.2⟩) r
  | 0, .r l, v, d, r, e => by simp [frzV] at e
  | n + 1, .r l, v, d, r, e => by
    obtain ⟨a, rfl, ha⟩ := r
    have hnt : ¬ l < n0 → a ∉ μ.take n0 := fun hl z => by
      obtain ⟨j, hj, ej⟩ := List.getElem_of_mem z
      have hj' : j < n0 := by simp at hj; omega
      have hjm : j < μ.length := by simp at hj; omega
      have e1 : μ[j]? = some a := by
        rw [List.getElem_take] at ej
        simp [hjm, ej]
      have := nodup_at s.nd e1 ha
      omega
    have hnh : a ∉ G.hid := fun z => s.dis a z (List.mem_of_getElem? ha)
    simp only [frzV] at e
    split at e
    · cases e
    · rename_i hl
      split at e
      · rename_i vs q
        split at e
        · rename_i ds qd
          cases e
          obtain ⟨xs, h1, h2⟩ := s.obj _ _ _ ha q
          exact .lst h1 ⟨hnt hl, hnh⟩ (frzL_sem (K := K) s n vs xs ds h2 qd)
        · cases e
      · rename_i ks vs q
        split at e
        · rename_i ds qd
          cases e
          obtain ⟨kvs, h1, h2, h3⟩ := s.obj _ _ _ ha q
          exact .dct (.inl h1) ⟨hnt hl, hnh⟩ h2 (frzL_sem (K := K) s n vs _ ds h3 qd)
        · cases e
      · cases e
  | 0, .x c fs, v, d, r, e => by simp [frzV] at e
  | n + 1, .x c fs, v, d, r, e => by simp [frzV] at e
theorem frzL_sem {K : Frag} (s : Sim G μ H st) : ∀ (n : Nat) (xs : List Val) (vs : List V) (ds : List D), RpVs G.K G.hid μ H vs xs → frzL n0 st n xs = some ds → RpL G.K (Fz G.hid (μ.take n0)) H vs ds
  | n, [], _, ds, r, e => by
    cases r
    have e' : [] = ds := by cases n <;> (simp only [frzL] at e; exact Option.some.inj e)
    subst e'
    exact .nil
  | n, x :: xs, _, ds, r, e => by
    cases r with
    | cons r1 r2 =>
      rename_i v vs
      have e' : (match frzV n0 st n x, frzL n0 st n xs with | some d, some ds => some (d :: ds) | _, _ => none) = some ds := by
        cases n <;> (simp only [frzL] at e; exact e)
      split at e'
      · rename_i d ds' q1 q2
        cases e'
        exact .cons (frzV_sem (K := K) s n x v d r1 q1) (frzL_sem (K := K) s n xs vs ds' r2 q2)
      · cases e'
end
theorem closedV_sem {n : Nat} {v : V} : ∀ {x : Val}, closedV n x = true → RpV G.K G.hid [] μ H v x → RpV G.K G.hid [] (μ.take n) H v x
  | .p d, _, r => Rp.over (fun a h => ⟨fun z => h.1 (List.mem_of_mem_take z), h.2⟩) r
  | .r l, c, ⟨a, h1, h2⟩ => ⟨a, h1, by
    have hl : l < n := by simpa [closedV] using c
    rw [List.getElem?_take]
    simp [hl, h2]⟩
  | .x _ _, c, _ => by simp [closedV] at c
theorem closedVs_sem {n : Nat} : ∀ {vs : List V} {xs : List Val}, xs.all (closedV n) = true → RpVs G.K G.hid μ H vs xs → RpVs G.K G.hid (μ.take n) H vs xs
  | _, _, _, .nil => .nil
  | _, _, c, .cons r t => by
    simp only [List.all_cons, Bool.and_eq_true] at c
    exact .cons (closedV_sem c.1 r) (closedVs_sem c.2 t)
theorem Sim.cut {n : Nat} (s : Sim G μ H st) (c : (st.take n).all (closedO n) = true) : Sim G (μ.take n) H (st.take n) where
  len := by simp [s.len]
  nd := s.nd.sublist (List.take_sublist _ _)
  hid := s.hid
  dis := fun a h z => s.dis a h (List.mem_of_mem_take z)
  obj := fun l a o h1 h2 => by
    have hc := List.all_eq_true.mp c o (List.mem_of_getElem? h2)
    have h1' : μ[l]? = some a := by
      rw [List.getElem?_take] at h1
      split at h1
      · exact h1
      · cases h1
    have h2' : st[l]? = some o := by
      rw [List.getElem?_take] at h2
      split at h2
      · exact h2
      · cases h2
    have k := s.obj l a o h1' h2'
    cases o with
    | lst vs => obtain ⟨xs, k1, k2⟩ := k; exact ⟨xs, k1, closedVs_sem hc k2⟩
    | dct ks vs => obtain ⟨kvs, k1, k2, k3⟩ := k; exact ⟨kvs, k1, k2, closedVs_sem hc k3⟩
    | ldct ks vs => obtain ⟨o, kvs, k1, k2, k3⟩ := k; exact ⟨o, kvs, k1, k2, closedVs_sem hc k3⟩
    | ins cc fs =>
      obtain ⟨C, dx, fvs, k0, k1, k2, k3⟩ := k
      refine ⟨C, dx, fvs, k0, k1, k2, closedVs_sem ?_ k3⟩
      have hc' : fs.all (fun p => closedV n p.2) = true := hc
      rw [List.all_map]
      exact hc'
    | scr ns => exact k
theorem Ext.base (e : Ext μ0 H0 μ H) : Ext μ0 H0 μ0 H := ⟨List.prefix_refl _, e.tup, e.lst, e.dcx, e.xd, fun a h n => absurd h n, e.on⟩
theorem settle_sem (a : At G n0 μ0 H0 μ H env st σ) (e : settle n0 env st = some (env', st')) : ∃ μ', Ext μ0 H0 μ' H ∧ Sim G μ' H st' ∧ EnvRp G μ' H env' σ := by
  unfold settle at e
  split at e
  · cases e
    exact ⟨μ, a.ext, a.sim, a.env⟩
  · split at e
    · rename_i hc
      cases e
      have em : μ.take n0 = μ0 := by
        obtain ⟨t, ht⟩ := a.ext.pre
        rw [← ht, ← a.n0]
        simp
      refine ⟨μ.take n0, by rw [em]; exact a.ext.base, a.sim.cut hc, ⟨by rw [List.length_map]; exact a.env.len, fun i x q => ?_⟩⟩
      rw [List.getElem?_map] at q
      obtain ⟨o, ho, hf⟩ := Option.map_eq_some_iff.mp q
      cases o with
      | none => simp [frzS] at hf
      | some y =>
        obtain ⟨v, h1, h2⟩ := a.env.at_ i y ho
        refine ⟨v, h1, ?_⟩
        cases y with
        | p d =>
          simp only [frzS, Option.some.injEq] at hf
          subst hf
          exact Rp.over (fun a h => ⟨fun z => h.1 (List.mem_of_mem_take z), h.2⟩) h2
        | r l =>
          simp only [frzS] at hf
          split at hf
          · rename_i hl
            cases hf
            exact closedV_sem (G := G) (H := H) (x := .r l) (by simpa [closedV] using hl) h2
          · split at hf
            · rename_i d qd
              cases hf
              exact frzV_sem (K := G.K) a.sim 4 (.r l) v d h2 qd
            · cases hf
        | x c fs => simp [frzS] at hf
    · cases e
theorem ds_ret {e : Expr} {m : EM} (h : DE X G W e m) : DS X G W n0 (.Return (some e) pos) (sRet n0 m) :=
  PS.by (ps_ret h) fun E σ H ⟨μ0, H0, μ, env, st, a, f⟩ => by
    unfold sRet at f
    split at f
    · exact ⟨μ, env, st, a.sim, a.env, (FinS.thn a f).mono fun x st1 μ1 H1 e1 s1 h1 v rv => h1 μ1 H1 v (a.ext.trans e1) s1 rv⟩
    · cases q : settle n0 env st with
      | none => rw [q] at f; exact f.elim
      | some p =>
        obtain ⟨env', st'⟩ := p
        rw [q] at f
        obtain ⟨μ', e', s', n'⟩ := settle_sem a q
        refine ⟨μ', env', st', s', n', ?_⟩
        have f : FinS G W μ0 H0 μ H (match m env' st' with | .ok x st2 => .rt x st2 | _ => .fail) E := f
        cases qm : m env' st' with
        | fail => rw [qm] at f; exact f.elim
        | ok x st2 =>
          rw [qm] at f
          exact fun μ2 H2 e2 s2 v rv => f μ2 H2 v (e'.trans e2) s2 rv
        | exc c fs st2 => rw [qm] at f; exact f.elim
end
end Sl
end
section
set_option Elab.async false
set_option linter.all false
set_option maxRecDepth 100000
set_option maxHeartbeats 1000000
namespace Sl
open PySem PySem.Spec PyProof.Rows L2
/-! ### loops -/
/-- the turns over what is left -/
def forGo (src : Option Nat) (all : List Val) (gm : GM) (mb : SM) : List Val → SM
  | [], env, st => if watch st src all = true then .nx env st else .fail
  | x :: rest, env, st => if watch st src all = true then match gm x env with
    | none => .fail
    | some env1 => match mb env1 st with
      | .nx env2 st2 => forGo src all gm mb rest env2 st2
      | .ct env2 st2 => forGo src all gm mb rest env2 st2
      | .bk env2 st2 => .nx env2 st2
      | r => r
    else .fail
def sFor (mi : IM) (gm : GM) (mb : SM) : SM := fun env st => (mi env st).then env fun p st1 => forGo p.2 p.1 gm mb p.1 env st1
def whGo (t : TM) (mb : SM) : Nat → SM
  | 0, _, _ => .fail
  | n + 1, env, st => (t env st).then env fun b st1 => match b with
    | false => .nx env st1
    | true => match mb env st1 with
      | .nx env2 st2 => whGo t mb n env2 st2
      | .ct env2 st2 => whGo t mb n env2 st2
      | .bk env2 st2 => .nx env2 st2
      | r => r
open Classical in
/-- as often as it needs -/
noncomputable def sWhile (t : TM) (mb : SM) : SM := fun env st => if h : ∃ n, whGo t mb n env st ≠ .fail then whGo t mb h.choose env st else .fail
theorem whGo_mono (t : TM) (mb : SM) : ∀ (n m : Nat) (env : Slots) (st : Sto), n ≤ m → whGo t mb n env st ≠ .fail → whGo t mb m env st = whGo t mb n env st
  | 0, _, _, _, _, h => absurd rfl h
  | n + 1, 0, _, _, hm, _ => absurd hm (by omega)
  | n + 1, m + 1, env, st, hm, h => by
    have ih := whGo_mono t mb n m
    unfold whGo at h ⊢
    cases q : t env st with
    | fail => rfl
    | exc c fs st1 => rfl
    | ok b st1 =>
      rw [q] at h
      cases b with
      | false => rfl
      | true =>
        dsimp only [R.then] at h ⊢
        cases qb : mb env st1 with
        | nx e2 s2 => rw [qb] at h; exact ih e2 s2 (by omega) h
        | ct e2 s2 => rw [qb] at h; exact ih e2 s2 (by omega) h
        | _ => rfl
theorem sWhile_of {t : TM} {mb : SM} {env : Slots} {st : Sto} {r : SR} (n : Nat) (h : whGo t mb n env st = r) (hr : r ≠ .fail) : sWhile t mb env st = r := by
  unfold sWhile
  have hx : ∃ n, whGo t mb n env st ≠ .fail := ⟨n, by rw [h]; exact hr⟩
  rw [dif_pos hx]
  have hc := hx.choose_spec
  rcases Nat.le_total hx.choose n with q | q
  · rw [← h, whGo_mono t mb _ _ env st q hc]
  · rw [whGo_mono t mb _ _ env st q (by rw [h]; exact hr), h]
theorem sWhile_ex {t : TM} {mb : SM} {env : Slots} {st : Sto} (h : sWhile t mb env st ≠ .fail) : ∃ n, whGo t mb n env st = sWhile t mb env st := by
  by_cases hx : ∃ n, whGo t mb n env st ≠ .fail
  · exact ⟨hx.choose, by rw [sWhile_of hx.choose rfl hx.choose_spec]⟩
  · unfold sWhile at h
    rw [dif_neg hx] at h
    exact absurd rfl h
section
variable {X : Cx} {G : Grd} {W : WX} {n0 : Nat} {pos : Pos}
theorem ds_for {tg iter : Expr} {body : List Stmt} {mi : IM} {gs : List Nat} {gm : GM} {mb : SM} (hp : PassesOwn (model X.prog X.w) X.A X.env X.xe) (hc : X.calm = true) (hi : DI X G W tg iter mi) (hg : PG X tg (RdG G gs gm)) (hb : DSs X G W n0 body mb)
    (hs : ∀ x, foldedSetIterable iter X.env x = pure x) : DS X G W n0 (.For tg iter body [] pos) (sFor mi gm mb) := by
  refine PS.by (ps_for hp hc hi hg hb hs) ?_
  rintro D σ H ⟨μ0, H0, μ, env, st, at0, f⟩
  refine ⟨μ, env, st, at0.sim, at0.env, (FinS.thn at0 f).mono fun p st1 μ1 H1 e1 s1 h1 J hJ => ?_⟩
  obtain ⟨all, src⟩ := p
  dsimp only at h1 hJ
  have hh : ∀ a ∈ G.hid, a ∈ G.hid ∨ H1 a = none := fun a ha => .inl ha
  refine ⟨fun i m σ H => m = all.length - i ∧ i ≤ all.length ∧ ∃ μi env st, Ext μ1 H1 μi H ∧ At G n0 μ0 H0 μi H env st σ ∧ FinS G W μ0 H0 μi H (forGo src all gm mb (all.drop i) env st) D,
    ⟨all.length, by simp, Nat.zero_le _, μ1, env, st1, Ext.refl, at0.go e1 s1, by rw [List.drop_zero]; exact h1⟩, ?_⟩
  rintro i m σ2 H2 ⟨rfl, hi2, μi, envi, sti, ei, ati, fi⟩
  by_cases hlt : i < all.length
  · refine .inr ?_
    obtain ⟨x, hx⟩ : ∃ x, all[i]? = some x := ⟨all[i], by simp [hlt]⟩
    have hdrop : all.drop i = x :: all.drop (i + 1) := by
      rw [List.drop_eq_getElem_cons hlt]
      congr 1
      rw [List.getElem?_eq_getElem hlt] at hx
      exact Option.some.inj hx
    rw [hdrop] at fi
    unfold forGo at fi
    split at fi
    · rename_i hw
      cases qg : gm x envi with
      | none => rw [qg] at fi; exact fi.elim
      | some env1 =>
        rw [qg] at fi
        dsimp only at fi
        refine ⟨hJ.go _ hh μi H2 sti i ei ati.sim hw hlt, fun σ' H' => all.length - (i + 1) = all.length - (i + 1) ∧ i + 1 ≤ all.length ∧ ∃ μi env st, Ext μ1 H1 μi H' ∧ At G n0 μ0 H0 μi H' env st σ' ∧ FinS G W μ0 H0 μi H' (forGo src all gm mb (all.drop (i + 1)) env st) D, fun σ' H' q => ⟨_, by omega, q⟩, fun v H' y => ?_⟩
        obtain ⟨e2, s2, rv⟩ := hJ.yld _ hh μi H2 sti i v H' ei ati.sim hw hlt y
        refine ⟨μi, envi, sti, x, env1, s2, ati.env.ext e2, rv x hx, qg, fun σ3 en3 _ _ => ?_⟩
        refine ⟨μ0, H0, μi, env1, sti, ati.to e2 s2 en3, ?_⟩
        have fi := FinS.ext e2 fi
        cases qb : mb env1 sti with
        | fail => rw [qb] at fi; exact fi
        | nx env2 st2 =>
          rw [qb] at fi
          intro μ3 H3 σ3' e3 s3 n3
          exact ⟨rfl, hlt, μ3, env2, st2, (ei.trans e2).trans e3, (ati.to e2 s2 en3).to e3 s3 n3, FinS.ext e3 fi⟩
        | ct env2 st2 =>
          rw [qb] at fi
          intro μ3 H3 σ3' e3 s3 n3
          exact ⟨rfl, hlt, μ3, env2, st2, (ei.trans e2).trans e3, (ati.to e2 s2 en3).to e3 s3 n3, FinS.ext e3 fi⟩
        | rt v st2 => rw [qb] at fi; exact fi
        | bk env2 st2 => rw [qb] at fi; exact fi
        | exc c fs env2 st2 => rw [qb] at fi; exact fi
    · exact fi.elim
  · have hie : i = all.length := by omega
    subst hie
    rw [List.drop_length] at fi
    unfold forGo at fi
    split at fi
    · rename_i hw
      exact .inl ⟨hJ.stop _ hh μi H2 sti ei ati.sim hw, fi μi H2 σ2 Ext.refl ati.sim ati.env⟩
    · exact fi.elim
theorem ds_while {c : Expr} {body : List Stmt} {t : TM} {mb : SM} (hp : PassesOwn (model X.prog X.w) X.A X.env X.xe) (hc : DT X G W c t) (hb : DSs X G W n0 body mb) : DS X G W n0 (.While c body [] pos) (sWhile t mb) := by
  refine PS.by (ps_while hp hc hb) ?_
  rintro D σ H ⟨μ0, H0, μ, env, st, at0, f⟩
  by_cases hx : sWhile t mb env st = .fail
  · rw [hx] at f
    exact f.elim
  obtain ⟨n, hn⟩ := sWhile_ex hx
  rw [← hn] at f
  refine ⟨fun m σ H => ∃ μi env st, At G n0 μ0 H0 μi H env st σ ∧ FinS G W μ0 H0 μi H (whGo t mb m env st) D, ⟨n, μ, env, st, at0, f⟩, ?_⟩
  rintro m σ H ⟨μi, env, st, ati, fi⟩
  cases m with
  | zero => exact fi.elim
  | succ m =>
    unfold whGo at fi
    refine ⟨μi, env, st, ati.sim, ati.env, (FinS.thn ati fi).mono fun b st1 μ1 H1 e1 s1 h1 => ?_⟩
    cases b with
    | false => exact iteF (h1 μ1 H1 σ Ext.refl s1 (ati.env.ext e1))
    | true =>
      refine iteT ⟨fun σ' H' => ∃ μi env st, At G n0 μ0 H0 μi H' env st σ' ∧ FinS G W μ0 H0 μi H' (whGo t mb m env st) D, fun σ' H' q => ⟨m, Nat.lt_succ_self _, q⟩, μ0, H0, μ1, env, st1, ati.go e1 s1, ?_⟩
      dsimp only at h1
      cases qb : mb env st1 with
      | fail => rw [qb] at h1; exact h1
      | nx env2 st2 =>
        rw [qb] at h1
        exact fun μ3 H3 σ3' e3 s3 n3 => ⟨μ3, env2, st2, (ati.go e1 s1).to e3 s3 n3, FinS.ext e3 h1⟩
      | ct env2 st2 =>
        rw [qb] at h1
        exact fun μ3 H3 σ3' e3 s3 n3 => ⟨μ3, env2, st2, (ati.go e1 s1).to e3 s3 n3, FinS.ext e3 h1⟩
      | rt v st2 => rw [qb] at h1; exact h1
      | bk env2 st2 => rw [qb] at h1; exact h1
      | exc c fs env2 st2 => rw [qb] at h1; exact h1
end
end Sl
end
section
set_option Elab.async false
set_option linter.all false
set_option maxRecDepth 100000
set_option maxHeartbeats 1000000
namespace Sl
open PySem PySem.Spec PyProof.Rows L2
/-! ### a def -/
def cutSt (n0 : Nat) (st : Sto) : Option Sto := if st.length = n0 then some st else if (st.take n0).all (closedO n0) = true then some (st.take n0) else none
/-- what a def does, by what its body does at the store's length -/
def bodyF (k : Nat) (m : Nat → SM) : FS := fun xs st => match m st.length (xs.map some ++ List.replicate (k - xs.length) none) st with
  | .nx _ st' => (match cutSt st.length st' with
    | some s => .ok (.p .non) s
    | none => .fail)
  | .rt v st' => .ok v st'
  | .exc c fs _ st' => .exc c fs ((cutSt st.length st').getD st')
  | _ => .fail
section
variable {G : Grd} {W : WX} {n0 : Nat} {μ0 μ μ' : List Addr} {H0 H H' : Hp} {st st' : Sto}
theorem cut_sem (ln : μ0.length = n0) (e0 : Ext μ0 H0 μ H) (s : Sim G μ H st) (e : cutSt n0 st = some st') : ∃ μ', Ext μ0 H0 μ' H ∧ Sim G μ' H st' ∧ (∀ a, Fz G.hid μ a → Fz G.hid μ' a) := by
  unfold cutSt at e
  split at e
  · cases e
    exact ⟨μ, e0, s, fun a h => h⟩
  · split at e
    · rename_i hc
      cases e
      have em : μ.take n0 = μ0 := by
        obtain ⟨t, ht⟩ := e0.pre
        rw [← ht, ← ln]
        simp
      exact ⟨μ.take n0, by rw [em]; exact e0.base, s.cut hc, fun a h => ⟨fun z => h.1 (List.mem_of_mem_take z), h.2⟩⟩
    · cases e
theorem ExRp.over {c : Str} {fs : List (Str × D)} {cls : Value} {d : Option Addr} (k : ∀ a, Fz G.hid μ a → Fz G.hid μ' a) (h : ExRp G μ H c fs cls d) : ExRp G μ' H c fs cls d := by
  obtain ⟨C, dx, fvs, h1, h2, h3, h4, h5, h6⟩ := h
  exact ⟨C, dx, fvs, h1, h2, h3, h4, h5, RpL.carry ⟨fun _ _ q => q, fun a _ q r => ⟨r, k a q⟩, fun a _ q r => ⟨r, k a q⟩⟩ _ _ h6⟩
theorem args_env {vs : List V} {xs : List Val} {N : List Str} (r : RpVs G.K G.hid μ H vs xs) : EnvRp G μ H (xs.map some ++ List.replicate (N.length - xs.length) none) (L2.start N vs) := by
  have hl := r.length
  unfold L2.start
  refine ⟨by simp [hl], fun i x e => ?_⟩
  by_cases hi : i < xs.length
  · rw [List.getElem?_append_left (by simpa using hi), List.getElem?_map] at e
    obtain ⟨y, hy, ey⟩ := Option.map_eq_some_iff.mp e
    cases ey
    obtain ⟨v, h1, h2⟩ := r.get hy
    refine ⟨v, by rw [List.getElem?_append_left (by simp; omega), List.getElem?_map, h1]; rfl, ?_⟩
    cases x with
    | p d => exact h2
    | r l => exact h2
    | x c fs => obtain ⟨_, _, _, _, h3, _⟩ := h2; exact nomatch h3
  · rw [List.getElem?_append_right (by simpa using hi)] at e
    rw [List.getElem?_replicate] at e
    split at e <;> cases e
end
/-- the ground that a def stands on -/
structure FC where
  P : Program
  w : World
  K : Frag
  mg : Str → Option Value
  base : Heap
  f : Addr
  cdv : Value
  A : Around
  outer : List Env
  s : Shared
  H : Hp
  E : XK
@[reducible] def FC.X (c : FC) (N : List Str) (qual : Str) (scope : Scope) : Cx := cxOf (L2.CX c.P c.w) c.P c.w c.K c.mg c.base N qual scope c.f c.cdv c.A c.outer c.s c.H c.E
@[reducible] def FC.W (c : FC) : WX := fun cls d _ H => c.E cls d H
theorem FC.tk (c : FC) (N : List Str) (qual : Str) (scope : Scope) : Takes (c.X N qual scope) c.W :=
  takes_of (X := c.X N qual scope) (E := c.E) rfl rfl rfl (E₁ := fun e s'' => L2.CX c.P c.w c.outer c.H c.s c.E e s'') rfl
theorem FC.own (c : FC) (N : List Str) (qual : Str) (scope : Scope) : PassesOwn (model (c.X N qual scope).prog (c.X N qual scope).w) (c.X N qual scope).A (c.X N qual scope).env (c.X N qual scope).xe :=
  passes_of (X := c.X N qual scope) (K := fun e s'' => L2.CX c.P c.w c.outer c.H c.s c.E e s'') (E₁ := fun e s'' => L2.CX c.P c.w c.outer c.H c.s c.E e s'') rfl
theorem fn_ok {P : Program} {w : World} {K : Frag} {mg : Str → Option Value} {base : Heap} {x qual : Str} {params : Arguments} {body : List Stmt} {scope : Scope} {dvs : List V} {kws : List (Str × V)} {f : Addr} {fd : FuncData} {N ps : List Str} {k : Nat} {G : Grd} {m : Nat → SM}
    (F : FunD K x qual params body scope dvs kws f fd) (S : FnScope N ps scope)
    (hb : ∀ (cdv : Value) (A : Around) (outer : List Env) (s : Shared) (H : Hp) (E : XK) (n0 : Nat), Room k (A.deeper (envOfC qual scope s.heap.objs.size f cdv)) →
      DSs ((FC.mk P w K mg base f cdv A outer s H E).X N qual scope) G (FC.mk P w K mg base f cdv A outer s H E).W n0 body (m n0)) :
    FnOk P w K mg base (L2.CX P w) (k + 1) f fd ps (spF G ps.length (bodyF N.length m)) := by
  refine F.ok S (fun vs H Q E h => ?_) fun cdv A outer s H vs Q E hr h => ?_
  · obtain ⟨μ, st, xs, _, r, hl, _⟩ := h
    rw [r.length, hl]
  · obtain ⟨μ, st, xs, si, r, hl, f⟩ := h
    refine ⟨_, hb cdv A outer s H E μ.length hr, μ, H, μ, xs.map some ++ List.replicate (N.length - xs.length) none, st, ⟨rfl, Ext.refl, si, args_env r⟩, ?_⟩
    rw [si.len]
    unfold bodyF at f
    revert f
    generalize m st.length (xs.map some ++ List.replicate (N.length - xs.length) none) st = res
    intro f
    cases res with
    | fail => exact f
    | nx env' st' =>
      intro μ' H' σ' e' s' n'
      dsimp only at f
      cases q : cutSt st.length st' with
      | none => rw [q] at f; exact f.elim
      | some st2 =>
        rw [q] at f
        obtain ⟨μ2, e2, s2, _⟩ := cut_sem si.len e' s' q
        exact f μ2 H' e2 s2 .non .non
    | rt v st' => exact fun μ' H' u e' s' rv => f μ' H' e' s' u rv
    | bk env' st' => exact f.elim
    | ct env' st' => exact f.elim
    | exc c fs env' st' =>
      intro μ' H' σ' cls d e' s' n' x'
      dsimp only at f
      cases q : cutSt st.length st' with
      | none => rw [q] at f; exact f μ' H' cls d e' s' x'
      | some st2 =>
        rw [q] at f
        obtain ⟨μ2, e2, s2, k2⟩ := cut_sem si.len e' s' q
        exact f μ2 H' cls d e2 s2 (x'.over k2)
end Sl
end
section
set_option Elab.async false
set_option linter.all false
set_option maxRecDepth 100000
set_option maxHeartbeats 1000000
namespace Sl
open PySem PySem.Spec PyProof.Rows L2
section
variable {X : Cx} {G : Grd} {W : WX} {μ : List Addr} {H : Hp} {st : Sto} {pos : Pos} {n0 : Nat}
theorem ObjRp.no_tup {cls : Str → Option Addr} {K : Frag} {hid : List Addr} {a : Addr} {o : SObj} {vs : List V} (h : ObjRp cls K hid μ H a o) : ¬ Rd H a (.tup vs) := by
  rintro (q | ⟨oo, q⟩) <;> cases o
  all_goals (first
    | (obtain ⟨xs, h1, _⟩ := h; rw [h1] at q; cases q)
    | (obtain ⟨o2, xs, h1, _⟩ := h; rw [h1] at q; cases q)
    | (obtain ⟨C, dx, fvs, _, h1, _⟩ := h; rw [h1] at q; cases q)
    | (obtain ⟨o2, h1⟩ := h; rw [h1] at q; cases q))
theorem objRp_no_xd {cls : Str → Option Addr} {K : Frag} {hid : List Addr} {a : Addr} {o : SObj} {fvs : List (Str × V)} (h : ObjRp cls K hid μ H a o) : H a ≠ some (HO.xd fvs) := by
  intro q
  cases o
  all_goals (first
    | (obtain ⟨xs, h1, _⟩ := h; rw [h1] at q; cases q)
    | (obtain ⟨o2, xs, h1, _⟩ := h; rw [h1] at q; cases q)
    | (obtain ⟨C, dx, fvs, _, h1, _⟩ := h; rw [h1] at q; cases q)
    | (obtain ⟨o2, h1⟩ := h; rw [h1] at q; cases q))
/-- an object of the store is written -/
theorem Ext.put {l : Nat} {a : Addr} {u : HO} (s : Sim G μ H st) (hl : μ[l]? = some a) : Ext μ H μ (L2.upd H a u) := by
  have hlt : l < st.length := by rw [← s.len]; exact (List.getElem?_eq_some_iff.mp hl).1
  have ho : ObjRp G.cls G.K G.hid μ H a st[l] := s.obj l a st[l] hl (by simp [hlt])
  have hm : a ∈ μ := List.mem_of_getElem? hl
  refine ⟨List.prefix_refl _, fun b vs q => ?_, fun b vs hb q => ?_, fun b kvs hb q => ?_, fun b fvs q => ?_, fun b h n => absurd h n, fun b q => ?_⟩
  · have nb : b ≠ a := fun z => ho.no_tup (by rw [← z]; exact q)
    unfold Rd at q ⊢
    rw [upd_ne nb]; exact q
  · rw [upd_ne fun z => hb (by rw [z]; exact hm)]; exact q
  · exact upd_ne fun z => hb (by rw [z]; exact hm)
  · rw [upd_ne fun z => objRp_no_xd ho (by rw [← z]; exact q)]; exact q
  · by_cases z : b = a
    · rw [z, upd_same]; exact fun z => nomatch z
    · rw [upd_ne z]; exact q
/-- a list of the store, its items changed -/
theorem Sim.putL {l : Nat} {a : Addr} {xs : List V} {ys : List Val} (s : Sim G μ H st) (hl : μ[l]? = some a) (r : RpVs G.K G.hid μ H xs ys) : Sim G μ (L2.upd H a (.lst xs)) (st.set l (.lst ys)) :=
  s.upd hl (Ext.put s hl) ⟨xs, upd_same, RpVs.ext (Ext.put s hl) r⟩
theorem Sim.putD {l : Nat} {a : Addr} {kvs : List (Key × V)} {ks : List DK} {ys : List Val} (s : Sim G μ H st) (hl : μ[l]? = some a) (hk : kvs.map Prod.fst = ks.map toK) (r : RpVs G.K G.hid μ H (kvs.map Prod.snd) ys) : Sim G μ (L2.upd H a (.dK kvs)) (st.set l (.dct ks ys)) :=
  s.upd hl (Ext.put s hl) ⟨kvs, upd_same, hk, RpVs.ext (Ext.put s hl) r⟩
theorem RpVs.set {K : Frag} {hid : List Addr} {v : V} {x : Val} (r : RpV K hid [] μ H v x) : ∀ {vs : List V} {xs : List Val} (n : Nat), RpVs K hid μ H vs xs → RpVs K hid μ H (vs.set n v) (xs.set n x)
  | _, _, _, .nil => .nil
  | _, _, 0, .cons _ t => .cons r t
  | _, _, n + 1, .cons q t => .cons q (RpVs.set r n t)
theorem RpVs.dropLast {K : Frag} {hid : List Addr} : ∀ {vs : List V} {xs : List Val}, RpVs K hid μ H vs xs → RpVs K hid μ H vs.dropLast xs.dropLast
  | _, _, .nil => .nil
  | _, _, .cons q .nil => .nil
  | _, _, .cons q (.cons q2 t) => .cons q (RpVs.dropLast (.cons q2 t))
theorem RpVs.eraseIdx {K : Frag} {hid : List Addr} : ∀ {vs : List V} {xs : List Val} (n : Nat), RpVs K hid μ H vs xs → RpVs K hid μ H (vs.eraseIdx n) (xs.eraseIdx n)
  | _, _, _, .nil => .nil
  | _, _, 0, .cons q t => t
  | _, _, n + 1, .cons q t => .cons q (RpVs.eraseIdx n t)

/-! ### o[i] = v -/
def setSub (o i v : Val) (st : Sto) : Option Sto := match o, i with
  | .r l, .p (.int k) => (match st[l]? with
    | some (.lst vs) => (match ixN vs.length k with
      | some j => some (st.set l (.lst (vs.set j v)))
      | none => none)
    | _ => none)
  | _, _ => none
def sSub (mo mi m : EM) : SM := fun env st => (m env st).then env fun v st1 => (mo env st1).then env fun o st2 => (mi env st2).then env fun i st3 => match setSub o i v st3 with
  | some st4 => .nx env st4
  | none => .fail
theorem setSub_sem {o i x : Val} {ov iv v : V} {st' : Sto} {Q : Hp → Prop} (s : Sim G μ H st) (ro : RpV G.K G.hid [] μ H ov o) (ri : RpV G.K G.hid [] μ H iv i) (rv : RpV G.K G.hid [] μ H v x) (e : setSub o i x st = some st')
    (k : ∀ H', Ext μ H μ H' → Sim G μ H' st' → Q H') : rSetL ov iv v H Q := by
  unfold setSub at e
  split at e
  · rename_i l kk
    split at e
    · rename_i vs q
      split at e
      · rename_i j qj
        cases e
        obtain ⟨a, rfl, ha⟩ := ro
        cases ri
        obtain ⟨xs, h1, h2⟩ := s.obj _ _ _ ha q
        exact ⟨a, xs, kk, j, rfl, rfl, h1, by rw [h2.length]; exact qj, k _ (Ext.put s ha) (s.putL ha (RpVs.set rv j h2))⟩
      · cases e
    · cases e
  · cases e
theorem ds_sub {o i e : Expr} {p' : Pos} {mo mi m : EM} (h : DE X G W e m) (ho : DE X G W o mo) (hi : DE X G W i mi) (hn : notComp e = true) (hw : swappedStores [.Subscript o i p'] e X.env = pure none)
    (ha : ∀ v, assign (.Subscript o i p') X.env v = (do
      let ov ← holding [v] (eval o X.env)
      let iv ← holding [v, ov] (eval i X.env)
      standAt p'
      holding [v, ov, iv] (setItem ov iv v)
      release [v, ov, iv] [])) : DS X G W n0 (.Assign [.Subscript o i p'] e pos) (sSub mo mi m) :=
  PS.by (ps_asg h (pg_sub ho hi set_list ha) (by show swapsWith e (some (.Subscript o i p')) pos.line X.env = pure false; exact swaps_none hn _ _ _) hw (by rfl)) fun E σ H ⟨μ0, H0, μ, env, st, a, f⟩ => by
    refine ⟨μ, env, st, a.sim, a.env, (FinS.thn a f).mono fun x st1 μ1 H1 e1 s1 h1 v rv => ?_⟩
    have a1 := a.go e1 s1
    refine ⟨μ1, env, st1, s1, a1.env, (FinS.thn a1 h1).mono fun xo st2 μ2 H2 e2 s2 h2 ov ro => ?_⟩
    have a2 := a1.go e2 s2
    refine ⟨μ2, env, st2, s2, a2.env, (FinS.thn a2 h2).mono fun xi st3 μ3 H3 e3 s3 h3 iv ri => ?_⟩
    cases q : setSub xo xi x st3 with
    | none => rw [q] at h3; exact h3.elim
    | some st4 =>
      rw [q] at h3
      have a3 := a2.go e3 s3
      exact setSub_sem s3 (ro.ext e3) ri (rv.ext (e2.trans e3)) q fun H4 e4 s4 => h3 μ3 H4 σ e4 s4 (a3.env.ext e4)

/-! ### methods of lists -/
def isLstV : Val → Sto → Bool := fun x st => match x with
  | .p (.lst _) => true
  | .r l => (match st[l]? with
    | some (.lst _) => true
    | _ => false)
  | _ => false
theorem ty_list : TySem G "list" isLstV := fun μ H st v x s r e => by
  unfold isLstV at e
  split at e
  · cases r with
    | lst h1 h2 h3 => exact .inl ⟨rfl, _, .inl (.inl h1)⟩
  · split at e
    · rename_i l vs q
      obtain ⟨a, rfl, ha⟩ := r
      obtain ⟨xs, h1, h2⟩ := s.obj _ _ _ ha q
      exact .inl ⟨rfl, _, .inl (.inl h1)⟩
    · cases e
  · cases e
def fApp : Val → List Val → Sto → Option (Val × Sto) := fun x xs st => match x, xs with
  | .r l, [y] => (match st[l]? with
    | some (.lst vs) => if vs.length < sizeLine then some (.p .non, st.set l (.lst (vs ++ [y]))) else none
    | _ => none)
  | _, _ => none
theorem sem_app : MtSem G "list" rAppend fApp := by
  intro μ H st v x vs xs z st' Q s rv rvs e k
  unfold fApp at e
  split at e
  · rename_i l y
    split at e
    · rename_i ys q
      split at e
      · rename_i hz
        cases e
        obtain ⟨a, rfl, ha⟩ := rv
        obtain ⟨w, rfl, rw_⟩ := RpVs.one rvs
        obtain ⟨us, h1, h2⟩ := s.obj _ _ _ ha q
        exact ⟨a, us, w, rfl, rfl, h1, by rw [h2.length]; exact hz, k _ _ _ (Ext.put s ha) (s.putL ha (RpVs.append h2 (.cons rw_ .nil))) .non⟩
      · cases e
    · cases e
  · cases e
def fPop : Val → List Val → Sto → Option (Val × Sto) := fun x xs st => match x, xs with
  | .r l, [] => (match st[l]? with
    | some (.lst vs) => (match vs[vs.length - 1]? with
      | some y => some (y, st.set l (.lst vs.dropLast))
      | none => none)
    | _ => none)
  | _, _ => none
theorem sem_pop : MtSem G "list" rPop fPop := by
  intro μ H st v x vs xs z st' Q s rv rvs e k
  unfold fPop at e
  split at e
  · rename_i l
    split at e
    · rename_i ys q
      split at e
      · rename_i y qy
        cases e
        obtain ⟨a, rfl, ha⟩ := rv
        cases rvs
        obtain ⟨us, h1, h2⟩ := s.obj _ _ _ ha q
        obtain ⟨w, hw, rw_⟩ := h2.get qy
        exact ⟨a, us, w, rfl, rfl, h1, by rw [h2.length]; exact hw, k _ _ _ (Ext.put s ha) (s.putL ha (RpVs.dropLast h2)) (rw_.ext (Ext.put s ha))⟩
      · cases e
    · cases e
  · cases e
end
end Sl
end
section
set_option Elab.async false
set_option linter.all false
set_option maxRecDepth 100000
set_option maxHeartbeats 1000000
namespace Sl
open PySem PySem.Spec PyProof.Rows L2
/-! ### sorted -/
def alikeB (ds : List D) : Bool := ds.all fun d => ds.all fun e => PySem.W.alike (toPy d) (toPy e)
def isTup1 : D → Bool
  | .tup (_ :: _) => true
  | _ => false
def isFlat : D → Bool
  | .tup _ => false
  | .non => false
  | .dct _ _ => false
  | _ => true
def sortOk (ds : List D) : Bool := noDctL ds && alikeB ds && (ds.all isTup1 || ds.all isFlat) && decide (depL ds ≤ 60) && decide (ds.length ≤ sizeLine)
def sortD (ds : List D) : List D := ds.mergeSort (PySem.W.dataLe false toPy)
theorem toPyL_map : ∀ ds : List D, toPyL ds = ds.map toPy
  | [] => rfl
  | d :: ds => by rw [toPyL, toPyL_map ds]; rfl
theorem noDctL_all : ∀ {ds : List D}, noDctL ds = true → ∀ d ∈ ds, noDct d = true
  | [], _, d, h => by cases h
  | e :: ds, h, d, hd => by
    simp only [noDctL, Bool.and_eq_true] at h
    rcases List.mem_cons.mp hd with rfl | hd
    · exact h.1
    · exact noDctL_all h.2 d hd
theorem depL_all : ∀ {ds : List D} {n : Nat}, depL ds ≤ n → ∀ d ∈ ds, dep d ≤ n
  | [], _, _, d, h => by cases h
  | e :: ds, n, h, d, hd => by
    simp only [depL] at h
    rcases List.mem_cons.mp hd with rfl | hd
    · omega
    · exact depL_all (ds := ds) (by omega) d hd
section
variable {X : Cx} {G : Grd}
theorem each_of {K : Frag} {F : Addr → Prop} {H : Hp} : ∀ {xs : List V} {its : List Value} {ds : List D}, Vals xs its → RpL K F H xs ds → PySem.W.EachIs (fun u d => ∃ v, RelV v u ∧ Rp K F H v d) its ds
  | _, _, _, .nil, .nil => .nil
  | _, _, _, .cons r t, .cons r' t' => .cons ⟨_, r, r'⟩ (each_of t t')
theorem each_to {K : Frag} {F : Addr → Prop} {H : Hp} : ∀ {its : List Value} {ds : List D}, PySem.W.EachIs (fun u d => ∃ v, RelV v u ∧ Rp K F H v d) its ds → ∃ xs, Vals xs its ∧ RpL K F H xs ds
  | _, _, .nil => ⟨[], .nil, .nil⟩
  | _, _, .cons ⟨v, r, r'⟩ t => by
    obtain ⟨xs, h1, h2⟩ := each_to t
    exact ⟨v :: xs, .cons r h1, .cons r' h2⟩
theorem each_reads {pins : List (Addr × Obj)} {s : Shared} {σ : L2.St} {F : Addr → Prop} {H : Hp} (I : Inv X pins σ H s) : ∀ {its : List Value} {ds : List D}, noDctL ds = true → PySem.W.EachIs (fun u d => ∃ v, RelV v u ∧ Rp X.K F H v d) its ds → PySem.W.EachIs (fun v b => ∃ as, Reads s.heap v (toPy b) as) its ds
  | _, _, h, e => by
    induction e with
    | nil => exact .nil
    | @cons u d us ds hd t ih =>
      obtain ⟨v, r, r'⟩ := hd
      simp only [noDctL, Bool.and_eq_true] at h
      exact .cons (Dp.reads I _ v _ (Rp.dp d v h.1 r') r) (ih h.2)
def rSrt (K : Frag) : List V → Hp → VK → Prop := fun vs H Q => ∃ (F : Addr → Prop) (a : Addr) (xs : List V) (ds : List D), vs = [.ref a] ∧ SqL K H a xs ∧ RpL K F H xs ds ∧ sortOk ds = true ∧ ∀ ys p, RpL K F H ys (sortD ds) → ys.length = xs.length → H p = none → Q (.ref p) (upd H p (.lst ys))
theorem cr_srt (hu : X.A.units + 64 < cLine) : CallR X (.builtin "sorted") (rSrt X.K) := by
  intro pins s σ H vs us Q I r h
  obtain ⟨F, a, xs, ds, rfl, hs, hr, ok, q⟩ := h
  obtain ⟨its, rv, hl, hz⟩ := I.list hs
  rw [Vals.ref1 r]
  simp only [sortOk, Bool.and_eq_true, Bool.or_eq_true, decide_eq_true_eq] at ok
  obtain ⟨⟨⟨⟨o1, o2⟩, o3⟩, o4⟩, o5⟩ := ok
  have e1 := each_of rv hr
  refine PySem.W.sorted_data (bs := ds) (enc := toPy) (vs := its) hl.isList e1 (each_reads I o1 e1) (fun d hd d' hd' => ?_) ?_ o5 (fun b hb => ?_) fun out ol eo => ?_
  · obtain ⟨b, hb, rfl⟩ := List.mem_map.mp hd
    obtain ⟨b', hb', rfl⟩ := List.mem_map.mp hd'
    exact List.all_eq_true.mp (List.all_eq_true.mp o2 b hb) b' hb'
  · rcases o3 with o3 | o3
    · refine .inl fun d hd => ?_
      obtain ⟨b, hb, rfl⟩ := List.mem_map.mp hd
      have hb' := List.all_eq_true.mp o3 b hb
      unfold isTup1 at hb'
      split at hb'
      · exact ⟨_, _, rfl⟩
      · cases hb'
    · refine .inr fun d hd => ?_
      obtain ⟨b, hb, rfl⟩ := List.mem_map.mp hd
      have hb' := List.all_eq_true.mp o3 b hb
      cases b <;> simp_all [isFlat, toPy]
  · have := depL_all o4 b hb
    rw [dep_eq]
    omega
  · obtain ⟨ys, h1, h2⟩ := each_to eo
    obtain ⟨ep, he'⟩ := PyProof.Rows.sortedAll_at s.heap its out.toArray
    have hly : ys.length = xs.length := by rw [h2.length, List.length_mergeSort, hr.length]
    have hlen : ys.length ≤ sizeLine := by rw [hly, hr.length]; exact o5
    exact ⟨.ref _, upd H (s.heap.objs.size + 1) (.lst ys), I.laid (t' := s.toks) (fun _ _ => PyProof.Rows.sortedAll_old) (Nat.le_succ _) ⟨hlen, out, ep, h1, he'⟩, rfl, q ys _ h2 hly (I.hok.fresh (Nat.le_succ _))⟩
/-- the keys of a dict, all texts -/
def textKs : List DK → Option (List T)
  | [] => some []
  | .inr x :: ks => (match textKs ks with
    | some xs => some (x :: xs)
    | none => none)
  | _ => none
def sortT (xs : List T) : List T := xs.mergeSort fun x y => !tlt y x
def fSorted (md : Bool) : FL := fun xs st => match xs with
  | [x] => (match viewL st x with
    | some ys => (match pureL ys with
      | some ds => if sortOk ds = true then newLst md ((sortD ds).map .p) st else none
      | none => none)
    | none => (match viewK st x with
      | some (ks, _) => (match textKs ks with
        | some ts => if ts.length < 64 ∧ ts.all (fun t => decide (t.length ≤ tMax)) = true then newLst md ((sortT ts).map fun t => .p (.str t)) st else none
        | none => none)
      | none => none))
  | _ => none
def rSrtD : List V → Hp → VK → Prop := fun xs H Q => ∃ (a : Addr) (kvs : List (Key × V)) (ks : List Str), xs = [.ref a] ∧ Rd H a (.dK kvs) ∧ kvs.map (·.1) = ks.map Sum.inr ∧ ks.length < 64 ∧
    ∀ ys p, ys.Perm ks → sortedS ys = true → H p = none → Q (.ref p) (upd H p (.lst (ys.map V.str)))
def rSrtX (K : Frag) : List V → Hp → VK → Prop := fun vs H Q => rSrt K vs H Q ∨ rSrtD vs H Q
theorem cr_srtX (hc : X.calm = true) (hu : X.A.units + 64 < cLine) : CallR X (.builtin "sorted") (rSrtX X.K) := by
  intro pins s σ H vs us Q I r h
  rcases h with h | h
  · exact cr_srt hu pins s σ H vs us Q I r h
  · exact call_sortedD hc pins s σ H vs us Q I r h
theorem textKs_keys : ∀ {ks : List DK} {ts : List T}, textKs ks = some ts → ks.map toK = (ts.map toS).map Sum.inr
  | [], ts, h => by cases h; rfl
  | .inr x :: ks, ts, h => by
    simp only [textKs] at h
    split at h
    · rename_i xs q
      cases h
      simp [toK, textKs_keys q]
    · cases h
  | .inl i :: ks, ts, h => by simp [textKs] at h
theorem tlt_trans {a b c : T} (h1 : (!tlt b a) = true) (h2 : (!tlt c b) = true) : (!tlt c a) = true := by
  simp only [tlt, Bool.not_eq_true', decide_eq_false_iff_not, List.not_lt] at h1 h2 ⊢
  exact List.le_trans h1 h2
theorem tlt_total (a b : T) : (!tlt b a || !tlt a b) = true := by
  simp only [tlt, Bool.or_eq_true, Bool.not_eq_true', decide_eq_false_iff_not, List.not_lt]
  exact List.le_total _ _
theorem tlt_antisymm {a b : T} (h1 : (!tlt b a) = true) (h2 : (!tlt a b) = true) : a = b := by
  simp only [tlt, Bool.not_eq_true', decide_eq_false_iff_not, List.not_lt] at h1 h2
  exact map_char_inj (List.le_antisymm h1 h2)
theorem eq_of_sorted {α : Type} {le : α → α → Bool} (anti : ∀ a b, le a b = true → le b a = true → a = b) : ∀ {xs ys : List α}, xs.Perm ys → xs.Pairwise (fun a b => le a b = true) → ys.Pairwise (fun a b => le a b = true) → xs = ys
  | [], ys, p, _, _ => by rw [List.Perm.nil_eq p]
  | x :: xs, [], p, _, _ => absurd p.length_eq (by simp)
  | x :: xs, y :: ys, p, h1, h2 => by
    have h1' := List.pairwise_cons.mp h1
    have h2' := List.pairwise_cons.mp h2
    have e : x = y := by
      rcases List.mem_cons.mp (p.mem_iff.mp (List.mem_cons_self ..)) with e | hx
      · exact e
      · rcases List.mem_cons.mp (p.mem_iff.mpr (List.mem_cons_self ..)) with e | hy
        · exact e.symm
        · exact anti _ _ (h1'.1 y hy) (h2'.1 x hx)
    subst e
    rw [eq_of_sorted anti (List.perm_cons x |>.mp p) h1'.2 h2'.2]
def fromS (s : Str) : T := s.cps.toList.map Char.ofNat
theorem fromS_toS (x : T) : fromS (toS x) = x := by
  simp only [fromS, toS, List.map_map]
  exact (List.map_congr_left fun c _ => by simp [Char.ofNat_toNat]).trans (List.map_id _)
theorem rising_pw : ∀ {l : List Str} {p : Str}, risingS p l = true → ∀ y ∈ l, ltCps y.cps.toList p.cps.toList = false
  | [], _, _, y, hy => by cases hy
  | x :: l, p, h, y, hy => by
    simp only [risingS, Bool.and_eq_true, Bool.not_eq_true'] at h
    rcases List.mem_cons.mp hy with rfl | hy
    · exact h.1
    · have h2 := rising_pw h.2 y hy
      have h1 := h.1
      rw [ltCps_eq, decide_eq_false_iff_not, List.not_lt] at h1 h2 ⊢
      exact List.le_trans h1 h2
theorem rising_pairs : ∀ {l : List Str} {p : Str}, risingS p l = true → l.Pairwise (fun a b => ltCps b.cps.toList a.cps.toList = false)
  | [], _, _ => .nil
  | x :: l, p, h => by
    simp only [risingS, Bool.and_eq_true] at h
    exact .cons (rising_pw h.2) (rising_pairs h.2)
theorem sortedS_pairs {l : List Str} (h : sortedS l = true) : l.Pairwise (fun a b => ltCps b.cps.toList a.cps.toList = false) := by
  cases l with
  | nil => exact .nil
  | cons x l => exact .cons (rising_pw h) (rising_pairs h)
theorem sortT_of {ts : List T} {ys : List Str} (p : ys.Perm (ts.map toS)) (h : sortedS ys = true) : ys = (sortT ts).map toS := by
  have e1 : ys = (ys.map fromS).map toS := by
    rw [List.map_map]
    refine ((List.map_congr_left fun y hy => ?_).trans (List.map_id _)).symm
    obtain ⟨t, _, rfl⟩ := List.mem_map.mp (p.mem_iff.mp hy)
    simp only [Function.comp, fromS_toS, id]
  have p2 : (ys.map fromS).Perm ts := by
    have := p.map fromS
    rw [List.map_map] at this
    have e2 : ts.map (fromS ∘ toS) = ts := (List.map_congr_left fun t _ => by simp only [Function.comp, fromS_toS, id]).trans (List.map_id _)
    rwa [e2] at this
  have q : (ys.map fromS).Pairwise (fun a b => (!tlt b a) = true) := by
    have := sortedS_pairs h
    rw [e1] at this
    rw [List.pairwise_map] at this
    refine this.imp fun {a b} hab => ?_
    rw [ltCps_eq, cps_toS, cps_toS] at hab
    simp only [tlt, hab, Bool.not_false]
  have hs : sortT ts = ys.map fromS := by
    refine eq_of_sorted (le := fun a b => !tlt b a) (fun a b h1 h2 => tlt_antisymm h1 h2) ((List.mergeSort_perm ts _).trans p2.symm) ?_ q
    exact List.pairwise_mergeSort (le := fun a b => !tlt b a) (fun a b c h1 h2 => tlt_trans h1 h2) (fun a b => tlt_total a b) ts
  rw [hs]
  exact e1
theorem sem_sorted {md : Bool} : CallSem G (rSrtX G.K) (fSorted md) := by
  intro μ H st vs xs z st' Q s rvs e k
  unfold fSorted at e
  split at e
  · rename_i x
    obtain ⟨v, rfl, rv⟩ := RpVs.one rvs
    split at e
    · rename_i ys qv
      split at e
      · rename_i ds qd
        split at e
        · rename_i ok
          obtain ⟨a, us, rfl, hs, hr⟩ := viewL_sem s rv qv
          have hr' := RpVs.pure hr qd
          refine .inl ⟨Fz G.hid μ, a, us, ds, rfl, hs, hr', ok, fun zs p rz lz hp => ?_⟩
          exact (newLst_sem s (RpL.vals rz) e k).2 p hp
        · cases e
      · cases e
    · split at e
      · rename_i ks ys qk
        split at e
        · rename_i ts qt
          split at e
          · rename_i ok
            obtain ⟨a, kvs, rfl, hd, hk, hr⟩ := viewK_sem s rv qk
            refine .inr ⟨a, kvs, ts.map toS, rfl, hd, by rw [hk, textKs_keys qt], by simpa using ok.1, fun ws p pm hs hp => ?_⟩
            rw [sortT_of pm hs, List.map_map]
            refine (newLst_sem s ?_ e k).2 p hp
            have hok := List.all_eq_true.mp ok.2
            have hmem : ∀ t ∈ sortT ts, t.length ≤ tMax := fun t ht => by simpa using hok t ((List.mergeSort_perm ts _).mem_iff.mp ht)
            generalize sortT ts = us at hmem
            induction us with
            | nil => exact .nil
            | cons u us ih => exact .cons (Rp.str u (hmem u (List.mem_cons_self ..))) (ih fun t ht => hmem t (List.mem_cons_of_mem _ ht))
          · cases e
        · cases e
      · cases e
  · cases e
end
end Sl
end
section
set_option Elab.async false
set_option linter.all false
set_option maxRecDepth 100000
set_option maxHeartbeats 1000000
namespace Sl
open PySem PySem.Spec PyProof.Rows L2
/-! ### dicts -/
/-- in its place, or at the end -/
def dput {α : Type} (k : DK) (v : α) (ks : List DK) (vs : List α) : List DK × List α :=
  if (ks.any fun k' => decide (k' = k)) = true then (ks, List.zipWith (fun k' x => if k' = k then v else x) ks vs) else (ks ++ [k], vs ++ [v])
def newDct (md : Bool) (ks : List DK) (vs : List Val) (st : Sto) : Option (Val × Sto) := match md with
  | true => some (.r st.length, st ++ [.dct ks vs])
  | false => match pureL vs with
    | some ds => some (.p (.dct ks ds), st)
    | none => none
section
variable {X : Cx} {G : Grd} {W : WX} {K : Frag} {hid : List Addr} {μ μ' : List Addr} {H H' : Hp} {st : Sto} {pos : Pos}
theorem any_key {kvs : List (Key × V)} : ∀ {ks : List DK} {k : DK}, kvs.map Prod.fst = ks.map toK → (kvs.any fun kv => decide (kv.1 = toK k)) = ks.any fun k' => decide (k' = k) := by
  induction kvs with
  | nil => intro ks k h; cases ks with | nil => rfl | cons a b => cases h
  | cons p kvs ih =>
    intro ks k h
    cases ks with
    | nil => cases h
    | cons a ks =>
      simp only [List.map_cons, List.cons.injEq] at h
      simp only [List.any_cons]
      rw [ih h.2, h.1]
      congr 1
      by_cases e : a = k
      · subst e; simp
      · rw [decide_eq_false e, decide_eq_false (fun z => e (toK_inj z))]
theorem put_rp {v : V} {x : Val} (rv : RpV K hid [] μ H v x) {k : DK} : ∀ {kvs : List (Key × V)} {ks : List DK} {vs : List Val}, kvs.map Prod.fst = ks.map toK → RpVs K hid μ H (kvs.map Prod.snd) vs →
    (putK kvs (toK k) v).map Prod.fst = (dput k x ks vs).1.map toK ∧ RpVs K hid μ H ((putK kvs (toK k) v).map Prod.snd) (dput k x ks vs).2 := by
  intro kvs ks vs h r
  unfold putK dput
  rw [any_key h]
  by_cases c : (ks.any fun k' => decide (k' = k)) = true
  · rw [if_pos c, if_pos c]
    clear c
    dsimp only
    refine ⟨?_, ?_⟩
    · rw [← h, List.map_map]
      exact List.map_congr_left fun kv _ => by simp only [Function.comp]; split <;> rfl
    · rw [List.map_map]
      induction kvs generalizing ks vs with
      | nil => cases ks with | nil => exact .nil | cons a b => cases h
      | cons p kvs ih =>
        cases ks with
        | nil => cases h
        | cons a ks =>
          simp only [List.map_cons, List.cons.injEq] at h
          cases r with
          | cons r1 r2 =>
            refine .cons ?_ (ih h.2 r2)
            simp only [Function.comp]
            by_cases e : a = k
            · subst e
              rw [if_pos h.1, if_pos rfl]; exact rv
            · rw [if_neg (fun z => e (toK_inj (h.1.symm.trans z))), if_neg e]; exact r1
  · rw [if_neg c, if_neg c]
    dsimp only
    refine ⟨by simp [h], ?_⟩
    rw [List.map_append]
    exact RpVs.append r (.cons rv .nil)
theorem dput_len {α : Type} {k : DK} {v : α} {ks : List DK} {vs : List α} : (dput k v ks vs).1.length ≤ ks.length + 1 := by
  unfold dput
  split
  · simp
  · simp
/-- a hidden dict is changed -/
theorem carry_hidD {D : Addr} {vs ws : List (Key × V)} (h : H D = some (.dK vs)) (hm : D ∈ hid) : Carry (Fz hid μ) (Fz hid μ) H (L2.upd H D (.dK ws)) := by
  have nt : ∀ {b : Addr} {xs : List V}, Rd H b (.tup xs) → b ≠ D := fun q z => by
    subst z
    rcases q with q | ⟨o, q⟩ <;> (rw [h] at q; cases q)
  refine ⟨fun b xs q => ?_, fun b xs hb q => ⟨?_, hb⟩, fun b xs hb q => ⟨?_, hb⟩⟩
  · have nb := nt q
    unfold Rd at q ⊢
    rw [upd_ne nb]; exact q
  · rw [upd_ne fun z => hb.2 (by rw [z]; exact hm)]; exact q
  · have nb : b ≠ D := fun z => hb.2 (by rw [z]; exact hm)
    unfold Rd at q ⊢
    rw [upd_ne nb]; exact q
theorem Sim.hidSetD {D : Addr} {vs ws : List (Key × V)} (s : Sim G μ H st) (h : H D = some (.dK vs)) (hm : D ∈ G.hid) (hn : D ∉ μ) : Sim G μ (L2.upd H D (.dK ws)) st where
  len := s.len
  nd := s.nd
  hid := fun a ha => by
    by_cases z : a = D
    · rw [z, upd_same]; exact fun z => nomatch z
    · rw [upd_ne z]; exact s.hid a ha
  dis := s.dis
  obj := fun l a o h1 h2 => ObjRp.map (upd_ne fun z => hn (z ▸ List.mem_of_getElem? h1)) (fun r => RpVs.by (carry_hidD h hm) r) (s.obj l a o h1 h2)

/-! ### dict comprehensions -/
def dcGo (src : Option Nat) (all : List Val) (gm : GM) (mt : TM) (mk me : EM) (env : Slots) : List Val → List DK → List Val → Sto → R (List DK × List Val)
  | [], ks, vs, st => if watch st src all = true then .ok (ks, vs) st else .fail
  | x :: rest, ks, vs, st => if watch st src all = true then match gm x env with
    | none => .fail
    | some env1 => (mt env1 st).bind fun b st1 => match b with
      | true => (mk env1 st1).bind fun y st2 => (me env1 st2).bind fun z st3 => match keyOf y with
        | some k => if ks.length < sizeLine then dcGo src all gm mt mk me env rest (dput k z ks vs).1 (dput k z ks vs).2 st3 else .fail
        | none => .fail
      | false => dcGo src all gm mt mk me env rest ks vs st1
    else .fail
def mDComp (md : Bool) (own : List Nat) (mi : IM) (gm : GM) (mt : TM) (mk me : EM) : EM := fun env st => (mi env st).bind fun p st1 =>
  (dcGo p.2 p.1 gm mt mk me (wipeE env own) p.1 [] [] st1).noExc.bind fun q st2 => R.lift (newDct md q.1 q.2 st2)
theorem rd_dc {mi : IM} {gs ow : List Nat} {gm : GM} {mt : TM} {mk me : EM} {md : Bool} (hgs : ∀ j ∈ gs, j ∈ ow) : ∀ σ H Q, RdE G W (mDComp md ow mi gm mt mk me) σ H Q →
    tDc (RdI G W mi) (fun v σ H Q => ∃ h, RdG (G.h h) gs gm v σ H Q) (fun σ H Q => ∃ h, RdT (G.h h) WF mt σ H Q) (fun σ H Q => ∃ h, RdE (G.h h) WF mk σ H Q) (fun σ H Q => ∃ h, RdE (G.h h) WF me σ H Q) ow σ H Q := by
  rintro σ H Q ⟨μ, env, st, s, en, f⟩
  refine ⟨μ, env, st, s, en, f.bind.mono fun p st1 μ1 H1 e1 s1 h1 J hJ D hD => ?_⟩
  obtain ⟨all, src⟩ := p
  dsimp only at h1 hJ
  cases r : dcGo src all gm mt mk me (wipeE env ow) all [] [] st1 with
  | fail => rw [r] at h1; exact h1.elim
  | exc c fs st2 => rw [r] at h1; exact h1.elim
  | ok qq stN =>
    obtain ⟨ksN, vsN⟩ := qq
    rw [r] at h1
    have h1 : Fin G W σ μ1 H1 (R.lift (newDct md ksN vsN stN)) (PV G Q) := h1
    cases q : newDct md ksN vsN stN with
    | none => rw [q] at h1; exact h1.elim
    | some zs =>
      obtain ⟨z, st'⟩ := zs
      rw [q] at h1
      have h1 : Fin G W σ μ1 H1 (.ok z st') (PV G Q) := h1
      have hh : ∀ a ∈ D :: G.hid, a ∈ G.hid ∨ H1 a = none := fun a ha => by
        rcases List.mem_cons.mp ha with rfl | ha
        · exact .inr hD
        · exact .inl ha
      have hDμ : D ∉ μ1 := fun hm => by
        obtain ⟨l, hl, el⟩ := List.getElem_of_mem hm
        exact s1.at_some (l := l) (a := D) (by simp [hl, el]) hD
      refine ⟨fun i m H => m = all.length - i ∧ i ≤ all.length ∧ ∃ μi sti ks ys kvs, Ext μ1 H1 μi H ∧ Sim (G.h (D :: G.hid)) μi H sti ∧ H D = some (.dK kvs) ∧ kvs.map Prod.fst = ks.map toK ∧ RpVs G.K (D :: G.hid) μi H (kvs.map Prod.snd) ys ∧ D ∉ μi ∧
        dcGo src all gm mt mk me (wipeE env ow) (all.drop i) ks ys sti = .ok (ksN, vsN) stN, ⟨all.length, by simp, Nat.zero_le _, μ1, st1, [], [], [], Ext.new hD, s1.hide hD, upd_same, rfl, .nil, hDμ, by rw [List.drop_zero]; exact r⟩, ?_⟩
      rintro i m H2 ⟨rfl, hi2, μi, sti, ks, ys, kvs, ei, si, hHD, hks, rvs, hDi, hgo⟩
      by_cases hlt : i < all.length
      · refine .inr ?_
        obtain ⟨x, hx⟩ : ∃ x, all[i]? = some x := ⟨all[i], by simp [hlt]⟩
        have hdrop : all.drop i = x :: all.drop (i + 1) := by
          rw [List.drop_eq_getElem_cons hlt]
          congr 1
          rw [List.getElem?_eq_getElem hlt] at hx
          exact Option.some.inj hx
        rw [hdrop] at hgo
        unfold dcGo at hgo
        split at hgo
        · rename_i hw
          cases qg : gm x (wipeE env ow) with
          | none => rw [qg] at hgo; cases hgo
          | some env1 =>
            rw [qg] at hgo
            dsimp only at hgo
            cases qt : mt env1 sti with
            | fail => rw [qt] at hgo; cases hgo
            | exc c fs st2 => rw [qt] at hgo; cases hgo
            | ok b st2 =>
              rw [qt] at hgo
              dsimp only [R.bind] at hgo
              refine ⟨hJ.go _ hh μi H2 sti i ei si hw hlt, fun H' => all.length - (i + 1) = all.length - (i + 1) ∧ i + 1 ≤ all.length ∧ ∃ μi sti ks ys kvs, Ext μ1 H1 μi H' ∧ Sim (G.h (D :: G.hid)) μi H' sti ∧ H' D = some (.dK kvs) ∧ kvs.map Prod.fst = ks.map toK ∧ RpVs G.K (D :: G.hid) μi H' (kvs.map Prod.snd) ys ∧ D ∉ μi ∧
                dcGo src all gm mt mk me (wipeE env ow) (all.drop (i + 1)) ks ys sti = .ok (ksN, vsN) stN, fun H' q => ⟨_, by omega, q⟩, fun v H' y => ?_⟩
              obtain ⟨e2, s2, rv⟩ := hJ.yld _ hh μi H2 sti i v H' ei si hw hlt y
              have rx := rv x hx
              have en' : EnvRp (G.h (D :: G.hid)) μi H' (wipeE env ow) (wipe σ ow) := wipe_env (EnvRp.extH (h := G.hid) (ei.trans e2) hh (en.ext e1)) ow
              refine ⟨D :: G.hid, μi, wipeE env ow, sti, x, env1, s2, en', rx, qg, fun σ2 en2 hl2 hj2 => ⟨?_, ?_⟩⟩
              · rw [wipe_same (vs := ow) hl2 fun j hj => hj2 j fun z => hj (hgs j z), wipe_wipe]
              · refine ⟨D :: G.hid, μi, env1, sti, s2, en2, ?_⟩
                rw [qt]
                intro μ3 H3 e3 s3
                have e23 := e2.trans e3
                have rdD : Rd H2 D (.dK kvs) := .inl hHD
                cases b with
                | true =>
                  dsimp only at hgo
                  cases qk : mk env1 st2 with
                  | fail => rw [qk] at hgo; cases hgo
                  | exc c fs st3 => rw [qk] at hgo; cases hgo
                  | ok y1 st3 =>
                    rw [qk] at hgo
                    dsimp only at hgo
                    cases qe : me env1 st3 with
                    | fail => rw [qe] at hgo; cases hgo
                    | exc c fs st4 => rw [qe] at hgo; cases hgo
                    | ok z1 st4 =>
                      rw [qe] at hgo
                      dsimp only at hgo
                      cases qq : keyOf y1 with
                      | none => rw [qq] at hgo; cases hgo
                      | some kk =>
                        rw [qq] at hgo
                        dsimp only at hgo
                        split at hgo
                        · rename_i hsz
                          refine iteT ⟨D :: G.hid, μ3, env1, st2, s3, en2.ext e3, ?_⟩
                          rw [qk]
                          intro μ4 H4 e4 s4 v4 rv4
                          refine ⟨D :: G.hid, μ4, env1, st3, s4, (en2.ext e3).ext e4, ?_⟩
                          rw [qe]
                          intro μ5 H5 e5 s5 v5 rv5
                          have e25 := (e23.trans e4).trans e5
                          have hH5 : H5 D = some (.dK kvs) := (e25.dcx D kvs hDi rdD).trans hHD
                          have hD5 : D ∉ μ5 := e25.stay hDi rdD
                          have hp := put_rp (K := G.K) (hid := D :: G.hid) (μ := μ5) (H := H5) rv5 (k := kk) hks (rvs.ext e25)
                          refine ⟨kvs, toK kk, keyOf_sem (G := G.h (D :: G.hid)) (rv4.ext e5) qq, hH5, ?_, rfl, hlt, μ5, st4, _, _, _, (ei.trans e25).later hD, s5.hidSetD hH5 (List.mem_cons_self ..) hD5, upd_same, hp.1, ?_, hD5, hgo⟩
                          · have l1 := congrArg List.length hks
                            simp only [List.length_map] at l1
                            omega
                          · exact RpVs.by (carry_hidD hH5 (List.mem_cons_self ..)) hp.2
                        · cases hgo
                | false =>
                  dsimp only at hgo
                  have hH3 : H3 D = some (.dK kvs) := (e23.dcx D kvs hDi rdD).trans hHD
                  exact iteF ⟨rfl, hlt, μ3, st2, ks, ys, kvs, ei.trans e23, s3, hH3, hks, rvs.ext e23, e23.stay hDi rdD, hgo⟩
        · cases hgo
      · have ei2 : i = all.length := by omega
        subst ei2
        rw [List.drop_length] at hgo
        unfold dcGo at hgo
        split at hgo
        · rename_i hw
          cases hgo
          refine .inl ⟨hJ.stop _ hh μi H2 stN ei si hw, ?_⟩
          have hnh : D ∉ G.hid := fun z => s1.hid D z hD
          unfold newDct at q
          cases md with
          | true =>
            cases q
            have e3 : Ext μ1 H1 (μi ++ [D]) H2 := { ei with
              pre := ei.pre.trans ⟨[D], rfl⟩
              fresh := fun a ha hn => by
                rcases List.mem_append.mp ha with ha | ha
                · exact ei.fresh a ha hn
                · rw [List.mem_singleton.mp ha]; exact hD }
            refine h1 (μi ++ [D]) H2 e3 (si.unhideS hDi hnh ⟨kvs, hHD, hks, RpVs.over (fun a h => ⟨fun z => ?_, fun z => h.2 (List.mem_cons_of_mem _ z)⟩) ⟨[D], rfl⟩ rvs⟩) _ ⟨D, rfl, ?_⟩
            · rcases List.mem_append.mp z with z | z
              · exact h.1 z
              · exact h.2 (by rw [List.mem_singleton.mp z]; exact List.mem_cons_self ..)
            · have := si.len
              rw [← this]
              simp
          | false =>
            dsimp only at q
            split at q
            · rename_i ds qd
              cases q
              exact h1 μi H2 ei si.unhide _ (.dct (.inl hHD) ⟨hDi, hnh⟩ hks (RpL.carry ⟨fun _ _ z => z, fun a _ z w => ⟨w, z.1, fun y => z.2 (List.mem_cons_of_mem _ y)⟩, fun a _ z w => ⟨w, z.1, fun y => z.2 (List.mem_cons_of_mem _ y)⟩⟩ _ _ (RpVs.pure (hid := D :: G.hid) rvs qd)))
            · cases q
        · cases hgo
theorem de_dc {kx vx tg iter : Expr} {ifs : List Expr} {scope : Scope} {own : List (Str × Nat)} {mi : IM} {gs : List Nat} {gm : GM} {mt : TM} {mk me : EM} {md : Bool} (hc : X.calm = true) (hN : X.N.Nodup) (hi : DI X G W tg iter mi) (ok : BlkOk X.N X.env.scope scope own)
    (hg : ∀ (h : List Addr) (s : Shared) (H : Hp) (C : Addr) (cl : List (Str × Addr)) (fp : List Addr), PG (X.blk s H scope (compEnvC scope cl C X.env) fp) tg (RdG (G.h h) gs gm))
    (ht : ∀ (h : List Addr) (s : Shared) (H : Hp) (C : Addr) (cl : List (Str × Addr)) (fp : List Addr), PTs (X.blk s H scope (compEnvC scope cl C X.env) fp) ifs (RdT (G.h h) WF mt))
    (hk : ∀ (h : List Addr) (s : Shared) (H : Hp) (C : Addr) (cl : List (Str × Addr)) (fp : List Addr), PE (X.blk s H scope (compEnvC scope cl C X.env) fp) kx (RdE (G.h h) WF mk))
    (he : ∀ (h : List Addr) (s : Shared) (H : Hp) (C : Addr) (cl : List (Str × Addr)) (fp : List Addr), PE (X.blk s H scope (compEnvC scope cl C X.env) fp) vx (RdE (G.h h) WF me))
    (hgs : ∀ j ∈ gs, j ∈ own.map (·.2)) (hs : ∀ x, foldedSetIterable iter X.env x = pure x) :
    DE X G W (.DictComp kx vx [⟨tg, iter, ifs, 0⟩] scope pos) (mDComp md (own.map (·.2)) mi gm mt mk me) :=
  PE.by (pe_dc (g := fun v σ H Q => ∃ h, RdG (G.h h) gs gm v σ H Q) (tt := fun σ H Q => ∃ h, RdT (G.h h) WF mt σ H Q) (tk := fun σ H Q => ∃ h, RdE (G.h h) WF mk σ H Q) (tv := fun σ H Q => ∃ h, RdE (G.h h) WF me σ H Q) hc hN hi ok
    (fun s H C cl fp => PG.ex fun h => hg h s H C cl fp) (fun s H C cl fp => PTs.ex fun h => ht h s H C cl fp) (fun s H C cl fp => PE.ex fun h => hk h s H C cl fp) (fun s H C cl fp => PE.ex fun h => he h s H C cl fp) hs) (rd_dc hgs)

/-! ### in a dict -/
def hasK (k : DK) (ks : List DK) : Bool := ks.any fun k' => decide (k' = k)
def fInD (neg : Bool) : F2 := fun x y st => match viewK st y with
  | some (ks, _) => (match keyOf x with
    | some k => some (.p (.bl (if neg then !hasK k ks else hasK k ks)), st)
    | none => none)
  | none => none
def fInX (neg : Bool) : F2 := fun x y st => match fInD neg x y st with
  | some p => some p
  | none => fIn neg x y st
def rInD (neg : Bool) : R2 := fun x y H Q => ∃ a o, y = .ref a ∧ DGet H a x o ∧ Q (.bl (if neg then !o.isSome else o.isSome)) H
theorem opr_inD (hu : X.A.units + 65 < cLine) : OpR X (compareOp .In) (rInD false) := by
  intro pins s σ H x y v u Q I rx ry h
  obtain ⟨a, o, rfl, g, q⟩ := h
  cases ry
  exact d_in (by omega) I g rx fun s' I' => ⟨.bl o.isSome, H, I', rfl, q⟩
theorem opr_notinD (hu : X.A.units + 65 < cLine) : OpR X (compareOp .NotIn) (rInD true) := by
  intro pins s σ H x y v u Q I rx ry h
  obtain ⟨a, o, rfl, g, q⟩ := h
  cases ry
  exact d_notIn (by omega) I g rx fun s' I' => ⟨.bl (!o.isSome), H, I', rfl, q⟩
theorem sem_inD {neg : Bool} : OpSem G (rInD neg) (fInD neg) := by
  intro μ H st v w x y z st' Q s rv rw_ e k
  unfold fInD at e
  split at e
  · rename_i ks ys qv
    split at e
    · rename_i kk qk
      cases e
      obtain ⟨a, kvs, rfl, h1, h2, h3⟩ := viewK_sem s rw_ qv
      refine ⟨a, valV kvs (toK kk), rfl, .inl ⟨kvs, toK kk, h1, keyOf_sem rv qk, rfl⟩, ?_⟩
      rw [← valV_any, any_key h2]
      exact k μ H _ Ext.refl s (.bl _)
    · cases e
  · cases e
def rInXX (K : Frag) (neg : Bool) : R2 := fun x y H Q => rInD neg x y H Q ∨ rInX K neg x y H Q
theorem opr_inX (hu : X.A.units + 65 < cLine) : OpR X (compareOp .In) (rInXX X.K false) := OpR.or (opr_inD hu) (opr_in hu)
theorem opr_notinX (hu : X.A.units + 65 < cLine) : OpR X (compareOp .NotIn) (rInXX X.K true) := OpR.or (opr_notinD hu) (opr_notin hu)
theorem sem_inX {neg : Bool} : OpSem G (rInXX G.K neg) (fInX neg) := OpSem.or sem_inD sem_in

/-! ### dict(..) of a list of pairs -/
def pairsOf : List D → Option (List (DK × D))
  | [] => some []
  | .tup [x, y] :: ds => (match keyOf (.p x), pairsOf ds with
    | some k, some ps => some ((k, y) :: ps)
    | _, _ => none)
  | _ => none
def mergeD : List (DK × D) → List DK → List Val → List DK × List Val
  | [], ks, vs => (ks, vs)
  | (k, d) :: ps, ks, vs => mergeD ps (dput k (.p d) ks vs).1 (dput k (.p d) ks vs).2
def fDict (md : Bool) : FL := fun xs st => match xs with
  | [x] => (match viewL st x with
    | some ys => (match pureL ys with
      | some ds => (match pairsOf ds with
        | some ps => newDct md (mergeD ps [] []).1 (mergeD ps [] []).2 st
        | none => none)
      | none => none)
    | none => none)
  | _ => none
theorem pairs_rp {F : Addr → Prop} : ∀ {vs : List V} {ds : List D} {ps : List (DK × D)}, RpL K F H vs ds → pairsOf ds = some ps →
    ∃ as kvs, vs = as.map V.ref ∧ Paired (fun p kv => SqT K H p [kV kv.1, kv.2]) as kvs ∧ Paired (fun (kv : Key × V) (p : DK × D) => kv.1 = toK p.1 ∧ Rp K F H kv.2 p.2) kvs ps
  | _, [], _, .nil, e => by cases e; exact ⟨[], [], rfl, .nil, .nil⟩
  | _, d :: ds, ps, .cons r t, e => by
    unfold pairsOf at e
    split at e
    · rename_i heq; cases heq
    · rename_i x y ds' heq
      obtain ⟨rfl, rfl⟩ := List.cons.inj heq
      split at e
      · rename_i k ps' qk qp
        cases e
        obtain ⟨as, kvs, e1, e2, e3⟩ := pairs_rp t qp
        cases r with
        | tup h1 h2 =>
          cases h2 with
          | cons r1 r2 =>
            cases r2 with
            | cons r3 r4 =>
              cases r4
              rename_i a v1 v2
              have hv : v1 = kV (toK k) := by
                unfold keyOf at qk
                split at qk
                · rename_i i heq2; cases heq2; cases qk; cases r1; rfl
                · rename_i t heq2; cases heq2; cases qk; cases r1; rfl
                · cases qk
              subst hv
              exact ⟨a :: as, (toK k, v2) :: kvs, by rw [e1]; rfl, .cons h1 e2, .cons ⟨rfl, r3⟩ e3⟩
      · cases e
    · cases e
theorem merge_rp : ∀ {ps : List (DK × D)} {more kvs : List (Key × V)} {ks : List DK} {vs : List Val}, Paired (fun (kv : Key × V) (p : DK × D) => kv.1 = toK p.1 ∧ Rp K (Fz hid μ) H kv.2 p.2) more ps → kvs.map Prod.fst = ks.map toK → RpVs K hid μ H (kvs.map Prod.snd) vs →
    (mergeK kvs more).map Prod.fst = (mergeD ps ks vs).1.map toK ∧ RpVs K hid μ H ((mergeK kvs more).map Prod.snd) (mergeD ps ks vs).2
  | [], _, kvs, ks, vs, .nil, h, r => ⟨h, r⟩
  | (k, d) :: ps, (k', v) :: more, kvs, ks, vs, .cons ⟨e, r1⟩ t, h, r => by
    have e : k' = toK k := e
    subst e
    have hp := put_rp (K := K) (hid := hid) (μ := μ) (H := H) (v := v) (x := .p d) r1 (k := k) h r
    have ih := merge_rp (ps := ps) (more := more) t hp.1 hp.2
    exact ih
theorem newDct_sem {md : Bool} {kvs : List (Key × V)} {ks : List DK} {vs : List Val} {z : Val} {st' : Sto} {Q : VK} (s : Sim G μ H st) (hk : kvs.map Prod.fst = ks.map toK) (r : RpVs G.K G.hid μ H (kvs.map Prod.snd) vs) (e : newDct md ks vs st = some (z, st'))
    (k : ∀ μ' H' q, Ext μ H μ' H' → Sim G μ' H' st' → RpV G.K G.hid [] μ' H' q z → Q q H') : ∀ p, H p = none → Q (.ref p) (upd H p (.dK kvs)) := fun p hp => by
  unfold newDct at e
  cases md with
  | true =>
    cases e
    refine k _ _ _ (Ext.push hp) (s.push hp ⟨kvs, upd_same, hk, RpVs.ext (Ext.push hp) r⟩) ⟨p, rfl, ?_⟩
    have := s.len
    rw [← this]
    simp
  | false =>
    dsimp only at e
    split at e
    · rename_i ds qd
      cases e
      refine k _ _ _ (Ext.new hp) (s.new hp) (.dct (.inl upd_same) ⟨fun z => ?_, fun z => s.hid p z hp⟩ hk (RpVs.pure (RpVs.ext (Ext.new hp) r) qd))
      obtain ⟨l, hl, el⟩ := List.getElem_of_mem z
      exact s.at_some (l := l) (a := p) (by simp [hl, el]) hp
    · cases e
def rDictP (K : Frag) : List V → Hp → VK → Prop := fun xs H Q => ∃ (a : Addr) (ps : List Addr) (kvs : List (Key × V)), xs = [.ref a] ∧ SqL K H a (ps.map V.ref) ∧ Paired (fun p kv => SqT K H p [kV kv.1, kv.2]) ps kvs ∧
    ∀ p, H p = none → Q (.ref p) (upd H p (.dK (mergeK [] kvs)))
theorem cr_dictP (hc : X.calm = true) : CallR X (.type "dict") (rDictP X.K) := call_dictP hc
theorem sem_dictP {md : Bool} : CallSem G (rDictP G.K) (fDict md) := by
  intro μ H st vs xs z st' Q s rvs e k
  unfold fDict at e
  split at e
  · rename_i x
    obtain ⟨v, rfl, rv⟩ := RpVs.one rvs
    split at e
    · rename_i ys qv
      split at e
      · rename_i ds qd
        split at e
        · rename_i ps qp
          obtain ⟨a, us, rfl, hs, hr⟩ := viewL_sem s rv qv
          obtain ⟨as, kvs, rfl, h2, h3⟩ := pairs_rp (RpVs.pure hr qd) qp
          have hm := merge_rp (K := G.K) (hid := G.hid) (μ := μ) (H := H) (ks := []) (vs := []) h3 (kvs := []) rfl .nil
          exact ⟨a, as, kvs, rfl, hs, h2, newDct_sem s hm.1 hm.2 e k⟩
        · cases e
      · cases e
    · cases e
  · cases e
end
end Sl
end
section
set_option Elab.async false
set_option linter.all false
set_option maxRecDepth 100000
set_option maxHeartbeats 1000000
namespace Sl
open PySem PySem.Spec PyProof.Rows L2
/-! ### defs by name, the law's end -/
/-- the def that the global x stands for does as F says (k: levels of calls) -/
def Def (P : Program) (w : World) (K : Frag) (mg : Str → Option Value) (base : Heap) (cls : Str → Option Addr) (x : Str) (n k : Nat) (F : FS) : Prop :=
  ∃ f fd ps, mg x = some (.ref f) ∧ PySem.W.keepIn K (.ref f) = true ∧ Binds K fd ps [] ∧ ∀ (xs : List (Addr × Addr)) (hid : List Addr), FnOk P w K mg base (L2.CX P w) k f fd ps (spF ⟨K, cls, xs, hid⟩ n F)
theorem de_callD {X : Cx} {G : Grd} {W : WX} {cls : Str → Option Addr} {x : Str} {p pos : Pos} {k n : Nat} {F : FS} {e : Expr} {es : List Expr} {am : AM} (h : Def X.prog X.w X.K X.mg X.base cls x n k F) (hG : G.K = X.K) (hC : G.cls = cls) (hr : Room k X.A) (hg : Gl X x) (tk : Takes X W)
    (ha : DA X G W (e :: es) am) (hp : (e :: es).all notStar = true) (hdb : (x == ("__debug__" : Str)) = false) : DE X G W (.Call (.Name x p) (e :: es) [] pos) (mApp n F am) := by
  obtain ⟨f, fd, ps, h1, h2, h3, h4⟩ := h
  obtain ⟨K', cls', xs, hid⟩ := G
  cases hG
  cases hC
  exact de_call (h4 xs hid) hr hg h1 h2 h3 tk ha hp hdb
theorem def_ok {P : Program} {w : World} {K : Frag} {mg : Str → Option Value} {base : Heap} {cls : Str → Option Addr} {x qual : Str} {params : Arguments} {body : List Stmt} {scope : Scope} {kws : List (Str × V)} {f : Addr} {fd : FuncData} {N ps : List Str} {k n : Nat} {m : Nat → SM}
    (F : FunD K x qual params body scope [] kws f fd) (hm : mg x = some (.ref f)) (hb : ∀ (kV doc pm : Value) (an : Option Addr) (cdv ct : Value) (us : List Value), us.length = ps.length → bindArgs (PySem.W.fnOf x qual params body scope .none kV doc pm an cdv ct) ⟨us, []⟩ = pure (ps.zip us))
    (S : FnScope N ps scope) (hn : ps.length = n) (hN : N.length = nn)
    (h : ∀ (xs : List (Addr × Addr)) (hid : List Addr) (cdv : Value) (A : Around) (outer : List Env) (s : Shared) (H : Hp) (E : XK) (n0 : Nat), Room k (A.deeper (envOfC qual scope s.heap.objs.size f cdv)) →
      DSs ((FC.mk P w K mg base f cdv A outer s H E).X N qual scope) ⟨K, cls, xs, hid⟩ (FC.mk P w K mg base f cdv A outer s H E).W n0 body (m n0)) : Def P w K mg base cls x n (k + 1) (bodyF nn m) := by
  subst hn
  subst hN
  exact ⟨f, fd, ps, hm, F.kp, F.bindsN hb, fun xs hid => fn_ok F S (h xs hid)⟩
/-- nothing is promised -/
theorem def_fail {P : Program} {w : World} {K : Frag} {mg : Str → Option Value} {base : Heap} {cls : Str → Option Addr} {x qual : Str} {params : Arguments} {body : List Stmt} {scope : Scope} {kws : List (Str × V)} {f : Addr} {fd : FuncData} {ps : List Str} {k n : Nat}
    (F : FunD K x qual params body scope [] kws f fd) (hm : mg x = some (.ref f)) (hb : ∀ (kV doc pm : Value) (an : Option Addr) (cdv ct : Value) (us : List Value), us.length = ps.length → bindArgs (PySem.W.fnOf x qual params body scope .none kV doc pm an cdv ct) ⟨us, []⟩ = pure (ps.zip us)) : Def P w K mg base cls x n k (fun _ _ => .fail) :=
  ⟨f, fd, ps, hm, F.kp, F.bindsN hb, fun xs hid => ⟨fun vs H Q E ⟨_, _, _, _, _, _, z⟩ => z.elim, fun A outer s H args us vs Q E hr e0 hb r ⟨_, _, _, _, _, _, z⟩ => z.elim⟩⟩
/-- nothing of the written part is a list -/
def noLst (K : Frag) : Bool := K.all fun p => !decide (p.2.cls = .type "list")
theorem lookup_in {K : Frag} {a : Addr} {o : Obj} : K.lookup a = some o → ∃ b, (b, o) ∈ K := by
  induction K with
  | nil => intro h; cases h
  | cons q K ih =>
    intro h
    obtain ⟨b, u⟩ := q
    rw [List.lookup_cons] at h
    split at h
    · cases h
      exact ⟨b, List.mem_cons_self ..⟩
    · obtain ⟨b', hb⟩ := ih h
      exact ⟨b', List.mem_cons_of_mem _ hb⟩
theorem noLst_no {K : Frag} (h : noLst K = true) {a : Addr} {o : Obj} (e : K.lookup a = some o) (c : o.cls = .type "list") : False := by
  obtain ⟨b, hb⟩ := lookup_in e
  have := List.all_eq_true.mp h _ hb
  simp [c] at this
theorem walk_sl {l : PySem.W.OpenLaw} {n k : Nat} {q : Program} {loose : List Str} {XP : (Str → Option Value) → Heap → Prop} {YP : World → Heap → Prop} {d : DefRec} {x : Str} {Fs : FS} (hn : l.most = some n) (hn2 : n ≤ sizeLine) (hdf : d.params.defaults = []) (hr : Room k callerA)
    (hF : ∀ ns : List Int, ns.length ≤ n → (∀ z ∈ ns, z.natAbs.log2 < 1048577) → ∃ st, Fs [.r 0] [.scr ns] = .ok (.p (.bl true)) st)
    (F : ∀ (w : World) (mg : Str → Option Value) (fa : Addr) (h : Heap), YP w h → h.Ns mainGlobals mg → mg d.name = some (.ref fa) →
      ∃ (K : Frag) (fd : FuncData) (cls : Str → Option Addr), K.In h ∧ noLst K = true ∧ (∀ (s : Shared) (u : Value), BindsTo s fd ⟨[u], []⟩ [(x, u)]) ∧
        ∀ base : Heap, K.In base → base.Ns mainGlobals mg → FnOk l.prog w K mg base (L2.CX l.prog w) k fa fd [x] (spF ⟨K, cls, [], []⟩ 1 Fs)) : PySem.W.WalkO q loose XP YP l.row.toRowW d [] (fun f vs => PySem.call f vs) := by
  refine Att.attach_callB hn hdf fun w s₀ s₁ mg mb fa o pm cd doc a vs ns G Y ho hd hcd hmg hobj hints hlen hbits hg => ?_
  obtain ⟨K, fd, cls, KX, hl, hb, hF2⟩ := F w mg fa _ Y G.T.g hmg
  refine law_call KX G.T.g G.T.b G.T.builtins G.T.nolimit hg hobj hints (Nat.le_trans hlen hn2) hr hF2 hb (fun H hO hS => ?_) fun H e s' ⟨_, _, _, _, _, _, _, _, _, _, _, _, z⟩ => z.elim
  obtain ⟨st, est⟩ := hF ns hlen fun z hz => by
    have h1 := hbits z hz
    unfold Builtin.Int.intBits at h1
    split at h1 <;> simp_all <;> omega
  have ho : ∃ o, H a = some (.frz o (.lst (ns.map V.int))) := by
    rcases hS with (h1 | h1) | ⟨o, its, m, h1, h2, _⟩
    · rcases hO a with z | ⟨o, xs, z⟩
      · rw [h1] at z; cases z
      · rw [h1] at z; cases z
    · exact h1
    · exact (noLst_no hl h1 h2).elim
  refine ⟨[a], [.scr ns], [.r 0], ⟨rfl, by simp, fun l b u h1 h2 => ?_, fun _ h => (nomatch h), fun _ h => (nomatch h)⟩, .cons ⟨a, rfl, rfl⟩ .nil, rfl, ?_⟩
  · cases l with
    | zero => cases h1; cases h2; exact ho
    | succ l => cases h1
  · rw [est]
    intro μ' H' e s v rv
    cases rv
    rfl
end Sl
end
section
set_option Elab.async false
set_option linter.all false
set_option maxRecDepth 100000
set_option maxHeartbeats 1000000
namespace Sl
open PySem PySem.Spec PyProof.Rows L2
/-! ### the rules, their plain conditions as one Bool -/
def visB (sc : Scope) (x : Str) : Bool := match sc.names.lookup x with
  | some .local => true
  | some .cell => true
  | some .free => true
  | _ => false
def locB (sc : Scope) (x : Str) : Bool := match sc.names.lookup x with
  | some .local => true
  | some .cell => true
  | _ => false
def isLocB (sc : Scope) (x : Str) : Bool := match sc.names.lookup x with
  | some .local => true
  | _ => false
theorem visB_ok {sc : Scope} {x : Str} (h : visB sc x = true) : Vis sc x := by
  unfold visB at h
  unfold Vis
  split at h <;> simp_all
theorem locB_ok {sc : Scope} {x : Str} (h : locB sc x = true) : Loc sc x := by
  unfold locB at h
  unfold L2.Loc
  split at h <;> simp_all
theorem isLocB_ok {sc : Scope} {x : Str} (h : isLocB sc x = true) : sc.names.lookup x = some .local := by
  unfold isLocB at h
  split at h <;> simp_all
def plainName (x : Str) : Bool := !(x == ("__debug__" : Str)) && !(x == ("__classdict__" : Str)) && !decide (x = ("__name__" : Str))
def varB (N : List Str) (sc : Scope) (i : Nat) (x : Str) : Bool := decide (N[i]? = some x) && visB sc x && plainName x
def glB (env : Env) (x : Str) : Bool := (match env.kindOf x with
  | some .globalImplicit => true
  | _ => false) && plainName x
/-- the target of a loop, of a comprehension -/
def tgB (N : List Str) (sc : Scope) (fn : Bool) (i : Nat) (x : Str) : Bool := decide (N[i]? = some x) && locB sc x && (fn || isLocB sc x)
/-- what the global x stands for -/
def Gv (mg : Str → Option Value) (K : Frag) (x : Str) (d : D) : Prop := ∃ v u, mg x = some u ∧ RelV v u ∧ ∀ F H, Rp K F H v d
section
variable {X : Cx} {G : Grd} {W : WX} {pos p : Pos} {x : Str} {e : Expr} {es : List Expr} {am : AM} {k : Nat}
theorem glB_ok (h : glB X.env x = true) : Gl X x ∧ (x == ("__debug__" : Str)) = false ∧ x ≠ "__name__" := by
  unfold glB plainName at h
  simp only [Bool.and_eq_true, Bool.not_eq_true', decide_eq_false_iff_not] at h
  refine ⟨?_, h.2.1.1, h.2.2⟩
  have h1 := h.1
  unfold Gl
  split at h1
  · assumption
  · cases h1
theorem de_v (i : Nat) (h : varB X.N X.env.scope i x = true) : DE X G W (.Name x pos) (mVar i) := by
  unfold varB plainName at h
  simp only [Bool.and_eq_true, Bool.not_eq_true', decide_eq_true_eq] at h
  exact de_var h.1.1 (visB_ok h.1.2) h.2.1.1 h.2.1.2
theorem de_gv {d : D} (h : Gv X.mg X.K x d) (hG : G.K = X.K) (hb : glB X.env x = true) : DE X G W (.Name x pos) (mD d) := by
  obtain ⟨v, u, h1, h2, h3⟩ := h
  obtain ⟨b1, b2, b3⟩ := glB_ok hb
  exact de_glob b1 h1 h2 (by rw [hG]; exact h3) b2
theorem de_s {i : Str} {y : T} {j : Nat} (h : (decide (i = toS y) && Nat.ble y.length tMax) = true) : DE X G W (.Constant (.str i) j pos) (mD (.str y)) := by
  simp only [Bool.and_eq_true, decide_eq_true_eq] at h
  exact de_str h.1 (Nat.le_of_ble_eq_true h.2)
theorem de_cD {cls : Str → Option Addr} {n : Nat} {F : FS} {j : Nat} (h : Def X.prog X.w X.K X.mg X.base cls x n j F) (hG : G.K = X.K) (hC : G.cls = cls) (hr : Room k X.A) (hj : j ≤ k) (tk : Takes X W) (ha : DA X G W (e :: es) am) (hb : (glB X.env x && (e :: es).all notStar) = true) :
    DE X G W (.Call (.Name x p) (e :: es) [] pos) (mApp n F am) := by
  rw [Bool.and_eq_true] at hb
  obtain ⟨b1, b2, b3⟩ := glB_ok hb.1
  exact de_callD h hG hC (hr.mono hj) b1 tk ha hb.2 b2
theorem de_cB {id : String} {r : List V → Hp → VK → Prop} {f : FL} (hc : CallR X (.builtin id) r) (o : CallSem G r f) (hm : X.mg x = none) (hv : bootBuiltins x = some (.builtin id)) (ha : DA X G W (e :: es) am) (hb : (glB X.env x && (e :: es).all notStar) = true) :
    DE X G W (.Call (.Name x p) (e :: es) [] pos) (mCall f am) := by
  rw [Bool.and_eq_true] at hb
  obtain ⟨b1, b2, b3⟩ := glB_ok hb.1
  exact de_callB hc o b1 hm hv ha hb.2 b3 b2
theorem de_cT {id : String} {r : List V → Hp → VK → Prop} {f : FL} (hc : CallR X (.type id) r) (o : CallSem G r f) (hm : X.mg x = none) (hv : bootBuiltins x = some (.type id)) (ha : DA X G W (e :: es) am) (hb : (glB X.env x && (e :: es).all notStar) = true) :
    DE X G W (.Call (.Name x p) (e :: es) [] pos) (mCall f am) := by
  rw [Bool.and_eq_true] at hb
  obtain ⟨b1, b2, b3⟩ := glB_ok hb.1
  exact de_callTy hc o b1 hm hv ha hb.2 b3 b2
theorem de_cF {id : String} {r : List V → Hp → VK → Prop} {f : FL} (hc : CallR X (.builtin id) r) (o : CallSem G r f) (hm : X.mg x = some (.builtin id)) (ha : DA X G W (e :: es) am) (hb : (glB X.env x && (e :: es).all notStar) = true) :
    DE X G W (.Call (.Name x p) (e :: es) [] pos) (mCall f am) := by
  rw [Bool.and_eq_true] at hb
  obtain ⟨b1, b2, b3⟩ := glB_ok hb.1
  exact de_callBfun hc o b1 hm ha hb.2 b2
theorem bt_len : bootBuiltins "len" = some (.builtin "len") := by decide +kernel
theorem bt_all : bootBuiltins "all" = some (.builtin "all") := by decide +kernel
theorem bt_any : bootBuiltins "any" = some (.builtin "any") := by decide +kernel
theorem bt_sum : bootBuiltins "sum" = some (.builtin "sum") := by decide +kernel
theorem bt_abs : bootBuiltins "abs" = some (.builtin "abs") := by decide +kernel
theorem bt_max : bootBuiltins "max" = some (.builtin "max") := by decide +kernel
theorem bt_min : bootBuiltins "min" = some (.builtin "min") := by decide +kernel
theorem bt_sorted : bootBuiltins "sorted" = some (.builtin "sorted") := by decide +kernel
theorem bt_int : bootBuiltins "int" = some (.type "int") := by decide +kernel
theorem bt_bool : bootBuiltins "bool" = some (.type "bool") := by decide +kernel
theorem bt_str : bootBuiltins "str" = some (.type "str") := by decide +kernel
theorem bt_list : bootBuiltins "list" = some (.type "list") := by decide +kernel
theorem bt_tuple : bootBuiltins "tuple" = some (.type "tuple") := by decide +kernel
theorem bt_dict : bootBuiltins "dict" = some (.type "dict") := by decide +kernel
theorem de_isB {m : EM} {p2 : Pos} {y : Str} {T : String} (hG : G.K = X.K) (hm : X.mg "isinstance" = none) (hmy : X.mg y = none) (hvy : bootBuiltins y = some (.type T)) (h : DE X G W e m)
    (hb : ((["bool", "int", "str", "tuple", "list", "dict"] : List String).contains T && glB X.env "isinstance" && glB X.env y && notStar e) = true) : DE X G W (.Call (.Name "isinstance" p) [e, .Name y p2] [] pos) (mIsi T m) := by
  simp only [Bool.and_eq_true] at hb
  obtain ⟨b1, b2, b3⟩ := glB_ok hb.1.1.2
  obtain ⟨c1, c2, c3⟩ := glB_ok hb.1.2
  exact de_isi hG.symm (List.contains_iff_mem.mp hb.1.1.1) b1 hm c1 hmy hvy c3 c2 h hb.2
theorem de_ixB {a b : Expr} {ma mb : EM} (hG : G.K = X.K) (hr : Room k X.A) (ha : DE X G W a ma) (hb : DE X G W b mb) (hs : notSlice b = true) : DE X G W (.Subscript a b pos) (m2 fIx ma mb) :=
  de_ix hG.symm (by have := hr.units; omega) ha hb hs
theorem da_c {m : EM} (h : DE X G W e m) (hs : DA X G W es am) (hn : notStar e = true) : DA X G W (e :: es) (aCons m am) := da_cons h hs hn
theorem Room.u65 {A : Around} (r : Room k A) : A.units + 65 < cLine := by have := r.un; omega
theorem dgn {i : Nat} (hb : tgB X.N X.env.scope (X.fn x) i x = true) (nd : X.N.Nodup) : PG X (.Name x pos) (RdG G [i] (gN i)) := by
  unfold tgB at hb
  simp only [Bool.and_eq_true, Bool.or_eq_true, decide_eq_true_eq] at hb
  refine dg_name nd hb.1.1 (locB_ok hb.1.2) ?_
  rcases hb.2 with h | h
  · exact .inl h
  · exact .inr (isLocB_ok h)
def notSetB : Expr → Bool
  | .Set _ _ _ => false
  | _ => true
theorem notSetB_ok {i : Expr} (h : notSetB i = true) (env : Env) : ∀ x, foldedSetIterable i env x = pure x := notSet_of (by cases i <;> first | rfl | cases h) env
def lcB (N : List Str) (sc scope : Scope) (own : List (Str × Nat)) (gs : List Nat) (iter : Expr) : Bool := blkC N sc scope own && gs.all (fun j => decide (j ∈ own.map (·.2))) && notSetB iter
theorem lcB_ok {N : List Str} {sc scope : Scope} {own : List (Str × Nat)} {gs : List Nat} {iter : Expr} (h : lcB N sc scope own gs iter = true) (env : Env) : BlkOk N sc scope own ∧ (∀ j ∈ gs, j ∈ own.map (·.2)) ∧ ∀ x, foldedSetIterable iter env x = pure x := by
  unfold lcB at h
  simp only [Bool.and_eq_true, List.all_eq_true, decide_eq_true_eq] at h
  exact ⟨blkOk_by h.1.1, h.1.2, notSetB_ok h.2 env⟩
theorem de_l {elt tg iter : Expr} {ifs : List Expr} {scope : Scope} {mi : IM} {gs : List Nat} {gm : GM} {mt : TM} {me : EM} (md : Bool) (own : List (Str × Nat)) (hc : X.calm = true) (nd : X.N.Nodup) (hi : DI X G W tg iter mi) (hb : lcB X.N X.env.scope scope own gs iter = true)
    (hg : ∀ (h : List Addr) (s : Shared) (H : Hp) (C : Addr) (cl : List (Str × Addr)) (fp : List Addr), PG (X.blk s H scope (compEnvC scope cl C X.env) fp) tg (RdG (G.h h) gs gm))
    (ht : ∀ (h : List Addr) (s : Shared) (H : Hp) (C : Addr) (cl : List (Str × Addr)) (fp : List Addr), PTs (X.blk s H scope (compEnvC scope cl C X.env) fp) ifs (RdT (G.h h) WF mt))
    (he : ∀ (h : List Addr) (s : Shared) (H : Hp) (C : Addr) (cl : List (Str × Addr)) (fp : List Addr), PE (X.blk s H scope (compEnvC scope cl C X.env) fp) elt (RdE (G.h h) WF me)) : DE X G W (.ListComp elt [⟨tg, iter, ifs, 0⟩] scope pos) (mComp md (own.map (·.2)) mi gm mt me) := by
  obtain ⟨h1, h2, h3⟩ := lcB_ok hb X.env
  exact de_lc hc nd hi h1 hg ht he h2 h3
theorem de_d {kx vx tg iter : Expr} {ifs : List Expr} {scope : Scope} {mi : IM} {gs : List Nat} {gm : GM} {mt : TM} {mk me : EM} (md : Bool) (own : List (Str × Nat)) (hc : X.calm = true) (nd : X.N.Nodup) (hi : DI X G W tg iter mi) (hb : lcB X.N X.env.scope scope own gs iter = true)
    (hg : ∀ (h : List Addr) (s : Shared) (H : Hp) (C : Addr) (cl : List (Str × Addr)) (fp : List Addr), PG (X.blk s H scope (compEnvC scope cl C X.env) fp) tg (RdG (G.h h) gs gm))
    (ht : ∀ (h : List Addr) (s : Shared) (H : Hp) (C : Addr) (cl : List (Str × Addr)) (fp : List Addr), PTs (X.blk s H scope (compEnvC scope cl C X.env) fp) ifs (RdT (G.h h) WF mt))
    (hk : ∀ (h : List Addr) (s : Shared) (H : Hp) (C : Addr) (cl : List (Str × Addr)) (fp : List Addr), PE (X.blk s H scope (compEnvC scope cl C X.env) fp) kx (RdE (G.h h) WF mk))
    (he : ∀ (h : List Addr) (s : Shared) (H : Hp) (C : Addr) (cl : List (Str × Addr)) (fp : List Addr), PE (X.blk s H scope (compEnvC scope cl C X.env) fp) vx (RdE (G.h h) WF me)) : DE X G W (.DictComp kx vx [⟨tg, iter, ifs, 0⟩] scope pos) (mDComp md (own.map (·.2)) mi gm mt mk me) := by
  obtain ⟨h1, h2, h3⟩ := lcB_ok hb X.env
  exact de_dc hc nd hi h1 hg ht hk he h2 h3
theorem dts_nil : PTs X [] (RdT G W tmYes) := ⟨fun pins s σ H Q I ⟨μ, env, st, si, en, f⟩ => pts_nil.run pins s σ H Q I (f.ok si)⟩
theorem dts_one {c : Expr} {mt : TM} (h : DT X G W c mt) : PTs X [c] (RdT G W mt) := pts_one h
theorem dt_w {mt : TM} (h : DW X G W e mt) : DT X G W e mt := h.pt
theorem dt_t {m : EM} (hG : G.K = X.K) (ha : DE X G W e m) (hp : plainTest e = true) : DT X G W e (tTruth m) := dt_truth hG.symm ha hp
theorem di_v {tg iter : Expr} {m : EM} (hG : G.K = X.K) (h : DE X G W iter m) : DI X G W tg iter (mIter m) := di_val hG.symm h
theorem di_r1 {tg a : Expr} {am : AM} (hm : X.mg "range" = none) (h : DA X G W [a] am) (hb : (glB X.env "range" && notStar a) = true) : DI X G W tg (.Call (.Name "range" p) [a] [] pos) (mRng1 am) := by
  rw [Bool.and_eq_true] at hb
  exact di_rng1 (glB_ok hb.1).1 hm h hb.2
theorem di_r2 {tg a b : Expr} {am : AM} (hm : X.mg "range" = none) (h : DA X G W [a, b] am) (hb : (glB X.env "range" && notStar a && notStar b) = true) : DI X G W tg (.Call (.Name "range" p) [a, b] [] pos) (mRng2 am) := by
  simp only [Bool.and_eq_true] at hb
  exact di_rng2 (glB_ok hb.1.1).1 hm h hb.1.2 hb.2
theorem di_r3 {tg a b c : Expr} {am : AM} (hm : X.mg "range" = none) (h : DA X G W [a, b, c] am) (hb : (glB X.env "range" && ([a, b, c] : List Expr).all notStar) = true) : DI X G W tg (.Call (.Name "range" p) [a, b, c] [] pos) (mRng3 am) := by
  simp only [Bool.and_eq_true] at hb
  exact di_rng3 (glB_ok hb.1).1 hm h hb.2
theorem di_e {a : Expr} {am : AM} {tpos : Pos} {elts : List Expr} {kk : Nat} (hG : G.K = X.K) (hm : X.mg "enumerate" = none) (h : DA X G W [a] am) (hb : (glB X.env "enumerate" && notStar a) = true) : DI X G W (.Tuple elts kk tpos) (.Call (.Name "enumerate" p) [a] [] pos) (mEnum am) := by
  rw [Bool.and_eq_true] at hb
  exact di_enum hG.symm (glB_ok hb.1).1 hm h hb.2
theorem di_z {a b : Expr} {am : AM} {tpos : Pos} {elts : List Expr} {kk : Nat} (hG : G.K = X.K) (hm : X.mg "zip" = none) (h : DA X G W [a, b] am) (hb : (glB X.env "zip" && notStar a && notStar b) = true) : DI X G W (.Tuple elts kk tpos) (.Call (.Name "zip" p) [a, b] [] pos) (mZip am) := by
  simp only [Bool.and_eq_true] at hb
  exact di_zip hG.symm (glB_ok hb.1.1).1 hm h hb.1.2 hb.2
/-! methods -/
theorem de_mA {o : Expr} {apos : Pos} {mo : EM} (hG : G.K = X.K) (ho : DE X G W o mo) (ha : DA X G W (e :: es) am) (hb : (notSuper o && plainArgs (e :: es) && (apos.endLine == pos.line)) = true) : DE X G W (.Call (.Attribute o "append" apos) (e :: es) [] pos) (mMeth isLstV fApp mo am) := by
  simp only [Bool.and_eq_true] at hb
  exact de_bm hG.symm PySem.F.plainAttrs_list PySem.F.slot_list_append PySem.F.type_list_append mt_append ty_list sem_app ho ha hb.1.1 hb.1.2 hb.2
theorem de_mP {o : Expr} {apos : Pos} {mo : EM} (hG : G.K = X.K) (ho : DE X G W o mo) (hb : (notSuper o && (apos.endLine == pos.line)) = true) : DE X G W (.Call (.Attribute o "pop" apos) [] [] pos) (mMeth0 isLstV fPop mo) := by
  simp only [Bool.and_eq_true] at hb
  exact de_bm0 hG.symm PySem.F.plainAttrs_list PySem.F.slot_list_pop PySem.F.type_list_pop mt_pop ty_list sem_pop ho hb.1 hb.2
theorem de_mJ {o : Expr} {apos : Pos} {mo : EM} (hG : G.K = X.K) (ho : DE X G W o mo) (ha : DA X G W (e :: es) am) (hb : (notSuper o && plainArgs (e :: es) && (apos.endLine == pos.line)) = true) : DE X G W (.Call (.Attribute o "join" apos) (e :: es) [] pos) (mMeth isStrV fJoin mo am) := by
  simp only [Bool.and_eq_true] at hb
  exact de_bm hG.symm PySem.F.plainAttrs_str PySem.F.slot_str_join PySem.F.type_str_join (by rw [hG]; exact mt_join) ty_str sem_join ho ha hb.1.1 hb.1.2 hb.2
theorem de_mS {o : Expr} {apos : Pos} {mo : EM} {md : Bool} (hG : G.K = X.K) (ho : DE X G W o mo) (ha : DA X G W (e :: es) am) (hb : (notSuper o && plainArgs (e :: es) && (apos.endLine == pos.line)) = true) : DE X G W (.Call (.Attribute o "split" apos) (e :: es) [] pos) (mMeth isStrV (fSplit md) mo am) := by
  simp only [Bool.and_eq_true] at hb
  exact de_bm hG.symm PySem.F.plainAttrs_str PySem.F.slot_str_split PySem.F.type_str_split mt_split ty_str sem_split ho ha hb.1.1 hb.1.2 hb.2
/-! statements -/
variable {n0 : Nat}
def setB (X : Cx) (i : Nat) (x : Str) (e : Expr) : Bool := tgB X.N X.env.scope (X.fn x) i x && notComp e
theorem ds_s {m : EM} (i : Nat) (nd : X.N.Nodup) (h : DE X G W e m) (hb : (tgB X.N X.env.scope (X.fn x) i x && notComp e) = true) : DS X G W n0 (.Assign [.Name x p] e pos) (sAsg m (gN i)) := by
  unfold tgB at hb
  simp only [Bool.and_eq_true, Bool.or_eq_true, decide_eq_true_eq] at hb
  refine ds_set nd hb.1.1.1 (locB_ok hb.1.1.2) ?_ h hb.2
  rcases hb.1.2 with h | h
  · exact .inl h
  · exact .inr (isLocB_ok h)
/-- name = [..], the name a cell's: it is stored as any value -/
theorem ds_sC {m : EM} (i : Nat) (nd : X.N.Nodup) (h : DE X G W e m) (hs : swapsWith e (some (.Name x p)) pos.line X.env = pure false) (hb : tgB X.N X.env.scope (X.fn x) i x = true) : DS X G W n0 (.Assign [.Name x p] e pos) (sAsg m (gN i)) := by
  unfold tgB at hb
  simp only [Bool.and_eq_true, Bool.or_eq_true, decide_eq_true_eq] at hb
  refine ds_setC nd hb.1.1 (locB_ok hb.1.2) ?_ h hs
  rcases hb.2 with h | h
  · exact .inl h
  · exact .inr (isLocB_ok h)
theorem ds_sL {elt tg iter : Expr} {ifs : List Expr} {scope : Scope} {spos : Pos} {mi : IM} {gs : List Nat} {gm : GM} {mt : TM} {me : EM} (i : Nat) (md : Bool) (own : List (Str × Nat)) (hc : X.calm = true) (nd : X.N.Nodup) (hi : DI X G W tg iter mi) (hb : lcB X.N X.env.scope scope own gs iter = true)
    (hb2 : (decide (X.N[i]? = some x) && isLocB X.env.scope x) = true) (hsw : swapsWith (.ListComp elt [⟨tg, iter, ifs, 0⟩] scope pos) (some (.Name x p)) spos.line X.env = pure true)
    (hg : ∀ (h : List Addr) (s : Shared) (H : Hp) (C : Addr) (cl : List (Str × Addr)) (fp : List Addr), PG (X.blk s H scope (compEnvC scope cl C X.env) fp) tg (RdG (G.h h) gs gm))
    (ht : ∀ (h : List Addr) (s : Shared) (H : Hp) (C : Addr) (cl : List (Str × Addr)) (fp : List Addr), PTs (X.blk s H scope (compEnvC scope cl C X.env) fp) ifs (RdT (G.h h) WF mt))
    (he : ∀ (h : List Addr) (s : Shared) (H : Hp) (C : Addr) (cl : List (Str × Addr)) (fp : List Addr), PE (X.blk s H scope (compEnvC scope cl C X.env) fp) elt (RdE (G.h h) WF me)) :
    DS X G W n0 (.Assign [.Name x p] (.ListComp elt [⟨tg, iter, ifs, 0⟩] scope pos) spos) (sAsg (mComp md (own.map (·.2)) mi gm mt me) (gN i)) := by
  obtain ⟨h1, h2, h3⟩ := lcB_ok hb X.env
  simp only [Bool.and_eq_true, decide_eq_true_eq] at hb2
  exact ds_setLc hc nd hb2.1 (isLocB_ok hb2.2) hsw hi h1 hg ht he h2 h3
theorem ds_x {m : EM} (h : DE X G W e m) (hn : notComp e = true) : DS X G W n0 (.Expr e pos) (sExpr m) := ds_expr h hn
theorem ds_f {tg iter : Expr} {body : List Stmt} {mi : IM} {gs : List Nat} {gm : GM} {mb : SM} (ow : PassesOwn (model X.prog X.w) X.A X.env X.xe) (hc : X.calm = true) (hi : DI X G W tg iter mi) (hg : PG X tg (RdG G gs gm)) (hb : DSs X G W n0 body mb) (hs : notSetB iter = true) :
    DS X G W n0 (.For tg iter body [] pos) (sFor mi gm mb) := ds_for ow hc hi hg hb (notSetB_ok hs _)
theorem ds_i {o i : Expr} {p' : Pos} {mo mi m : EM} (h : DE X G W e m) (ho : DE X G W o mo) (hi : DE X G W i mi) (hn : (notComp e && notSlice i) = true) : DS X G W n0 (.Assign [.Subscript o i p'] e pos) (sSub mo mi m) := by
  rw [Bool.and_eq_true] at hn
  refine ds_sub h ho hi hn.1 (by cases e <;> rfl) fun v => ?_
  have h2 := hn.2
  cases i <;> first | rfl | cases h2
end
end Sl
end
section
set_option Elab.async false
set_option linter.all false
set_option maxRecDepth 100000
set_option maxHeartbeats 1000000
namespace Sl
open PySem PySem.Spec PyProof.Rows L2
/-! ### a, b = x, y -/
def setAll : List Nat → List Val → Slots → Slots
  | i :: is, x :: xs, env => setAll is xs (env.set i (some x))
  | _, _, env => env
def setAllV : List Nat → List V → L2.St → L2.St
  | i :: is, v :: vs, σ => setAllV is vs (σ.set i (some v))
  | _, _, σ => σ
/-- all values, then all names -/
def sParN (is : List Nat) (am : AM) : SM := fun env st => (am env st).then env fun xs st' => if xs.length = is.length then .nx (setAll is xs env) st' else .fail
def nameOf : Expr → Option Str
  | .Name x _ => some x
  | _ => none
theorem nameOf_eq {e : Expr} {x : Str} (h : nameOf e = some x) : ∃ p, e = .Name x p := by
  unfold nameOf at h
  split at h
  · cases h
    exact ⟨_, rfl⟩
  · cases h
/-- the names and their places -/
def namesB (N : List Str) (sc : Scope) (fn : Str → Bool) : List Nat → List Expr → Bool
  | [], [] => true
  | i :: is, e :: es => (match nameOf e with
    | some x => tgB N sc (fn x) i x
    | none => false) && namesB N sc fn is es
  | _, _ => false
section
variable {X : Cx} {G : Grd} {W : WX} {μ : List Addr} {H : Hp} {pos : Pos} {n0 : Nat}
theorem setAll_env : ∀ {is : List Nat} {xs : List Val} {vs : List V} {env : Slots} {σ : L2.St}, EnvRp G μ H env σ → RpVs G.K G.hid μ H vs xs → EnvRp G μ H (setAll is xs env) (setAllV is vs σ)
  | [], xs, vs, env, σ, r, h => by cases xs <;> cases vs <;> exact r
  | i :: is, _, _, env, σ, r, .nil => r
  | i :: is, x :: xs, v :: vs, env, σ, r, .cons h t => by
    unfold setAll setAllV
    exact setAll_env (r.set h) t
theorem names_assign {N : List Str} {sc : Scope} {fn : Str → Bool} : ∀ {is : List Nat} {es : List Expr} (env : Env), namesB N sc fn is es = true → (assignEach es env).length = is.length ∧ (assignEach es env).findIdx? (·.1) = none
  | [], [], _, _ => ⟨rfl, rfl⟩
  | [], _ :: _, _, h => by cases h
  | _ :: _, [], _, h => by cases h
  | i :: is, e :: es, env, h => by
    unfold namesB at h
    rw [Bool.and_eq_true] at h
    obtain ⟨h1, h2⟩ := names_assign env h.2
    have hx := h.1
    split at hx
    · rename_i x q
      obtain ⟨p, rfl⟩ := nameOf_eq q
      rw [assignEach_plain (show plainTg (.Name x p) = true from rfl)]
      exact ⟨by simp [h1], by simp [List.findIdx?_cons, h2]⟩
    · cases hx
theorem names_rd (nd : X.N.Nodup) : ∀ {is : List Nat} {es : List Expr}, namesB X.N X.env.scope X.fn is es = true → PGs X es (fun vs σ H Q => vs.length = is.length ∧ Q (setAllV is vs σ) H)
  | [], [], _ => PGs.by pgs_nil fun vs σ H Q ⟨h1, h2⟩ => by
    have e : vs = [] := List.length_eq_zero_iff.mp h1
    subst e
    exact ⟨rfl, h2⟩
  | [], _ :: _, h => by cases h
  | _ :: _, [], h => by cases h
  | i :: is, e :: es, h => by
    unfold namesB at h
    rw [Bool.and_eq_true] at h
    have hx := h.1
    split at hx
    · rename_i x q
      obtain ⟨p, rfl⟩ := nameOf_eq q
      have hb := hx
      unfold tgB at hb
      simp only [Bool.and_eq_true, Bool.or_eq_true, decide_eq_true_eq] at hb
      have hf : X.fn x = true ∨ X.env.scope.names.lookup x = some .local := hb.2.imp id isLocB_ok
      refine PGs.by (pgs_cons (pg_name (pos := p) nd hb.1.1 (locB_ok hb.1.2) hf) (names_rd nd h.2) (by rw [assignEach_plain rfl]; rfl)) fun vs σ H Q ⟨h1, h2⟩ => ?_
      cases vs with
      | nil => cases h1
      | cons v vs =>
        unfold setAllV at h2
        exact ⟨v, vs, rfl, by simpa using h1, h2⟩
    · cases hx
theorem thenPar {is : List Nat} {am : AM} {env : Slots} {st : Sto} {μ0 : List Addr} {H0 : Hp} {σ : L2.St} {E : Ends} (at_ : At G n0 μ0 H0 μ H env st σ) (f : FinS G W μ0 H0 μ H (sParN is am env st) E) :
    Fin G W σ μ H (am env st) (fun xs st' μ' H' => ∀ vs, RpVs G.K G.hid μ' H' vs xs → vs.length = is.length ∧ ∀ H'', Ext μ' H' μ' H'' → Sim G μ' H'' st' → E.nx (setAllV is vs σ) H'') :=
  (FinS.thn at_ f).mono fun xs st1 μ1 H1 e1 s1 h1 vs rv => by
    by_cases hl : xs.length = is.length
    · rw [if_pos hl] at h1
      exact ⟨by rw [rv.length, hl], fun H2 e2 s2 => h1 μ1 H2 _ e2 s2 (setAll_env ((at_.env.ext e1).ext e2) (rv.ext e2))⟩
    · rw [if_neg hl] at h1
      exact h1.elim
/-- not swapped: the tuple is made, then parted -/
theorem ds_pN {ts vs : List Expr} {kt kv : Nat} {pt pv : Pos} {is : List Nat} {am : AM} (hG : G.K = X.K) (hc : X.calm = true) (nd : X.N.Nodup) (h : DA X G W vs am) (hb : namesB X.N X.env.scope X.fn is ts = true) (hl : is.length ≤ 100) (hw : swappedStores [.Tuple ts kt pt] (.Tuple vs kv pv) X.env = pure none) :
    DS X G W n0 (.Assign [.Tuple ts kt pt] (.Tuple vs kv pv) pos) (sParN is am) := by
  obtain ⟨a1, a2⟩ := names_assign X.env hb
  refine PS.by (ps_asg (pe_tup h) (pg_tup hc (names_rd nd hb) a1 a2) rfl hw (by rw [assignEach_plain (show plainTg (.Tuple ts kt pt) = true from rfl)]; rfl)) ?_
  rintro E σ H ⟨μ0, H0, μ, env, st, at_, f⟩
  refine ⟨μ, env, st, at_.sim, at_.env, (thenPar at_ f).mono fun xs st1 μ1 H1 e1 s1 h1 vs rv => ?_⟩
  obtain ⟨g1, g2⟩ := h1 vs rv
  refine ⟨by rw [g1]; exact Nat.le_trans hl (by rw [sizeLine_eq]; omega), fun p hp => ?_⟩
  refine ⟨p, vs, rfl, .inl (.inl upd_same), g1, g1, g2 _ (Ext.new hp) (s1.new hp)⟩
/-- swapped -/
theorem ds_p2 {x y : Str} {a b : Expr} {kt kv i j : Nat} {px py pt pv : Pos} {am : AM} (hc : X.calm = true) (nd : X.N.Nodup) (h : DA X G W [a, b] am) (hb : (decide (X.N[i]? = some x) && decide (X.N[j]? = some y) && decide (i ≠ j) && isLocB X.env.scope x && isLocB X.env.scope y) = true)
    (hw : swappedStores [.Tuple [.Name x px, .Name y py] kt pt] (.Tuple [a, b] kv pv) X.env = pure (some [x, y])) : DS X G W n0 (.Assign [.Tuple [.Name x px, .Name y py] kt pt] (.Tuple [a, b] kv pv) pos) (sParN [i, j] am) := by
  simp only [Bool.and_eq_true, decide_eq_true_eq] at hb
  refine PS.by (ps_par hc nd hb.1.1.1.1 hb.1.1.1.2 hb.1.1.2 (isLocB_ok hb.1.2) (isLocB_ok hb.2) h hw) ?_
  rintro E σ H ⟨μ0, H0, μ, env, st, at_, f⟩
  refine ⟨μ, env, st, at_.sim, at_.env, (thenPar at_ f).mono fun xs st1 μ1 H1 e1 s1 h1 vs rv => ?_⟩
  obtain ⟨g1, g2⟩ := h1 vs rv
  match vs, g1 with
  | [v, w], _ => exact ⟨v, w, rfl, g2 H1 Ext.refl s1⟩
theorem ds_p3 {x y z : Str} {a b c : Expr} {kt kv i j l : Nat} {px py pz pt pv : Pos} {am : AM} (hc : X.calm = true) (nd : X.N.Nodup) (h : DA X G W [a, b, c] am)
    (hb : (decide (X.N[i]? = some x) && decide (X.N[j]? = some y) && decide (X.N[l]? = some z) && decide (i ≠ j) && decide (i ≠ l) && decide (j ≠ l) && isLocB X.env.scope x && isLocB X.env.scope y && isLocB X.env.scope z) = true)
    (hw : swappedStores [.Tuple [.Name x px, .Name y py, .Name z pz] kt pt] (.Tuple [a, b, c] kv pv) X.env = pure (some [x, y, z])) : DS X G W n0 (.Assign [.Tuple [.Name x px, .Name y py, .Name z pz] kt pt] (.Tuple [a, b, c] kv pv) pos) (sParN [i, j, l] am) := by
  simp only [Bool.and_eq_true, decide_eq_true_eq] at hb
  refine PS.by (ps_par3 hc nd hb.1.1.1.1.1.1.1.1 hb.1.1.1.1.1.1.1.2 hb.1.1.1.1.1.1.2 hb.1.1.1.1.1.2 hb.1.1.1.1.2 hb.1.1.1.2 (isLocB_ok hb.1.1.2) (isLocB_ok hb.1.2) (isLocB_ok hb.2) h hw) ?_
  rintro E σ H ⟨μ0, H0, μ, env, st, at_, f⟩
  refine ⟨μ, env, st, at_.sim, at_.env, (thenPar at_ f).mono fun xs st1 μ1 H1 e1 s1 h1 vs rv => ?_⟩
  obtain ⟨g1, g2⟩ := h1 vs rv
  match vs, g1 with
  | [u, v, w], _ => exact ⟨u, v, w, rfl, g2 H1 Ext.refl s1⟩
end
end Sl
end
section
set_option Elab.async false
set_option linter.all false
set_option maxRecDepth 100000
set_option maxHeartbeats 1000000
namespace Sl
open PySem PySem.Spec PyProof.Rows L2
/-! ### the head's facts -/
def bltB (K : Frag) (x : Str) (id : String) : Bool := He.eqO (PySem.W.nsIn K mainGlobals x) (some (some (.builtin id)))
def dvD : He.Dv → Option D
  | .non => some .non
  | .bl b => some (.bl b)
  | .int i => some (.int i)
  | _ => none
def dvB : He.Dv → D → Bool
  | .non, .non => true
  | .bl b, .bl c => b == c
  | .int i, .int j => decide (i = j)
  | .str z, .str y => decide (z = toS y) && Nat.ble y.length tMax
  | _, _ => false
def dvsB : List He.Dv → List D → Bool
  | [], [] => true
  | v :: vs, d :: ds => dvB v d && dvsB vs ds
  | _, _ => false
section
variable {K : Frag} {h : Heap} {mg : Str → Option Value} {x : Str}
theorem blt_ok (X : K.In h) (G : h.Ns mainGlobals mg) {id : String} (c : bltB K x id = true) : mg x = some (.builtin id) := PySem.W.mg_of X G (He.eqO_ok c)
theorem gv_int {i : Int} (e : ∃ t, mg x = some (.int i t)) : Gv mg K x (.int i) := by
  obtain ⟨t, e⟩ := e
  exact ⟨.int i, _, e, ⟨t, rfl⟩, fun F H => .int i⟩
theorem gv_str {z : Str} {y : T} (e : ∃ t, mg x = some (.str z t)) (c : (decide (z = toS y) && Nat.ble y.length tMax) = true) : Gv mg K x (.str y) := by
  obtain ⟨t, e⟩ := e
  simp only [Bool.and_eq_true, decide_eq_true_eq] at c
  obtain ⟨rfl, c2⟩ := c
  exact ⟨.str (toS y), _, e, ⟨t, rfl⟩, fun F H => .str y (Nat.le_of_ble_eq_true c2)⟩
theorem dvs_rp {F : Addr → Prop} {H : Hp} : ∀ {vs : List He.Dv} {ds : List D}, dvsB vs ds = true → RpL K F H (vs.map (He.Dv.v K)) ds
  | [], [], _ => .nil
  | [], _ :: _, c => by cases c
  | _ :: _, [], c => by cases c
  | v :: vs, d :: ds, c => by
    unfold dvsB at c
    rw [Bool.and_eq_true] at c
    refine .cons ?_ (dvs_rp c.2)
    have c1 := c.1
    unfold dvB at c1
    split at c1
    · exact .non
    · simp only [beq_iff_eq] at c1
      subst c1
      exact .bl _
    · simp only [decide_eq_true_eq] at c1
      subst c1
      exact .int _
    · simp only [Bool.and_eq_true, decide_eq_true_eq] at c1
      obtain ⟨rfl, c2⟩ := c1
      exact .str _ (Nat.le_of_ble_eq_true c2)
    · cases c1
theorem gv_tup {vs : List He.Dv} {ds : List D} (e : mg x = some (.ref (He.ga K x))) (t : He.tupB K x vs = true) (c : dvsB vs ds = true) : Gv mg K x (.tup ds) :=
  ⟨.ref (He.ga K x), _, e, rfl, fun F H => .tup (He.tupB_ok t H) (dvs_rp c)⟩
theorem says_d {fa : List He.Fa} {fn : List He.DefD} {ts : List He.Tab} {w : World} (c : He.SaysT fa fn ts w K) : He.SaysD fa fn K := (Prod.mk.inj c).1
theorem def_of {fa : List He.Fa} {fn : List He.DefD} (X : K.In h) (G : h.Ns mainGlobals mg) (c : He.SaysD fa fn K) (i j : Nat) {f : Str} {st : Stmt} (hd : fn[i]? = some ⟨(f, none), f, f, defArgs st, defBody st, defScope st, [], []⟩) (hf : fa[j]? = some (.glo f)) :
    ∃ a fd, FunD K f f (defArgs st) (defBody st) (defScope st) [] [] a fd ∧ mg f = some (.ref a) := by
  obtain ⟨fd, F⟩ := c.def_ i hd
  exact ⟨_, fd, F, He.glo_ok X G (c.fact j hf)⟩
end
end Sl
end
section
set_option Elab.async false
set_option linter.all false
set_option maxRecDepth 100000
set_option maxHeartbeats 1000000
namespace Sl
open PySem PySem.Spec PyProof.Rows L2
/-! ### plain laws of the meanings: loops by an invariant -/
theorem forGo_post {src : Option Nat} {all : List Val} {gm : GM} {mb : SM} {env : Slots} {st : Sto} {Post : SR → Prop} (I : Nat → Slots → Sto → Prop) (h0 : I 0 env st)
    (hs : ∀ i x env st, all[i]? = some x → I i env st → watch st src all = true ∧ ∃ env1, gm x env = some env1 ∧ (match mb env1 st with
      | .nx e s => I (i + 1) e s
      | .ct e s => I (i + 1) e s
      | .bk e s => Post (.nx e s)
      | r => Post r)) (hd : ∀ env st, I all.length env st → watch st src all = true ∧ Post (.nx env st)) : Post (forGo src all gm mb all env st) := by
  have key : ∀ (rest : List Val) (i : Nat) (env : Slots) (st : Sto), all.drop i = rest → I i env st → i ≤ all.length → Post (forGo src all gm mb rest env st) := by
    intro rest
    induction rest with
    | nil =>
      intro i env st hr hi hl
      have : i = all.length := by
        have := congrArg List.length hr
        simp at this
        omega
      subst this
      obtain ⟨h1, h2⟩ := hd env st hi
      unfold forGo
      rw [if_pos h1]
      exact h2
    | cons x rest ih =>
      intro i env st hr hi hl
      have hx : all[i]? = some x := by
        have := congrArg (·[0]?) hr
        simpa using this
      have hlt : i < all.length := (List.getElem?_eq_some_iff.mp hx).1
      obtain ⟨h1, env1, h2, h3⟩ := hs i x env st hx hi
      have hr2 : all.drop (i + 1) = rest := by
        have := congrArg List.tail hr
        rw [List.tail_drop] at this
        exact this
      unfold forGo
      rw [if_pos h1, h2]
      dsimp only
      revert h3
      generalize mb env1 st = r
      intro h3
      cases r with
      | nx e s => exact ih (i + 1) e s hr2 h3 hlt
      | ct e s => exact ih (i + 1) e s hr2 h3 hlt
      | bk e s => exact h3
      | fail => exact h3
      | rt v s => exact h3
      | exc c fs e s => exact h3
  exact key all 0 env st rfl h0 (Nat.zero_le _)
theorem lcGo_inv {src : Option Nat} {all : List Val} {gm : GM} {mt : TM} {me : EM} {env : Slots} {st : Sto} (I : Nat → List Val → Sto → Prop) (h0 : I 0 [] st)
    (hs : ∀ i x acc st, all[i]? = some x → I i acc st → watch st src all = true ∧ ∃ env1, gm x env = some env1 ∧ ∃ b st1, mt env1 st = .ok b st1 ∧ (b = false → I (i + 1) acc st1) ∧ (b = true → ∃ y st2, me env1 st1 = .ok y st2 ∧ I (i + 1) (acc ++ [y]) st2))
    (hd : ∀ acc st, I all.length acc st → watch st src all = true) : ∃ ys st', lcGo src all gm mt me env all st = .ok ys st' ∧ I all.length ys st' := by
  have key : ∀ (rest : List Val) (i : Nat) (acc : List Val) (st : Sto), all.drop i = rest → I i acc st → i ≤ all.length → ∃ ys st', lcGo src all gm mt me env rest st = .ok ys st' ∧ I all.length (acc ++ ys) st' := by
    intro rest
    induction rest with
    | nil =>
      intro i acc st hr hi hl
      have : i = all.length := by
        have := congrArg List.length hr
        simp at this
        omega
      subst this
      unfold lcGo
      rw [if_pos (hd acc st hi)]
      exact ⟨[], st, rfl, by rw [List.append_nil]; exact hi⟩
    | cons x rest ih =>
      intro i acc st hr hi hl
      have hx : all[i]? = some x := by
        have := congrArg (·[0]?) hr
        simpa using this
      have hlt : i < all.length := (List.getElem?_eq_some_iff.mp hx).1
      obtain ⟨h1, env1, h2, b, st1, h3, h4, h5⟩ := hs i x acc st hx hi
      have hr2 : all.drop (i + 1) = rest := by
        have := congrArg List.tail hr
        rw [List.tail_drop] at this
        exact this
      unfold lcGo
      rw [if_pos h1, h2]
      dsimp only
      rw [h3]
      dsimp only [R.bind]
      cases b with
      | false =>
        dsimp only
        exact ih (i + 1) acc st1 hr2 (h4 rfl) hlt
      | true =>
        dsimp only
        obtain ⟨y, st2, h6, h7⟩ := h5 rfl
        rw [h6]
        dsimp only
        obtain ⟨ys, st', e, hI⟩ := ih (i + 1) (acc ++ [y]) st2 hr2 h7 hlt
        rw [e]
        exact ⟨y :: ys, st', rfl, by simpa using hI⟩
  obtain ⟨ys, st', e, h⟩ := key all 0 [] st rfl h0 (Nat.zero_le _)
  exact ⟨ys, st', e, by simpa using h⟩
/-- nothing is changed -/
theorem lcGo_pure {src : Option Nat} {gm : GM} {mt : TM} {me : EM} {env : Slots} {st : Sto} {all : List Val} (p : Val → Bool) (f : Val → Val) (hw : watch st src all = true) :
    ∀ {rest : List Val}, (∀ x ∈ rest, ∃ env1, gm x env = some env1 ∧ mt env1 st = .ok (p x) st ∧ (p x = true → me env1 st = .ok (f x) st)) → lcGo src all gm mt me env rest st = .ok ((rest.filter p).map f) st
  | [], _ => by unfold lcGo; rw [if_pos hw]; rfl
  | x :: rest, h => by
    obtain ⟨env1, h1, h2, h3⟩ := h x (List.mem_cons_self ..)
    have ih := lcGo_pure p f hw (rest := rest) fun y hy => h y (List.mem_cons_of_mem _ hy)
    unfold lcGo
    rw [if_pos hw, h1]
    dsimp only
    rw [h2]
    dsimp only [R.bind]
    cases q : p x with
    | false =>
      dsimp only
      rw [ih]
      simp [q]
    | true =>
      dsimp only
      rw [h3 q]
      dsimp only
      rw [ih]
      simp [q]
theorem watch_none {st : Sto} {xs : List Val} : watch st none xs = true := rfl
theorem sameV_refl : ∀ v : Val, (∀ c fs, v ≠ .x c fs) → sameV v v = true
  | .p d, _ => sameD_refl d
  | .r l, _ => by simp [sameV]
  | .x c fs, h => absurd rfl (h c fs)
theorem sameVs_refl : ∀ xs : List Val, (∀ v ∈ xs, ∀ c fs, v ≠ .x c fs) → sameVs xs xs = true
  | [], _ => rfl
  | x :: xs, h => by
    simp only [sameVs, Bool.and_eq_true]
    exact ⟨sameV_refl x (h x (List.mem_cons_self ..)), sameVs_refl xs fun v hv => h v (List.mem_cons_of_mem _ hv)⟩
theorem sameVs_data : ∀ ds : List D, sameVs (ds.map .p) (ds.map .p) = true := fun ds => sameVs_refl _ fun v hv c fs e => by
  obtain ⟨d, _, rfl⟩ := List.mem_map.mp hv
  cases e
theorem pureL_map : ∀ ds : List D, pureL (ds.map .p) = some ds
  | [] => rfl
  | d :: ds => by simp [pureL, pureL_map ds]
end Sl
namespace Sl
theorem seq_nx {m k : SM} {env env' : Slots} {st st' : Sto} (h : m env st = .nx env' st') : sSeq m k env st = k env' st' := by
  unfold sSeq
  rw [h]
theorem seq_rt {m k : SM} {env : Slots} {st st' : Sto} {v : Val} (h : m env st = .rt v st') : sSeq m k env st = .rt v st' := by
  unfold sSeq
  rw [h]
theorem seq_bk {m k : SM} {env env' : Slots} {st st' : Sto} (h : m env st = .bk env' st') : sSeq m k env st = .bk env' st' := by
  unfold sSeq
  rw [h]
theorem seq_end {m : SM} {env : Slots} {st : Sto} : sSeq m sNil env st = m env st := by
  unfold sSeq sNil
  cases m env st <;> rfl
theorem body_rt {k : Nat} {m : Nat → SM} {xs : List Val} {st st' : Sto} {v : Val} (h : m st.length (xs.map some ++ List.replicate (k - xs.length) none) st = .rt v st') : bodyF k m xs st = .ok v st' := by
  unfold bodyF
  rw [h]
end Sl
namespace Sl
theorem frzL_data (n0 : Nat) (st : Sto) (n : Nat) : ∀ ds : List D, frzL n0 st n (ds.map .p) = some ds
  | [] => by cases n <;> simp [frzL]
  | d :: ds => by
    have h : frzV n0 st n (.p d) = some d := by cases n <;> simp [frzV]
    cases n <;> simp [frzL, h, frzL_data]
/-- a local list is returned: it is data from here on -/
theorem ret_lst {n0 i l : Nat} {env : Slots} {st : Sto} {ds : List D} (h1 : st.length ≠ n0) (h2 : (st.take n0).all (closedO n0) = true) (h3 : env[i]? = some (some (.r l))) (h4 : n0 ≤ l) (h5 : st[l]? = some (.lst (ds.map .p))) : sRet n0 (mVar i) env st = .rt (.p (.lst ds)) (st.take n0) := by
  unfold sRet settle
  rw [if_neg h1, if_neg h1, if_pos h2]
  dsimp only
  have e : mVar i (env.map (frzS n0 st)) (st.take n0) = .ok (.p (.lst ds)) (st.take n0) := by
    unfold mVar
    rw [List.getElem?_map, h3]
    simp only [Option.map, frzS]
    rw [if_neg (by omega)]
    unfold frzV
    rw [if_neg (by omega), h5]
    dsimp only
    rw [frzL_data]
  rw [e]
end Sl
namespace Sl
open PySem PySem.Spec PyProof.Rows L2
theorem comp_D {ow : List Nat} {mi : IM} {gm : GM} {mt : TM} {me : EM} {env : Slots} {st : Sto} {src : Option Nat} {ds : List D} (p : D → Bool) (f : D → D) (hi : mi env st = .ok (ds.map .p, src) st) (hw : watch st src (ds.map .p) = true) (hl : ds.length ≤ sizeLine)
    (h : ∀ d ∈ ds, ∃ env1, gm (.p d) (wipeE env ow) = some env1 ∧ mt env1 st = .ok (p d) st ∧ (p d = true → me env1 st = .ok (.p (f d)) st)) : mComp false ow mi gm mt me env st = .ok (.p (.lst ((ds.filter p).map f))) st := by
  have e : lcGo src (ds.map .p) gm mt me (wipeE env ow) (ds.map .p) st = .ok (((ds.filter p).map f).map .p) st := by
    have := lcGo_pure (src := src) (gm := gm) (mt := mt) (me := me) (env := wipeE env ow) (st := st) (all := ds.map .p) (fun v => match v with | .p d => p d | _ => false) (fun v => match v with | .p d => .p (f d) | v => v) hw (rest := ds.map .p) (fun x hx => by
      obtain ⟨d, hd, rfl⟩ := List.mem_map.mp hx
      exact h d hd)
    rw [this, List.filter_map, List.map_map, List.map_map]
    rfl
  unfold mComp
  rw [hi]
  simp only [R.bind, e, R.noExc, newLst, pureL_map]
  rw [if_pos (by rw [List.length_map]; exact Nat.le_trans (List.length_filter_le _ _) hl)]
  rfl
theorem iter_tupD {m : EM} {env : Slots} {st : Sto} {ds : List D} (h : m env st = .ok (.p (.tup ds)) st) : mIter m env st = .ok (ds.map .p, none) st := by
  unfold mIter
  rw [h]
  rfl
theorem iter_lstD {m : EM} {env : Slots} {st : Sto} {ds : List D} (h : m env st = .ok (.p (.lst ds)) st) : mIter m env st = .ok (ds.map .p, none) st := by
  unfold mIter
  rw [h]
  rfl
theorem iter_strD {m : EM} {env : Slots} {st : Sto} {t : T} (h : m env st = .ok (.p (.str t)) st) : mIter m env st = .ok ((t.map fun c => D.str [c]).map .p, none) st := by
  unfold mIter
  rw [h]
  simp [R.bind, itemsOf]
theorem rng2_D {am : AM} {env : Slots} {st : Sto} {i j : Int} (h : am env st = .ok [.p (.int i), .p (.int j)] st) (hi : -1000000 < i ∧ i < 1000000) (hj : -1000000 < j ∧ j < 1000000) : mRng2 am env st = .ok (((List.range (j - i).toNat).map fun k : Nat => D.int (i + k)).map .p, none) st := by
  unfold mRng2
  rw [h]
  have w : ∀ z : Int, -1000000 < z → z < 1000000 → inW z = true := fun z h1 h2 => by
    have e : (2 : Int) ^ 62 = 4611686018427387904 := by decide
    simp only [inW, Bool.and_eq_true, decide_eq_true_eq, e]
    omega
  simp [R.bind, w i hi.1 hi.2, w j hj.1 hj.2, rngItems]
theorem rng1_D {am : AM} {env : Slots} {st : Sto} {j : Int} (h : am env st = .ok [.p (.int j)] st) (hj : -1000000 < j ∧ j < 1000000) : mRng1 am env st = .ok (((List.range j.toNat).map fun k : Nat => D.int k).map .p, none) st := by
  unfold mRng1
  rw [h]
  have w : inW j = true := by
    have e : (2 : Int) ^ 62 = 4611686018427387904 := by decide
    simp only [inW, Bool.and_eq_true, decide_eq_true_eq, e]
    omega
  simp [R.bind, w, rngItems]
theorem deq_nil {xs : List D} : deq (.lst xs) (.lst []) = xs.isEmpty := by cases xs <;> simp [deq, deqL]
theorem eq_nil {neg : Bool} {xs : List D} {st : Sto} (h : noDctL xs = true) : fEq neg (.p (.lst xs)) (.p (.lst [])) st = some (.p (.bl (if neg then !xs.isEmpty else xs.isEmpty)), st) := by
  have e1 : eqOk (.lst xs) (.lst []) = true := by
    have : min (dep (.lst xs)) (dep (.lst [])) ≤ 64 := by
      simp only [dep, depL]
      omega
    simp [eqOk, noDct, noDctL, h, this]
  simp only [fEq, viewD, e1, if_true, deq_nil]
end Sl
namespace Sl
open PySem PySem.Spec PyProof.Rows L2
theorem filter_yes {α : Type} (xs : List α) : xs.filter (fun _ => true) = xs := by simp
/-- the sums of the laws: all(..) of a list of truths -/
theorem all_bl {st : Sto} {α : Type} (xs : List α) (p : α → Bool) : fAll false [.p (.lst (xs.map fun x => .bl (p x)))] st = some (.p (.bl (xs.all p)), st) := by
  have h : bools ((xs.map fun x => D.bl (p x)).map Val.p) = some (xs.map p) := by
    induction xs with
    | nil => rfl
    | cons x xs ih => simp only [List.map_cons, bools, ih]
  simp only [fAll, viewL, h]
  simp [List.all_map]
end Sl
end
section
set_option Elab.async false
set_option linter.all false
set_option maxRecDepth 100000
set_option maxHeartbeats 1000000
namespace Sl
open PySem PySem.Spec PyProof.Rows L2
/-! ### what a meaning gives, step by step (nothing of the store changed) -/
section
variable {ma mb mc m : EM} {am : AM} {t u : TM} {env env' : Slots} {st st' : Sto} {a b : Bool} {x y z v : Val} {xs : List Val} {d : D} {r : R Val} {sr : SR} {k : SM} {n0 n : Nat}
abbrev yes (b : Bool) : Val := .p (.bl b)
theorem ev_and (h1 : ma env st = .ok (yes a) st) (h2 : a = true → mb env st = .ok (yes b) st) : mAndV ma mb env st = .ok (yes (a && b)) st := by
  unfold mAndV
  rw [h1]
  cases a with
  | true => exact h2 rfl
  | false => rfl
theorem ev_or (h1 : ma env st = .ok (yes a) st) (h2 : a = false → mb env st = .ok (yes b) st) : mOrV ma mb env st = .ok (yes (a || b)) st := by
  unfold mOrV
  rw [h1]
  cases a with
  | false => exact h2 rfl
  | true => rfl
theorem ev_not (h1 : ma env st = .ok (yes a) st) : mNotV ma env st = .ok (yes (!a)) st := by
  unfold mNotV
  rw [h1]
  rfl
theorem ev_chain {f g : F2} (hx : ma env st = .ok x st) (hy : mb env st = .ok y st) (h1 : f x y st = some (yes a, st)) (h2 : a = true → ∃ z, mc env st = .ok z st ∧ g y z st = some (yes b, st)) : mChain f g ma mb mc env st = .ok (yes (a && b)) st := by
  unfold mChain
  rw [hx]
  simp only [R.bind]
  rw [hy]
  simp only [R.bind]
  rw [h1]
  cases a with
  | true =>
    obtain ⟨z, e1, e2⟩ := h2 rfl
    dsimp only
    rw [e1]
    simp only [R.bind]
    rw [e2]
    rfl
  | false => rfl
theorem ev_2 {f : F2} (hx : ma env st = .ok x st) (hy : mb env st = .ok y st) (h : f x y st = some (v, st')) : m2 f ma mb env st = .ok v st' := by
  unfold m2
  rw [hx]
  simp only [R.bind]
  rw [hy]
  simp only [R.bind]
  rw [h]
  rfl
theorem ev_app {F : FS} (ha : am env st = .ok xs st) (hl : xs.length = n) (h : F xs st = r) : mApp n F am env st = r := by
  unfold mApp
  rw [ha]
  simp only [R.bind]
  rw [if_pos hl]
  exact h
theorem ev_call {f : FL} (ha : am env st = .ok xs st) (h : f xs st = some (v, st')) : mCall f am env st = .ok v st' := by
  unfold mCall
  rw [ha]
  simp only [R.bind]
  rw [h]
  rfl
theorem ev_isi {T : String} {s : String} (h : m env st = .ok x st) (h2 : tyName st x = some s) : mIsi T m env st = .ok (yes (isTy s T)) st := by
  unfold mIsi
  rw [h]
  simp only [R.bind]
  rw [h2]
def isTup : D → Bool
  | .tup _ => true
  | _ => false
def isStr : D → Bool
  | .str _ => true
  | _ => false
def isNum : D → Bool
  | .int _ => true
  | .bl _ => true
  | _ => false
def isBl : D → Bool
  | .bl _ => true
  | _ => false
theorem ev_isTup (h : m env st = .ok (.p d) st) : mIsi "tuple" m env st = .ok (yes (isTup d)) st := by
  unfold mIsi
  rw [h]
  cases d <;> rfl
theorem ev_isStr (h : m env st = .ok (.p d) st) : mIsi "str" m env st = .ok (yes (isStr d)) st := by
  unfold mIsi
  rw [h]
  cases d <;> rfl
theorem ev_isNum (h : m env st = .ok (.p d) st) : mIsi "int" m env st = .ok (yes (isNum d)) st := by
  unfold mIsi
  rw [h]
  cases d <;> rfl
theorem ev_isBl (h : m env st = .ok (.p d) st) : mIsi "bool" m env st = .ok (yes (isBl d)) st := by
  unfold mIsi
  rw [h]
  cases d <;> rfl
theorem ev_if (ht : t env st = .ok b st) (h1 : b = true → ma env st = r) (h2 : b = false → mb env st = r) : mIf t ma mb env st = r := by
  unfold mIf
  rw [ht]
  simp only [R.bind]
  cases b with
  | true => exact h1 rfl
  | false => exact h2 rfl
theorem ev_tup {ds : List D} (ha : am env st = .ok (ds.map .p) st) (hl : ds.length ≤ 1000) : mTup am env st = .ok (.p (.tup ds)) st := by
  unfold mTup
  rw [ha]
  simp only [R.bind, newTup, pureL_map]
  rw [if_pos (Nat.le_trans hl (by rw [sizeLine_eq]; omega))]
  rfl
theorem ev_lst {ds : List D} (ha : am env st = .ok (ds.map .p) st) (hl : ds.length ≤ 1000) : mLst false am env st = .ok (.p (.lst ds)) st := by
  unfold mLst
  rw [ha]
  simp only [R.bind, newLst, pureL_map]
  rw [if_pos (Nat.le_trans hl (by rw [sizeLine_eq]; omega))]
  rfl
theorem et_val (h : m env st = .ok (yes b) st) : tVal m env st = .ok b st := by
  unfold tVal
  rw [h]
  rfl
theorem et_truth (h : m env st = .ok (yes b) st) : tTruth m env st = .ok b st := by
  unfold tTruth
  rw [h]
  rfl
theorem et_not (h : t env st = .ok b st) : tNotM t env st = .ok (!b) st := by
  unfold tNotM
  rw [h]
  rfl
theorem et_and (h1 : t env st = .ok a st) (h2 : a = true → u env st = .ok b st) : tAndM t u env st = .ok (a && b) st := by
  unfold tAndM
  rw [h1]
  cases a with
  | true => exact h2 rfl
  | false => rfl
theorem et_or (h1 : t env st = .ok a st) (h2 : a = false → u env st = .ok b st) : tOrM t u env st = .ok (a || b) st := by
  unfold tOrM
  rw [h1]
  cases a with
  | false => exact h2 rfl
  | true => rfl
theorem et_orT (h1 : t env st = .ok true st) : tOrM t u env st = .ok true st := by
  unfold tOrM
  rw [h1]
  rfl
theorem et_orF (h1 : t env st = .ok false st) (h2 : u env st = .ok b st) : tOrM t u env st = .ok b st := by
  unfold tOrM
  rw [h1]
  exact h2
theorem et_andF (h1 : t env st = .ok false st) : tAndM t u env st = .ok false st := by
  unfold tAndM
  rw [h1]
  rfl
theorem et_andT (h1 : t env st = .ok true st) (h2 : u env st = .ok b st) : tAndM t u env st = .ok b st := by
  unfold tAndM
  rw [h1]
  exact h2
/-- if t: return a constant; then the rest -/
theorem es_guard (hn : st.length = n0) (ht : t env st = .ok b st) (h : b = false → k env st = sr) : sSeq (sIf t (sSeq (sRet n0 (mD d)) sNil) sNil) k env st = bif b then .rt (.p d) st else sr := by
  unfold sSeq sIf
  rw [ht]
  simp only [R.then]
  cases b with
  | true =>
    simp only [sSeq, sRet, hn, if_true, sRetK, mD, R.then, cond_true]
  | false =>
    simp only [sNil, cond_false]
    exact h rfl
/-- the guard is passed, is not -/
theorem es_out (hn : st.length = n0) (ht : t env st = .ok true st) : sSeq (sIf t (sSeq (sRet n0 (mD d)) sNil) sNil) k env st = .rt (.p d) st := (es_guard (b := true) (sr := .fail) hn ht fun z => nomatch z).trans rfl
theorem es_in (hn : st.length = n0) (ht : t env st = .ok false st) : sSeq (sIf t (sSeq (sRet n0 (mD d)) sNil) sNil) k env st = k env st := (es_guard (b := false) hn ht fun _ => rfl).trans rfl
theorem es_ret (hn : st.length = n0) (hm : m env st = .ok v st') : sSeq (sRet n0 m) sNil env st = .rt v st' := by
  simp only [sSeq, sRet, hn, if_true, sRetK, hm, R.then]
theorem es_asg {gm : GM} (hm : m env st = .ok v st') (hg : gm v env = some env') (hk : k env' st' = sr) : sSeq (sAsg m gm) k env st = sr := by
  unfold sSeq sAsg
  rw [hm]
  simp only [R.then]
  rw [hg]
  exact hk
theorem es_if {m1 m2 : SM} (ht : t env st = .ok b st) (h1 : b = true → m1 env st = sr) (h2 : b = false → m2 env st = sr) : sIf t m1 m2 env st = sr := by
  unfold sIf
  rw [ht]
  simp only [R.then]
  cases b with
  | true => exact h1 rfl
  | false => exact h2 rfl
theorem a_nil : aNil env st = .ok [] st := rfl
theorem a_cons (h : m env st = .ok x st) (hs : am env st = .ok xs st) : aCons m am env st = .ok (x :: xs) st := by
  unfold aCons
  rw [h]
  simp only [R.bind]
  rw [hs]
theorem a1 (h : m env st = .ok x st) : aCons m aNil env st = .ok [x] st := a_cons h rfl
theorem a2 (h : ma env st = .ok x st) (h2 : mb env st = .ok y st) : aCons ma (aCons mb aNil) env st = .ok [x, y] st := a_cons h (a1 h2)
theorem a3 (h : ma env st = .ok x st) (h2 : mb env st = .ok y st) (h3 : mc env st = .ok z st) : aCons ma (aCons mb (aCons mc aNil)) env st = .ok [x, y, z] st := a_cons h (a2 h2 h3)
/-- a def's answer -/
theorem f_rt {k0 : Nat} {B : Nat → SM} (h : B st.length (xs.map some ++ List.replicate (k0 - xs.length) none) st = .rt v st') : bodyF k0 B xs st = .ok v st' := body_rt h
theorem f_gd {k0 : Nat} {B : Nat → SM} (h : B st.length (xs.map some ++ List.replicate (k0 - xs.length) none) st = bif b then .rt (.p d) st else .rt v st) : bodyF k0 B xs st = .ok (bif b then .p d else v) st := by
  cases b with
  | true => exact body_rt h
  | false => exact body_rt h
/-- all([.. for .. in ..]) -/
theorem ev_all {ow : List Nat} {mi : IM} {gm : GM} {src : Option Nat} {ds : List D} (p : D → Bool) (hi : mi env st = .ok (ds.map .p, src) st) (hw : watch st src (ds.map .p) = true) (hl : ds.length ≤ 100000)
    (h : ∀ d ∈ ds, ∃ env1, gm (.p d) (wipeE env ow) = some env1 ∧ m env1 st = .ok (yes (p d)) st) : mCall (fAll false) (aCons (mComp false ow mi gm tmYes m) aNil) env st = .ok (yes (ds.all p)) st := by
  have e := comp_D (fun _ => true) (fun d => .bl (p d)) hi hw (Nat.le_trans hl (by rw [sizeLine_eq]; omega)) (mt := tmYes) (me := m) (gm := gm) (ow := ow) fun d hd => by
    obtain ⟨env1, h1, h2⟩ := h d hd
    exact ⟨env1, h1, rfl, fun _ => h2⟩
  refine ev_call (a1 e) ?_
  rw [filter_yes]
  exact all_bl ds p
/-- [1 for .. in .. if ..] == [] -/
theorem ev_none {neg : Bool} {ow : List Nat} {mi : IM} {gm : GM} {src : Option Nat} {ds : List D} {i : Int} (p : D → Bool) (hi : mi env st = .ok (ds.map .p, src) st) (hw : watch st src (ds.map .p) = true) (hl : ds.length ≤ 100000)
    (h : ∀ d ∈ ds, ∃ env1, gm (.p d) (wipeE env ow) = some env1 ∧ t env1 st = .ok (p d) st) : m2 (fEq neg) (mComp false ow mi gm t (mD (.int i))) (mLst false aNil) env st = .ok (yes (if neg then ds.any p else !ds.any p)) st := by
  have e := comp_D p (fun _ => .int i) hi hw (Nat.le_trans hl (by rw [sizeLine_eq]; omega)) (mt := t) (me := mD (.int i)) (gm := gm) (ow := ow) fun d hd => by
    obtain ⟨env1, h1, h2⟩ := h d hd
    exact ⟨env1, h1, h2, fun _ => rfl⟩
  refine ev_2 e (ev_lst (ds := []) rfl (by simp)) ?_
  have hd : noDctL ((ds.filter p).map fun _ => D.int i) = true := by
    induction ds.filter p with
    | nil => rfl
    | cons x xs ih => simp [noDctL, noDct, ih]
  rw [eq_nil hd]
  have e2 : ((ds.filter p).map fun _ => D.int i).isEmpty = !ds.any p := by
    clear e hd h hl hw hi
    induction ds with
    | nil => rfl
    | cons x xs ih =>
      by_cases q : p x = true
      · simp [q]
      · simpa [q] using ih
  rw [e2]
  cases neg <;> simp
end
end Sl
namespace Sl
open PySem PySem.Spec PyProof.Rows L2
/-! ### dicts of data -/
theorem zip_map (k : DK) (d : D) : ∀ (ks : List DK) (ds : List D), List.zipWith (fun k' x => if k' = k then Val.p d else x) ks (ds.map .p) = (List.zipWith (fun k' x => if k' = k then d else x) ks ds).map .p
  | [], ds => by simp
  | a :: ks, [] => by simp
  | a :: ks, b :: ds => by
    simp only [List.map_cons, List.zipWith_cons_cons, zip_map k d ks ds]
    split <;> rfl
theorem dput_map (k : DK) (d : D) (ks : List DK) (ds : List D) : dput k (Val.p d) ks (ds.map .p) = ((dput k d ks ds).1, (dput k d ks ds).2.map .p) := by
  unfold dput
  split
  · simp only [zip_map]
  · simp
def mergeDD : List (DK × D) → List DK → List D → List DK × List D
  | [], ks, ds => (ks, ds)
  | (k, d) :: ps, ks, ds => mergeDD ps (dput k d ks ds).1 (dput k d ks ds).2
theorem mergeD_map : ∀ (ps : List (DK × D)) (ks : List DK) (ds : List D), mergeD ps ks (ds.map .p) = ((mergeDD ps ks ds).1, (mergeDD ps ks ds).2.map .p)
  | [], ks, ds => rfl
  | (k, d) :: ps, ks, ds => by
    unfold mergeD mergeDD
    rw [dput_map]
    exact mergeD_map ps _ _
theorem dput_lens {α : Type} {k : DK} {v : α} {ks : List DK} {vs : List α} (h : ks.length = vs.length) : (dput k v ks vs).1.length = (dput k v ks vs).2.length := by
  unfold dput
  split
  · simp [h]
  · simp [h]
theorem zip_all {α : Type} {S : α → Prop} {k : DK} {v : α} (hv : S v) : ∀ {ks : List DK} {vs : List α}, (∀ x ∈ vs, S x) → ∀ x ∈ List.zipWith (fun k' x => if k' = k then v else x) ks vs, S x
  | [], vs, _, x, hx => by simp at hx
  | a :: ks, [], _, x, hx => by simp at hx
  | a :: ks, b :: vs, h, x, hx => by
    simp only [List.zipWith_cons_cons, List.mem_cons] at hx
    rcases hx with rfl | hx
    · split
      · exact hv
      · exact h b (List.mem_cons_self ..)
    · exact zip_all hv (fun y hy => h y (List.mem_cons_of_mem _ hy)) x hx
theorem dput_all {α : Type} {S : α → Prop} {k : DK} {v : α} {ks : List DK} {vs : List α} (hv : S v) (h : ∀ x ∈ vs, S x) : ∀ x ∈ (dput k v ks vs).2, S x := by
  unfold dput
  split
  · exact zip_all hv h
  · intro x hx
    simp only [List.mem_append, List.mem_singleton] at hx
    rcases hx with hx | rfl
    · exact h x hx
    · exact hv
theorem mergeDD_ok {S : D → Prop} : ∀ (ps : List (DK × D)) (ks : List DK) (ds : List D), ks.length = ds.length → (∀ d ∈ ds, S d) → (∀ p ∈ ps, S p.2) → (mergeDD ps ks ds).1.length = (mergeDD ps ks ds).2.length ∧ ∀ d ∈ (mergeDD ps ks ds).2, S d
  | [], ks, ds, h, hs, _ => ⟨h, hs⟩
  | (k, d) :: ps, ks, ds, h, hs, hp => by
    unfold mergeDD
    exact mergeDD_ok ps _ _ (dput_lens h) (dput_all (hp (k, d) (List.mem_cons_self ..)) hs) fun p hp2 => hp p (List.mem_cons_of_mem _ hp2)
theorem dfind_has {α : Type} {S : α → Prop} {k : DK} : ∀ {ks : List DK} {vs : List α}, ks.length = vs.length → (∀ x ∈ vs, S x) → hasK k ks = true → ∃ x, dfind k ks vs = some x ∧ S x
  | [], _, _, _, h => by cases h
  | a :: ks, [], h, _, _ => by cases h
  | a :: ks, b :: vs, hl, hs, h => by
    unfold dfind
    by_cases q : a = k
    · rw [if_pos q]
      exact ⟨b, rfl, hs b (List.mem_cons_self ..)⟩
    · rw [if_neg q]
      refine dfind_has (by simpa using hl) (fun x hx => hs x (List.mem_cons_of_mem _ hx)) ?_
      simpa [hasK, q] using h
theorem dfind_map {α β : Type} (f : α → β) (k : DK) : ∀ (ks : List DK) (vs : List α), dfind k ks (vs.map f) = (dfind k ks vs).map f
  | [], vs => by cases vs <;> rfl
  | a :: ks, [] => rfl
  | a :: ks, b :: vs => by
    simp only [List.map_cons, dfind]
    split
    · rfl
    · exact dfind_map f k ks vs
theorem dcGo_pure {src : Option Nat} {all : List Val} {gm : GM} {mk me : EM} {env : Slots} {st : Sto} (key : D → DK) (kv val : D → D) (hw : watch st src all = true) : ∀ {rest : List D} {ks : List DK} {vs : List Val}, ks.length + rest.length ≤ 100000 →
    (∀ d ∈ rest, ∃ env1, gm (.p d) env = some env1 ∧ mk env1 st = .ok (.p (kv d)) st ∧ keyOf (.p (kv d)) = some (key d) ∧ me env1 st = .ok (.p (val d)) st) →
    dcGo src all gm tmYes mk me env (rest.map .p) ks vs st = .ok (mergeD (rest.map fun d => (key d, val d)) ks vs) st
  | [], ks, vs, _, _ => by
    simp only [List.map_nil, dcGo, hw, if_true, mergeD]
  | d :: rest, ks, vs, hl, h => by
    obtain ⟨env1, h1, h2, h3, h4⟩ := h d (List.mem_cons_self ..)
    have hs : ks.length < sizeLine := by
      rw [sizeLine_eq]
      simp only [List.length_cons] at hl
      omega
    have hd : (dput (key d) (Val.p (val d)) ks vs).1.length ≤ ks.length + 1 := dput_len
    simp only [List.map_cons, dcGo, hw, if_true, h1, tmYes, R.bind, h2, h4, h3, hs, mergeD]
    exact dcGo_pure key kv val hw (by simp only [List.length_cons] at hl; omega) fun e he => h e (List.mem_cons_of_mem _ he)
/-- {k: v for .. in ..} -/
theorem dcomp_D {ow : List Nat} {mi : IM} {gm : GM} {mk me : EM} {env : Slots} {st : Sto} {src : Option Nat} {ds : List D} (key : D → DK) (kv val : D → D) (hi : mi env st = .ok (ds.map .p, src) st) (hw : watch st src (ds.map .p) = true) (hl : ds.length ≤ 1000)
    (h : ∀ d ∈ ds, ∃ env1, gm (.p d) (wipeE env ow) = some env1 ∧ mk env1 st = .ok (.p (kv d)) st ∧ keyOf (.p (kv d)) = some (key d) ∧ me env1 st = .ok (.p (val d)) st) :
    mDComp false ow mi gm tmYes mk me env st = .ok (.p (.dct (mergeDD (ds.map fun d => (key d, val d)) [] []).1 (mergeDD (ds.map fun d => (key d, val d)) [] []).2)) st := by
  have e := dcGo_pure (src := src) (all := ds.map .p) (gm := gm) (mk := mk) (me := me) (env := wipeE env ow) key kv val hw (rest := ds) (ks := []) (vs := ([] : List D).map .p) (by simp; omega) h
  unfold mDComp
  rw [hi]
  simp only [R.bind]
  rw [show ([] : List Val) = ([] : List D).map .p from rfl, e, mergeD_map]
  simp only [R.noExc, newDct, pureL_map]
  rfl
theorem pairsOf_ok (key : D → DK) (kv val : D → D) : ∀ {ds : List D}, (∀ d ∈ ds, keyOf (.p (kv d)) = some (key d)) → pairsOf (ds.map fun d => .tup [kv d, val d]) = some (ds.map fun d => (key d, val d))
  | [], _ => rfl
  | d :: ds, h => by
    simp only [List.map_cons, pairsOf]
    rw [h d (List.mem_cons_self ..), pairsOf_ok key kv val fun e he => h e (List.mem_cons_of_mem _ he)]
/-- dict([(k, v) ..]) -/
theorem fDict_D {st : Sto} {ds : List D} (key : D → DK) (kv val : D → D) (h : ∀ d ∈ ds, keyOf (.p (kv d)) = some (key d)) : fDict false [.p (.lst (ds.map fun d => .tup [kv d, val d]))] st = some (.p (.dct (mergeDD (ds.map fun d => (key d, val d)) [] []).1 (mergeDD (ds.map fun d => (key d, val d)) [] []).2), st) := by
  simp only [fDict, viewL, pureL_map, pairsOf_ok key kv val h, newDct]
  rw [show ([] : List Val) = ([] : List D).map .p from rfl, mergeD_map]
  simp only [pureL_map]
theorem in_dct {neg : Bool} {t : T} {ks : List DK} {ds : List D} {st : Sto} : fInX neg (.p (.str t)) (.p (.dct ks ds)) st = some (yes (if neg then !hasK (.inr t) ks else hasK (.inr t) ks), st) := by
  simp [fInX, fInD, viewK, keyOf]
theorem ix_dct {t : T} {ks : List DK} {ds : List D} {d : D} {st : Sto} (h : dfind (.inr t) ks ds = some d) : fIx (.p (.dct ks ds)) (.p (.str t)) st = some (.p d, st) := by
  simp [fIx, fIxO, viewL, viewK, keyOf, dfind_map, h]
end Sl
namespace Sl
open PySem PySem.Spec PyProof.Rows L2
section
variable {ma mb mc m : EM} {am : AM} {t u : TM} {env env' : Slots} {st st' st1 st2 st3 : Sto} {a b : Bool} {x y z v : Val} {xs : List Val} {d : D} {r : R Val} {sr : SR} {k : SM} {n0 n : Nat}
/-! the same where the store moves on -/
theorem sv_2 {f : F2} (hx : ma env st = .ok x st1) (hy : mb env st1 = .ok y st2) (h : f x y st2 = some (v, st3)) : m2 f ma mb env st = .ok v st3 := by
  unfold m2
  rw [hx]
  simp only [R.bind]
  rw [hy]
  simp only [R.bind]
  rw [h]
  rfl
theorem sa (h : m env st = .ok x st1) (hs : am env st1 = .ok xs st2) : aCons m am env st = .ok (x :: xs) st2 := by
  unfold aCons
  rw [h]
  simp only [R.bind]
  rw [hs]
theorem sv_tup {ds : List D} (ha : am env st = .ok (ds.map .p) st1) (hl : ds.length ≤ 1000) : mTup am env st = .ok (.p (.tup ds)) st1 := by
  unfold mTup
  rw [ha]
  simp only [R.bind, newTup, pureL_map]
  rw [if_pos (Nat.le_trans hl (by rw [sizeLine_eq]; omega))]
  rfl
theorem sv_lst {ds : List D} (ha : am env st = .ok (ds.map .p) st1) (hl : ds.length ≤ 1000) : mLst false am env st = .ok (.p (.lst ds)) st1 := by
  unfold mLst
  rw [ha]
  simp only [R.bind, newLst, pureL_map]
  rw [if_pos (Nat.le_trans hl (by rw [sizeLine_eq]; omega))]
  rfl
theorem sv_app {F : FS} (ha : am env st = .ok xs st1) (hl : xs.length = n) (h : F xs st1 = r) : mApp n F am env st = r := by
  unfold mApp
  rw [ha]
  simp only [R.bind]
  rw [if_pos hl]
  exact h
theorem sv_call {f : FL} (ha : am env st = .ok xs st1) (h : f xs st1 = some (v, st2)) : mCall f am env st = .ok v st2 := by
  unfold mCall
  rw [ha]
  simp only [R.bind]
  rw [h]
  rfl
theorem st_val (h : m env st = .ok (yes b) st1) : tVal m env st = .ok b st1 := by
  unfold tVal
  rw [h]
  rfl
theorem st_truth (h : m env st = .ok (yes b) st1) : tTruth m env st = .ok b st1 := by
  unfold tTruth
  rw [h]
  rfl
theorem st_not (h : t env st = .ok b st1) : tNotM t env st = .ok (!b) st1 := by
  unfold tNotM
  rw [h]
  rfl
theorem st_orF (h1 : t env st = .ok false st1) (h2 : u env st1 = .ok b st2) : tOrM t u env st = .ok b st2 := by
  unfold tOrM
  rw [h1]
  exact h2
theorem st_andT (h1 : t env st = .ok true st1) (h2 : u env st1 = .ok b st2) : tAndM t u env st = .ok b st2 := by
  unfold tAndM
  rw [h1]
  exact h2
theorem sv_if (ht : t env st = .ok b st1) (h1 : b = true → ma env st1 = r) (h2 : b = false → mb env st1 = r) : mIf t ma mb env st = r := by
  unfold mIf
  rw [ht]
  simp only [R.bind]
  cases b with
  | true => exact h1 rfl
  | false => exact h2 rfl
theorem ss_if {m1 m2 : SM} (ht : t env st = .ok b st1) (h1 : b = true → m1 env st1 = sr) (h2 : b = false → m2 env st1 = sr) : sIf t m1 m2 env st = sr := by
  unfold sIf
  rw [ht]
  simp only [R.then]
  cases b with
  | true => exact h1 rfl
  | false => exact h2 rfl
/-- the guard is not passed -/
theorem ss_in (ht : t env st = .ok false st1) : sSeq (sIf t (sSeq (sRet n0 m) sNil) sNil) k env st = k env st1 := by
  unfold sSeq sIf
  rw [ht]
  rfl
/-- passed: what follows is returned -/
theorem ss_out (hn : st.length = n0) (ht : t env st = .ok true st1) (hn1 : st1.length = n0) (h : m env st1 = .ok v st2) : sSeq (sIf t (sSeq (sRet n0 m) sNil) sNil) k env st = .rt v st2 := by
  unfold sSeq sIf
  rw [ht]
  simp only [R.then, sSeq, sRet, hn1, if_true, sRetK, h]
end
end Sl
namespace Sl
open PySem PySem.Spec PyProof.Rows L2
theorem inW_small {z : Int} (h1 : -1000000 < z) (h2 : z < 1000000) : inW z = true := by
  have e : (2 : Int) ^ 62 = 4611686018427387904 := by decide
  simp only [inW, Bool.and_eq_true, decide_eq_true_eq, e]
  omega
theorem srngZ {am : AM} {env : Slots} {st st1 : Sto} {z : Int} (h : am env st = .ok [.p (.int z)] st1) (hw : inW z = true) : mRng1 am env st = .ok (rngItems 0 z.toNat, none) st1 := by
  unfold mRng1
  rw [h]
  simp only [R.bind, hw, if_true]
/-- range(..), where the store moves on (never by the walls of a number that is not known: the kernel counts them out) -/
theorem srng1 {am : AM} {env : Slots} {st st1 : Sto} {n : Nat} (h : am env st = .ok [.p (.int n)] st1) (hn : n < 1000000) : mRng1 am env st = .ok (rngItems 0 n, none) st1 := by
  have e := srngZ h (inW_small (by omega) (by omega))
  rw [Int.toNat_natCast] at e
  exact e
end Sl
namespace Sl
/-- an if without else, not taken, taken with a return -/
theorem ss_no {t : TM} {a k : SM} {env : Slots} {st st1 : Sto} (ht : t env st = .ok false st1) : sSeq (sIf t a sNil) k env st = k env st1 := by
  unfold sSeq sIf
  rw [ht]
  rfl
theorem ss_yes {t : TM} {a k : SM} {env : Slots} {st st1 st2 : Sto} {v : Val} (ht : t env st = .ok true st1) (h : a env st1 = .rt v st2) : sSeq (sIf t a sNil) k env st = .rt v st2 := by
  unfold sSeq sIf
  rw [ht]
  simp only [R.then]
  rw [h]
end Sl
end
section
set_option Elab.async false
set_option linter.all false
set_option maxRecDepth 100000
set_option maxHeartbeats 0
namespace K02
open PySem PySem.Spec L2 Sl PyProof.Rows
def top (i : Nat) : Stmt := PySem.Challenge.pw_slopelands_k02_row_things.main.body.getD i (.Pass ⟨0, 0, 0, 0⟩)
def c_LETTERS : D := (D.str ['a', 'b', 'c', 'd', 'e', 'f', 'g', 'h', 'i', 'j', 'k', 'l', 'm', 'n', 'o', 'p', 'q', 'r', 's', 't', 'u', 'v', 'w', 'x', 'y', 'z'])
def c_DIGITS : D := (D.str ['0', '1', '2', '3', '4', '5', '6', '7', '8', '9'])
def c_MOST_SIGNS : D := (D.int 10)
def c_MOST_NAMES : D := (D.int 8)
def c_MOST_ROWS : D := (D.int 20)
def c_MOST_NUMBER : D := (D.int 99)
def c_MOST_BOUND : D := (D.int 9999)
def c_KINDS : D := (D.tup [(D.str ['m', 'o', 's', 't']), (D.str ['j', 'u', 's', 't'])])
/-- what is known of the module -/
structure Fx (K : Frag) (mg : Str → Option Value) : Prop where
  g_abs : mg "abs" = none
  g_all : mg "all" = none
  g_bool : mg "bool" = none
  g_dict : mg "dict" = none
  g_gcd : mg "gcd" = some (.builtin "math.gcd")
  g_int : mg "int" = none
  g_isinstance : mg "isinstance" = none
  g_len : mg "len" = none
  g_list : mg "list" = none
  g_range : mg "range" = none
  g_sorted : mg "sorted" = none
  g_str : mg "str" = none
  g_tuple : mg "tuple" = none
  v_LETTERS : Gv mg K "LETTERS" c_LETTERS
  v_DIGITS : Gv mg K "DIGITS" c_DIGITS
  v_MOST_SIGNS : Gv mg K "MOST_SIGNS" c_MOST_SIGNS
  v_MOST_NAMES : Gv mg K "MOST_NAMES" c_MOST_NAMES
  v_MOST_ROWS : Gv mg K "MOST_ROWS" c_MOST_ROWS
  v_MOST_NUMBER : Gv mg K "MOST_NUMBER" c_MOST_NUMBER
  v_MOST_BOUND : Gv mg K "MOST_BOUND" c_MOST_BOUND
  v_KINDS : Gv mg K "KINDS" c_KINDS
  d_is_whole : ∃ f fd, FunD K "is_whole" "is_whole" (defArgs (top 5)) (defBody (top 5)) (defScope (top 5)) [] [] f fd ∧ mg "is_whole" = some (.ref f)
  d_is_between : ∃ f fd, FunD K "is_between" "is_between" (defArgs (top 6)) (defBody (top 6)) (defScope (top 6)) [] [] f fd ∧ mg "is_between" = some (.ref f)
  d__has_only : ∃ f fd, FunD K "_has_only" "_has_only" (defArgs (top 7)) (defBody (top 7)) (defScope (top 7)) [] [] f fd ∧ mg "_has_only" = some (.ref f)
  d_is_name : ∃ f fd, FunD K "is_name" "is_name" (defArgs (top 8)) (defBody (top 8)) (defScope (top 8)) [] [] f fd ∧ mg "is_name" = some (.ref f)
  d_is_fraction : ∃ f fd, FunD K "is_fraction" "is_fraction" (defArgs (top 9)) (defBody (top 9)) (defScope (top 9)) [] [] f fd ∧ mg "is_fraction" = some (.ref f)
  d_is_ascending : ∃ f fd, FunD K "is_ascending" "is_ascending" (defArgs (top 16)) (defBody (top 16)) (defScope (top 16)) [] [] f fd ∧ mg "is_ascending" = some (.ref f)
  d_is_pair : ∃ f fd, FunD K "is_pair" "is_pair" (defArgs (top 17)) (defBody (top 17)) (defScope (top 17)) [] [] f fd ∧ mg "is_pair" = some (.ref f)
  d_is_names : ∃ f fd, FunD K "is_names" "is_names" (defArgs (top 18)) (defBody (top 18)) (defScope (top 18)) [] [] f fd ∧ mg "is_names" = some (.ref f)
  d_is_any_terms : ∃ f fd, FunD K "is_any_terms" "is_any_terms" (defArgs (top 19)) (defBody (top 19)) (defScope (top 19)) [] [] f fd ∧ mg "is_any_terms" = some (.ref f)
  d_is_terms : ∃ f fd, FunD K "is_terms" "is_terms" (defArgs (top 20)) (defBody (top 20)) (defScope (top 20)) [] [] f fd ∧ mg "is_terms" = some (.ref f)
  d__is_row : ∃ f fd, FunD K "_is_row" "_is_row" (defArgs (top 21)) (defBody (top 21)) (defScope (top 21)) [] [] f fd ∧ mg "_is_row" = some (.ref f)
  d_is_rows : ∃ f fd, FunD K "is_rows" "is_rows" (defArgs (top 22)) (defBody (top 22)) (defScope (top 22)) [] [] f fd ∧ mg "is_rows" = some (.ref f)
  d_is_shares : ∃ f fd, FunD K "is_shares" "is_shares" (defArgs (top 23)) (defBody (top 23)) (defScope (top 23)) [] [] f fd ∧ mg "is_shares" = some (.ref f)
  d_is_point : ∃ f fd, FunD K "is_point" "is_point" (defArgs (top 24)) (defBody (top 24)) (defScope (top 24)) [] [] f fd ∧ mg "is_point" = some (.ref f)
  d_is_factors : ∃ f fd, FunD K "is_factors" "is_factors" (defArgs (top 25)) (defBody (top 25)) (defScope (top 25)) [] [] f fd ∧ mg "is_factors" = some (.ref f)
  d__law_cell : ∃ f fd, FunD K "_law_cell" "_law_cell" (defArgs (top 27)) (defBody (top 27)) (defScope (top 27)) [] [] f fd ∧ mg "_law_cell" = some (.ref f)
  d__law_digits : ∃ f fd, FunD K "_law_digits" "_law_digits" (defArgs (top 28)) (defBody (top 28)) (defScope (top 28)) [] [] f fd ∧ mg "_law_digits" = some (.ref f)
  d__law_draw : ∃ f fd, FunD K "_law_draw" "_law_draw" (defArgs (top 29)) (defBody (top 29)) (defScope (top 29)) [] [] f fd ∧ mg "_law_draw" = some (.ref f)
  d__law_like : ∃ f fd, FunD K "_law_like" "_law_like" (defArgs (top 30)) (defBody (top 30)) (defScope (top 30)) [] [] f fd ∧ mg "_law_like" = some (.ref f)
  d__law_is_name : ∃ f fd, FunD K "_law_is_name" "_law_is_name" (defArgs (top 31)) (defBody (top 31)) (defScope (top 31)) [] [] f fd ∧ mg "_law_is_name" = some (.ref f)
  d__law_whole : ∃ f fd, FunD K "_law_whole" "_law_whole" (defArgs (top 32)) (defBody (top 32)) (defScope (top 32)) [] [] f fd ∧ mg "_law_whole" = some (.ref f)
  d__law_named : ∃ f fd, FunD K "_law_named" "_law_named" (defArgs (top 33)) (defBody (top 33)) (defScope (top 33)) [] [] f fd ∧ mg "_law_named" = some (.ref f)
  d__law_ascending : ∃ f fd, FunD K "_law_ascending" "_law_ascending" (defArgs (top 34)) (defBody (top 34)) (defScope (top 34)) [] [] f fd ∧ mg "_law_ascending" = some (.ref f)
  d__law_low : ∃ f fd, FunD K "_law_low" "_law_low" (defArgs (top 35)) (defBody (top 35)) (defScope (top 35)) [] [] f fd ∧ mg "_law_low" = some (.ref f)
  d__law_is_fraction : ∃ f fd, FunD K "_law_is_fraction" "_law_is_fraction" (defArgs (top 36)) (defBody (top 36)) (defScope (top 36)) [] [] f fd ∧ mg "_law_is_fraction" = some (.ref f)
  d__law_scaled : ∃ f fd, FunD K "_law_scaled" "_law_scaled" (defArgs (top 37)) (defBody (top 37)) (defScope (top 37)) [] [] f fd ∧ mg "_law_scaled" = some (.ref f)
  d__law_terms : ∃ f fd, FunD K "_law_terms" "_law_terms" (defArgs (top 38)) (defBody (top 38)) (defScope (top 38)) [] [] f fd ∧ mg "_law_terms" = some (.ref f)
  d__law_rows : ∃ f fd, FunD K "_law_rows" "_law_rows" (defArgs (top 39)) (defBody (top 39)) (defScope (top 39)) [] [] f fd ∧ mg "_law_rows" = some (.ref f)
  d__law_is_terms : ∃ f fd, FunD K "_law_is_terms" "_law_is_terms" (defArgs (top 40)) (defBody (top 40)) (defScope (top 40)) [] [] f fd ∧ mg "_law_is_terms" = some (.ref f)
  d__law_is_rows : ∃ f fd, FunD K "_law_is_rows" "_law_is_rows" (defArgs (top 41)) (defBody (top 41)) (defScope (top 41)) [] [] f fd ∧ mg "_law_is_rows" = some (.ref f)
  d__law_fractions : ∃ f fd, FunD K "_law_fractions" "_law_fractions" (defArgs (top 42)) (defBody (top 42)) (defScope (top 42)) [] [] f fd ∧ mg "_law_fractions" = some (.ref f)
  d__law_is_point : ∃ f fd, FunD K "_law_is_point" "_law_is_point" (defArgs (top 43)) (defBody (top 43)) (defScope (top 43)) [] [] f fd ∧ mg "_law_is_point" = some (.ref f)
  d__law_is_factors : ∃ f fd, FunD K "_law_is_factors" "_law_is_factors" (defArgs (top 44)) (defBody (top 44)) (defScope (top 44)) [] [] f fd ∧ mg "_law_is_factors" = some (.ref f)
  d__law_drawn_point : ∃ f fd, FunD K "_law_drawn_point" "_law_drawn_point" (defArgs (top 45)) (defBody (top 45)) (defScope (top 45)) [] [] f fd ∧ mg "_law_drawn_point" = some (.ref f)
  d__law_other : ∃ f fd, FunD K "_law_other" "_law_other" (defArgs (top 46)) (defBody (top 46)) (defScope (top 46)) [] [] f fd ∧ mg "_law_other" = some (.ref f)
  d__law_changed : ∃ f fd, FunD K "_law_changed" "_law_changed" (defArgs (top 47)) (defBody (top 47)) (defScope (top 47)) [] [] f fd ∧ mg "_law_changed" = some (.ref f)
  d_law : ∃ f fd, FunD K "law" "law" (defArgs (top 48)) (defBody (top 48)) (defScope (top 48)) [] [] f fd ∧ mg "law" = some (.ref f)
/-! is_whole -/
abbrev s_is_whole : Stmt := top 5
abbrev N_is_whole : List Str := ["thing"]
theorem nd_is_whole : N_is_whole.Nodup := by decide +kernel
theorem sc_is_whole : FnScope N_is_whole ["thing"] (defScope s_is_whole) := ⟨rfl, rfl, rfl, nd_is_whole, rfl, by decide +kernel, by decide +kernel⟩
noncomputable def B_is_whole (n0 : Nat) : SM := (sSeq (sRet n0 (mAndV (mIsi "int" (mVar 0)) (mNotV (mIsi "bool" (mVar 0))))) sNil)
noncomputable def F_is_whole : FS := bodyF 1 B_is_whole
theorem ok_is_whole {P : Program} {w : World} {K : Frag} {mg : Str → Option Value} {base : Heap} {cls : Str → Option Addr} (c : Fx K mg) : Def P w K mg base cls "is_whole" 1 1 F_is_whole := by
  obtain ⟨f, fd, F, gm⟩ := c.d_is_whole
  exact def_ok F gm (fun _ _ _ _ _ _ us hl => match us, hl with | [_], _ => rfl) sc_is_whole rfl rfl fun xs hid cdv A outer s H E n0 hr => (dss_cons (ds_ret (de_and (de_isB rfl c.g_isinstance c.g_int bt_int (de_v 0 (by kernel_rfl)) (by kernel_rfl)) (de_one (de_not (de_isB rfl c.g_isinstance c.g_bool bt_bool (de_v 0 (by kernel_rfl)) (by kernel_rfl)))))) dss_nil)
/-! is_between -/
abbrev s_is_between : Stmt := top 6
abbrev N_is_between : List Str := ["thing", "least", "most"]
theorem nd_is_between : N_is_between.Nodup := by decide +kernel
theorem sc_is_between : FnScope N_is_between ["thing", "least", "most"] (defScope s_is_between) := ⟨rfl, rfl, rfl, nd_is_between, rfl, by decide +kernel, by decide +kernel⟩
noncomputable def B_is_between (n0 : Nat) : SM := (sSeq (sRet n0 (mAndV (mApp 1 F_is_whole (aCons (mVar 0) aNil)) (mChain fLe fLe (mVar 1) (mVar 0) (mVar 2)))) sNil)
noncomputable def F_is_between : FS := bodyF 3 B_is_between
theorem ok_is_between {P : Program} {w : World} {K : Frag} {mg : Str → Option Value} {base : Heap} {cls : Str → Option Addr} (c : Fx K mg) : Def P w K mg base cls "is_between" 3 2 F_is_between := by
  obtain ⟨f, fd, F, gm⟩ := c.d_is_between
  exact def_ok F gm (fun _ _ _ _ _ _ us hl => match us, hl with | [_, _, _], _ => rfl) sc_is_between rfl rfl fun xs hid cdv A outer s H E n0 hr => (dss_cons (ds_ret (de_and (de_cD (ok_is_whole c) rfl rfl hr (by decide) (FC.tk _ _ _ _) (da_c (de_v 0 (by kernel_rfl)) da_nil rfl) (by kernel_rfl)) (de_one (de_chain opr_le opr_le sem_le sem_le (de_v 1 (by kernel_rfl)) (de_v 0 (by kernel_rfl)) (de_v 2 (by kernel_rfl)) (by kernel_rfl))))) dss_nil)
/-! _has_only -/
abbrev s__has_only : Stmt := top 7
abbrev N__has_only : List Str := ["text", "signs", "sign"]
theorem nd__has_only : N__has_only.Nodup := by decide +kernel
theorem sc__has_only : FnScope N__has_only ["text", "signs"] (defScope s__has_only) := ⟨rfl, rfl, rfl, nd__has_only, rfl, by decide +kernel, by decide +kernel⟩
noncomputable def B__has_only (n0 : Nat) : SM := (sSeq (sRet n0 (mCall (fAll false) (aCons (mComp false [2] (mIter (mVar 0)) (gN 2) tmYes (m2 (fInX false) (mVar 2) (mVar 1))) aNil))) sNil)
noncomputable def F__has_only : FS := bodyF 3 B__has_only
theorem ok__has_only {P : Program} {w : World} {K : Frag} {mg : Str → Option Value} {base : Heap} {cls : Str → Option Addr} (c : Fx K mg) : Def P w K mg base cls "_has_only" 2 1 F__has_only := by
  obtain ⟨f, fd, F, gm⟩ := c.d__has_only
  exact def_ok F gm (fun _ _ _ _ _ _ us hl => match us, hl with | [_, _], _ => rfl) sc__has_only rfl rfl fun xs hid cdv A outer s H E n0 hr => (dss_cons (ds_ret (de_cB (cr_all rfl) sem_all c.g_all bt_all (da_c (de_l false [("sign", 2)] rfl nd__has_only (di_v rfl (de_v 0 (by kernel_rfl))) (by kernel_rfl) (fun _ _ _ _ _ _ => (dgn (by kernel_rfl) nd__has_only)) (fun _ _ _ _ _ _ => dts_nil) (fun _ _ _ _ _ _ => (de_cmp (opr_inX (Room.u65 hr)) (sem_inX (neg := false)) (de_v 2 (by kernel_rfl)) (de_v 1 (by kernel_rfl)) (by kernel_rfl)))) da_nil rfl) (by kernel_rfl))) dss_nil)
/-! is_name -/
abbrev s_is_name : Stmt := top 8
abbrev N_is_name : List Str := ["thing"]
theorem nd_is_name : N_is_name.Nodup := by decide +kernel
theorem sc_is_name : FnScope N_is_name ["thing"] (defScope s_is_name) := ⟨rfl, rfl, rfl, nd_is_name, rfl, by decide +kernel, by decide +kernel⟩
noncomputable def B_is_name (n0 : Nat) : SM := (sSeq (sIf (tOrM (tNotM (tTruth (mIsi "str" (mVar 0)))) (tNotM (tVal (mChain fLe fLe (mD (.int 1)) (mCall fLen (aCons (mVar 0) aNil)) (mD c_MOST_SIGNS))))) (sSeq (sRet n0 (mD (.bl false))) sNil) sNil) (sSeq (sRet n0 (mAndV (m2 (fInX false) (m2 fIx (mVar 0) (mD (.int 0))) (mD c_LETTERS)) (mApp 2 F__has_only (aCons (mVar 0) (aCons (m2 (fAdd false) (mD c_LETTERS) (mD c_DIGITS)) aNil))))) sNil))
noncomputable def F_is_name : FS := bodyF 1 B_is_name
theorem ok_is_name {P : Program} {w : World} {K : Frag} {mg : Str → Option Value} {base : Heap} {cls : Str → Option Addr} (c : Fx K mg) : Def P w K mg base cls "is_name" 1 2 F_is_name := by
  obtain ⟨f, fd, F, gm⟩ := c.d_is_name
  exact def_ok F gm (fun _ _ _ _ _ _ us hl => match us, hl with | [_], _ => rfl) sc_is_name rfl rfl fun xs hid cdv A outer s H E n0 hr => (dss_cons (ds_if (dt_w (dw_or (dt_not (dt_t rfl (de_isB rfl c.g_isinstance c.g_str bt_str (de_v 0 (by kernel_rfl)) (by kernel_rfl)) rfl)) (dw_or1 (dt_not (dt_chain opr_le opr_le sem_le sem_le de_int (de_cB call_len sem_len c.g_len bt_len (da_c (de_v 0 (by kernel_rfl)) da_nil rfl) (by kernel_rfl)) (de_gv c.v_MOST_SIGNS rfl (by kernel_rfl)) (by kernel_rfl)))))) (dss_cons (ds_ret de_bl) dss_nil) dss_nil) (dss_cons (ds_ret (de_and (de_cmp (opr_inX (Room.u65 hr)) (sem_inX (neg := false)) (de_ixB rfl hr (de_v 0 (by kernel_rfl)) de_int rfl) (de_gv c.v_LETTERS rfl (by kernel_rfl)) (by kernel_rfl)) (de_one (de_cD (ok__has_only c) rfl rfl hr (by decide) (FC.tk _ _ _ _) (da_c (de_v 0 (by kernel_rfl)) (da_c (de_op opr_add (sem_add (md := false)) (de_gv c.v_LETTERS rfl (by kernel_rfl)) (de_gv c.v_DIGITS rfl (by kernel_rfl))) da_nil rfl) rfl) (by kernel_rfl))))) dss_nil))
/-! is_fraction -/
abbrev s_is_fraction : Stmt := top 9
abbrev N_is_fraction : List Str := ["thing", "top", "bottom"]
theorem nd_is_fraction : N_is_fraction.Nodup := by decide +kernel
theorem sc_is_fraction : FnScope N_is_fraction ["thing"] (defScope s_is_fraction) := ⟨rfl, rfl, rfl, nd_is_fraction, rfl, by decide +kernel, by decide +kernel⟩
noncomputable def B_is_fraction (n0 : Nat) : SM := (sSeq (sIf (tOrM (tNotM (tTruth (mIsi "tuple" (mVar 0)))) (tVal (m2 (fEq true) (mCall fLen (aCons (mVar 0) aNil)) (mD (.int 2))))) (sSeq (sRet n0 (mD (.bl false))) sNil) sNil) (sSeq (sAsg (mVar 0) (gT [(gN 1), (gN 2)])) (sSeq (sIf (tOrM (tNotM (tTruth (mApp 1 F_is_whole (aCons (mVar 1) aNil)))) (tOrM (tNotM (tTruth (mApp 1 F_is_whole (aCons (mVar 2) aNil)))) (tVal (m2 fLt (mVar 2) (mD (.int 1)))))) (sSeq (sRet n0 (mD (.bl false))) sNil) sNil) (sSeq (sRet n0 (m2 (fEq false) (mCall fGcd (aCons (mVar 1) (aCons (mVar 2) aNil))) (mD (.int 1)))) sNil))))
noncomputable def F_is_fraction : FS := bodyF 3 B_is_fraction
theorem ok_is_fraction {P : Program} {w : World} {K : Frag} {mg : Str → Option Value} {base : Heap} {cls : Str → Option Addr} (c : Fx K mg) : Def P w K mg base cls "is_fraction" 1 2 F_is_fraction := by
  obtain ⟨f, fd, F, gm⟩ := c.d_is_fraction
  exact def_ok F gm (fun _ _ _ _ _ _ us hl => match us, hl with | [_], _ => rfl) sc_is_fraction rfl rfl fun xs hid cdv A outer s H E n0 hr => (dss_cons (ds_if (dt_w (dw_or (dt_not (dt_t rfl (de_isB rfl c.g_isinstance c.g_tuple bt_tuple (de_v 0 (by kernel_rfl)) (by kernel_rfl)) rfl)) (dw_or1 (dt_cmp (opr_ne hr.units) (sem_eq (neg := true)) (de_cB call_len sem_len c.g_len bt_len (da_c (de_v 0 (by kernel_rfl)) da_nil rfl) (by kernel_rfl)) de_int (by kernel_rfl))))) (dss_cons (ds_ret de_bl) dss_nil) dss_nil) (dss_cons (ds_asg (de_v 0 (by kernel_rfl)) (dg_tup rfl rfl (dgs_cons (dgn (by kernel_rfl) nd_is_fraction) (dgs_cons (dgn (by kernel_rfl) nd_is_fraction) dgs_nil rfl) rfl) rfl rfl) rfl rfl (by kernel_rfl)) (dss_cons (ds_if (dt_w (dw_or (dt_not (dt_t rfl (de_cD (ok_is_whole c) rfl rfl hr (by decide) (FC.tk _ _ _ _) (da_c (de_v 1 (by kernel_rfl)) da_nil rfl) (by kernel_rfl)) rfl)) (dw_or (dt_not (dt_t rfl (de_cD (ok_is_whole c) rfl rfl hr (by decide) (FC.tk _ _ _ _) (da_c (de_v 2 (by kernel_rfl)) da_nil rfl) (by kernel_rfl)) rfl)) (dw_or1 (dt_cmp (opr_lt hr.units) sem_lt (de_v 2 (by kernel_rfl)) de_int (by kernel_rfl)))))) (dss_cons (ds_ret de_bl) dss_nil) dss_nil) (dss_cons (ds_ret (de_cmp (opr_eq hr.units) (sem_eq (neg := false)) (de_cF cr_gcd sem_gcd c.g_gcd (da_c (de_v 1 (by kernel_rfl)) (da_c (de_v 2 (by kernel_rfl)) da_nil rfl) rfl) (by kernel_rfl)) de_int (by kernel_rfl))) dss_nil))))
/-! is_ascending -/
abbrev s_is_ascending : Stmt := top 16
abbrev N_is_ascending : List Str := ["things", "at"]
theorem nd_is_ascending : N_is_ascending.Nodup := by decide +kernel
theorem sc_is_ascending : FnScope N_is_ascending ["things"] (defScope s_is_ascending) := ⟨rfl, rfl, rfl, nd_is_ascending, rfl, by decide +kernel, by decide +kernel⟩
noncomputable def B_is_ascending (n0 : Nat) : SM := (sSeq (sRet n0 (mCall (fAll false) (aCons (mComp false [1] (mRng1 (aCons (m2 fSub (mCall fLen (aCons (mVar 0) aNil)) (mD (.int 1))) aNil)) (gN 1) tmYes (m2 fLt (m2 fIx (mVar 0) (mVar 1)) (m2 fIx (mVar 0) (m2 (fAdd false) (mVar 1) (mD (.int 1)))))) aNil))) sNil)
noncomputable def F_is_ascending : FS := bodyF 2 B_is_ascending
theorem ok_is_ascending {P : Program} {w : World} {K : Frag} {mg : Str → Option Value} {base : Heap} {cls : Str → Option Addr} (c : Fx K mg) : Def P w K mg base cls "is_ascending" 1 1 F_is_ascending := by
  obtain ⟨f, fd, F, gm⟩ := c.d_is_ascending
  exact def_ok F gm (fun _ _ _ _ _ _ us hl => match us, hl with | [_], _ => rfl) sc_is_ascending rfl rfl fun xs hid cdv A outer s H E n0 hr => (dss_cons (ds_ret (de_cB (cr_all rfl) sem_all c.g_all bt_all (da_c (de_l false [("at", 1)] rfl nd_is_ascending (di_r1 c.g_range (da_c (de_op op_sub sem_sub (de_cB call_len sem_len c.g_len bt_len (da_c (de_v 0 (by kernel_rfl)) da_nil rfl) (by kernel_rfl)) de_int) da_nil rfl) (by kernel_rfl)) (by kernel_rfl) (fun _ _ _ _ _ _ => (dgn (by kernel_rfl) nd_is_ascending)) (fun _ _ _ _ _ _ => dts_nil) (fun _ _ _ _ _ _ => (de_cmp (opr_lt hr.units) sem_lt (de_ixB rfl hr (de_v 0 (by kernel_rfl)) (de_v 1 (by kernel_rfl)) rfl) (de_ixB rfl hr (de_v 0 (by kernel_rfl)) (de_op opr_add (sem_add (md := false)) (de_v 1 (by kernel_rfl)) de_int) rfl) (by kernel_rfl)))) da_nil rfl) (by kernel_rfl))) dss_nil)
/-! is_pair -/
abbrev s_is_pair : Stmt := top 17
abbrev N_is_pair : List Str := ["thing"]
theorem nd_is_pair : N_is_pair.Nodup := by decide +kernel
theorem sc_is_pair : FnScope N_is_pair ["thing"] (defScope s_is_pair) := ⟨rfl, rfl, rfl, nd_is_pair, rfl, by decide +kernel, by decide +kernel⟩
noncomputable def B_is_pair (n0 : Nat) : SM := (sSeq (sRet n0 (mAndV (mIsi "tuple" (mVar 0)) (m2 (fEq false) (mCall fLen (aCons (mVar 0) aNil)) (mD (.int 2))))) sNil)
noncomputable def F_is_pair : FS := bodyF 1 B_is_pair
theorem ok_is_pair {P : Program} {w : World} {K : Frag} {mg : Str → Option Value} {base : Heap} {cls : Str → Option Addr} (c : Fx K mg) : Def P w K mg base cls "is_pair" 1 1 F_is_pair := by
  obtain ⟨f, fd, F, gm⟩ := c.d_is_pair
  exact def_ok F gm (fun _ _ _ _ _ _ us hl => match us, hl with | [_], _ => rfl) sc_is_pair rfl rfl fun xs hid cdv A outer s H E n0 hr => (dss_cons (ds_ret (de_and (de_isB rfl c.g_isinstance c.g_tuple bt_tuple (de_v 0 (by kernel_rfl)) (by kernel_rfl)) (de_one (de_cmp (opr_eq hr.units) (sem_eq (neg := false)) (de_cB call_len sem_len c.g_len bt_len (da_c (de_v 0 (by kernel_rfl)) da_nil rfl) (by kernel_rfl)) de_int (by kernel_rfl))))) dss_nil)
/-! is_names -/
abbrev s_is_names : Stmt := top 18
abbrev N_is_names : List Str := ["thing", "name"]
theorem nd_is_names : N_is_names.Nodup := by decide +kernel
theorem sc_is_names : FnScope N_is_names ["thing"] (defScope s_is_names) := ⟨rfl, rfl, rfl, nd_is_names, rfl, by decide +kernel, by decide +kernel⟩
noncomputable def B_is_names (n0 : Nat) : SM := (sSeq (sIf (tOrM (tNotM (tTruth (mIsi "tuple" (mVar 0)))) (tVal (m2 fGt (mCall fLen (aCons (mVar 0) aNil)) (mD c_MOST_NAMES)))) (sSeq (sRet n0 (mD (.bl false))) sNil) sNil) (sSeq (sRet n0 (mAndV (mCall (fAll false) (aCons (mComp false [1] (mIter (mVar 0)) (gN 1) tmYes (mApp 1 F_is_name (aCons (mVar 1) aNil))) aNil)) (mApp 1 F_is_ascending (aCons (mVar 0) aNil)))) sNil))
noncomputable def F_is_names : FS := bodyF 2 B_is_names
theorem ok_is_names {P : Program} {w : World} {K : Frag} {mg : Str → Option Value} {base : Heap} {cls : Str → Option Addr} (c : Fx K mg) : Def P w K mg base cls "is_names" 1 3 F_is_names := by
  obtain ⟨f, fd, F, gm⟩ := c.d_is_names
  exact def_ok F gm (fun _ _ _ _ _ _ us hl => match us, hl with | [_], _ => rfl) sc_is_names rfl rfl fun xs hid cdv A outer s H E n0 hr => (dss_cons (ds_if (dt_w (dw_or (dt_not (dt_t rfl (de_isB rfl c.g_isinstance c.g_tuple bt_tuple (de_v 0 (by kernel_rfl)) (by kernel_rfl)) rfl)) (dw_or1 (dt_cmp opr_gt sem_gt (de_cB call_len sem_len c.g_len bt_len (da_c (de_v 0 (by kernel_rfl)) da_nil rfl) (by kernel_rfl)) (de_gv c.v_MOST_NAMES rfl (by kernel_rfl)) (by kernel_rfl))))) (dss_cons (ds_ret de_bl) dss_nil) dss_nil) (dss_cons (ds_ret (de_and (de_cB (cr_all rfl) sem_all c.g_all bt_all (da_c (de_l false [("name", 1)] rfl nd_is_names (di_v rfl (de_v 0 (by kernel_rfl))) (by kernel_rfl) (fun _ _ _ _ _ _ => (dgn (by kernel_rfl) nd_is_names)) (fun _ _ _ _ _ _ => dts_nil) (fun _ _ _ _ _ _ => (de_cD (ok_is_name c) rfl rfl hr (by decide) takes0 (da_c (de_v 1 (by kernel_rfl)) da_nil rfl) (by kernel_rfl)))) da_nil rfl) (by kernel_rfl)) (de_one (de_cD (ok_is_ascending c) rfl rfl hr (by decide) (FC.tk _ _ _ _) (da_c (de_v 0 (by kernel_rfl)) da_nil rfl) (by kernel_rfl))))) dss_nil))
/-! is_any_terms -/
abbrev s_is_any_terms : Stmt := top 19
abbrev N_is_any_terms : List Str := ["thing", "row"]
theorem nd_is_any_terms : N_is_any_terms.Nodup := by decide +kernel
theorem sc_is_any_terms : FnScope N_is_any_terms ["thing"] (defScope s_is_any_terms) := ⟨rfl, rfl, rfl, nd_is_any_terms, rfl, by decide +kernel, by decide +kernel⟩
noncomputable def B_is_any_terms (n0 : Nat) : SM := (sSeq (sIf (tOrM (tNotM (tTruth (mIsi "tuple" (mVar 0)))) (tNotM (tTruth (mCall (fAll false) (aCons (mComp false [1] (mIter (mVar 0)) (gN 1) tmYes (mAndV (mApp 1 F_is_pair (aCons (mVar 1) aNil)) (mApp 1 F_is_name (aCons (m2 fIx (mVar 1) (mD (.int 0))) aNil)))) aNil))))) (sSeq (sRet n0 (mD (.bl false))) sNil) sNil) (sSeq (sIf (tNotM (tTruth (mCall (fAll false) (aCons (mComp false [1] (mIter (mVar 0)) (gN 1) tmYes (mAndV (mApp 3 F_is_between (aCons (m2 fIx (mVar 1) (mD (.int 1))) (aCons (mNeg (mD c_MOST_NUMBER)) (aCons (mD c_MOST_NUMBER) aNil)))) (m2 (fEq true) (m2 fIx (mVar 1) (mD (.int 1))) (mD (.int 0))))) aNil)))) (sSeq (sRet n0 (mD (.bl false))) sNil) sNil) (sSeq (sRet n0 (mApp 1 F_is_ascending (aCons (mComp false [1] (mIter (mVar 0)) (gN 1) tmYes (m2 fIx (mVar 1) (mD (.int 0)))) aNil))) sNil)))
noncomputable def F_is_any_terms : FS := bodyF 2 B_is_any_terms
theorem ok_is_any_terms {P : Program} {w : World} {K : Frag} {mg : Str → Option Value} {base : Heap} {cls : Str → Option Addr} (c : Fx K mg) : Def P w K mg base cls "is_any_terms" 1 3 F_is_any_terms := by
  obtain ⟨f, fd, F, gm⟩ := c.d_is_any_terms
  exact def_ok F gm (fun _ _ _ _ _ _ us hl => match us, hl with | [_], _ => rfl) sc_is_any_terms rfl rfl fun xs hid cdv A outer s H E n0 hr => (dss_cons (ds_if (dt_w (dw_or (dt_not (dt_t rfl (de_isB rfl c.g_isinstance c.g_tuple bt_tuple (de_v 0 (by kernel_rfl)) (by kernel_rfl)) rfl)) (dw_or1 (dt_not (dt_t rfl (de_cB (cr_all rfl) sem_all c.g_all bt_all (da_c (de_l false [("row", 1)] rfl nd_is_any_terms (di_v rfl (de_v 0 (by kernel_rfl))) (by kernel_rfl) (fun _ _ _ _ _ _ => (dgn (by kernel_rfl) nd_is_any_terms)) (fun _ _ _ _ _ _ => dts_nil) (fun _ _ _ _ _ _ => (de_and (de_cD (ok_is_pair c) rfl rfl hr (by decide) takes0 (da_c (de_v 1 (by kernel_rfl)) da_nil rfl) (by kernel_rfl)) (de_one (de_cD (ok_is_name c) rfl rfl hr (by decide) takes0 (da_c (de_ixB rfl hr (de_v 1 (by kernel_rfl)) de_int rfl) da_nil rfl) (by kernel_rfl)))))) da_nil rfl) (by kernel_rfl)) rfl))))) (dss_cons (ds_ret de_bl) dss_nil) dss_nil) (dss_cons (ds_if (dt_not (dt_t rfl (de_cB (cr_all rfl) sem_all c.g_all bt_all (da_c (de_l false [("row", 1)] rfl nd_is_any_terms (di_v rfl (de_v 0 (by kernel_rfl))) (by kernel_rfl) (fun _ _ _ _ _ _ => (dgn (by kernel_rfl) nd_is_any_terms)) (fun _ _ _ _ _ _ => dts_nil) (fun _ _ _ _ _ _ => (de_and (de_cD (ok_is_between c) rfl rfl hr (by decide) takes0 (da_c (de_ixB rfl hr (de_v 1 (by kernel_rfl)) de_int rfl) (da_c (de_neg (de_gv c.v_MOST_NUMBER rfl (by kernel_rfl))) (da_c (de_gv c.v_MOST_NUMBER rfl (by kernel_rfl)) da_nil rfl) rfl) rfl) (by kernel_rfl)) (de_one (de_cmp (opr_ne hr.units) (sem_eq (neg := true)) (de_ixB rfl hr (de_v 1 (by kernel_rfl)) de_int rfl) de_int (by kernel_rfl)))))) da_nil rfl) (by kernel_rfl)) rfl)) (dss_cons (ds_ret de_bl) dss_nil) dss_nil) (dss_cons (ds_ret (de_cD (ok_is_ascending c) rfl rfl hr (by decide) (FC.tk _ _ _ _) (da_c (de_l false [("row", 1)] rfl nd_is_any_terms (di_v rfl (de_v 0 (by kernel_rfl))) (by kernel_rfl) (fun _ _ _ _ _ _ => (dgn (by kernel_rfl) nd_is_any_terms)) (fun _ _ _ _ _ _ => dts_nil) (fun _ _ _ _ _ _ => (de_ixB rfl hr (de_v 1 (by kernel_rfl)) de_int rfl))) da_nil rfl) (by kernel_rfl))) dss_nil)))
/-! is_terms -/
abbrev s_is_terms : Stmt := top 20
abbrev N_is_terms : List Str := ["names", "thing", "row"]
theorem nd_is_terms : N_is_terms.Nodup := by decide +kernel
theorem sc_is_terms : FnScope N_is_terms ["names", "thing"] (defScope s_is_terms) := ⟨rfl, rfl, rfl, nd_is_terms, rfl, by decide +kernel, by decide +kernel⟩
noncomputable def B_is_terms (n0 : Nat) : SM := (sSeq (sRet n0 (mAndV (mApp 1 F_is_any_terms (aCons (mVar 1) aNil)) (mCall (fAll false) (aCons (mComp false [2] (mIter (mVar 1)) (gN 2) tmYes (m2 (fInX false) (m2 fIx (mVar 2) (mD (.int 0))) (mVar 0))) aNil)))) sNil)
noncomputable def F_is_terms : FS := bodyF 3 B_is_terms
theorem ok_is_terms {P : Program} {w : World} {K : Frag} {mg : Str → Option Value} {base : Heap} {cls : Str → Option Addr} (c : Fx K mg) : Def P w K mg base cls "is_terms" 2 4 F_is_terms := by
  obtain ⟨f, fd, F, gm⟩ := c.d_is_terms
  exact def_ok F gm (fun _ _ _ _ _ _ us hl => match us, hl with | [_, _], _ => rfl) sc_is_terms rfl rfl fun xs hid cdv A outer s H E n0 hr => (dss_cons (ds_ret (de_and (de_cD (ok_is_any_terms c) rfl rfl hr (by decide) (FC.tk _ _ _ _) (da_c (de_v 1 (by kernel_rfl)) da_nil rfl) (by kernel_rfl)) (de_one (de_cB (cr_all rfl) sem_all c.g_all bt_all (da_c (de_l false [("row", 2)] rfl nd_is_terms (di_v rfl (de_v 1 (by kernel_rfl))) (by kernel_rfl) (fun _ _ _ _ _ _ => (dgn (by kernel_rfl) nd_is_terms)) (fun _ _ _ _ _ _ => dts_nil) (fun _ _ _ _ _ _ => (de_cmp (opr_inX (Room.u65 hr)) (sem_inX (neg := false)) (de_ixB rfl hr (de_v 2 (by kernel_rfl)) de_int rfl) (de_v 0 (by kernel_rfl)) (by kernel_rfl)))) da_nil rfl) (by kernel_rfl))))) dss_nil)
/-! _is_row -/
abbrev s__is_row : Stmt := top 21
abbrev N__is_row : List Str := ["names", "thing", "name", "terms", "kind", "bound"]
theorem nd__is_row : N__is_row.Nodup := by decide +kernel
theorem sc__is_row : FnScope N__is_row ["names", "thing"] (defScope s__is_row) := ⟨rfl, rfl, rfl, nd__is_row, rfl, by decide +kernel, by decide +kernel⟩
noncomputable def B__is_row (n0 : Nat) : SM := (sSeq (sIf (tOrM (tNotM (tTruth (mIsi "tuple" (mVar 1)))) (tVal (m2 (fEq true) (mCall fLen (aCons (mVar 1) aNil)) (mD (.int 4))))) (sSeq (sRet n0 (mD (.bl false))) sNil) sNil) (sSeq (sAsg (mVar 1) (gT [(gN 2), (gN 3), (gN 4), (gN 5)])) (sSeq (sIf (tOrM (tNotM (tTruth (mApp 1 F_is_name (aCons (mVar 2) aNil)))) (tOrM (tVal (m2 (fInX false) (mVar 2) (mVar 0))) (tNotM (tTruth (mApp 2 F_is_terms (aCons (mVar 0) (aCons (mVar 3) aNil))))))) (sSeq (sRet n0 (mD (.bl false))) sNil) sNil) (sSeq (sRet n0 (mAndV (m2 (fInX false) (mVar 4) (mD c_KINDS)) (mApp 3 F_is_between (aCons (mVar 5) (aCons (mNeg (mD c_MOST_BOUND)) (aCons (mD c_MOST_BOUND) aNil)))))) sNil))))
noncomputable def F__is_row : FS := bodyF 6 B__is_row
theorem ok__is_row {P : Program} {w : World} {K : Frag} {mg : Str → Option Value} {base : Heap} {cls : Str → Option Addr} (c : Fx K mg) : Def P w K mg base cls "_is_row" 2 5 F__is_row := by
  obtain ⟨f, fd, F, gm⟩ := c.d__is_row
  exact def_ok F gm (fun _ _ _ _ _ _ us hl => match us, hl with | [_, _], _ => rfl) sc__is_row rfl rfl fun xs hid cdv A outer s H E n0 hr => (dss_cons (ds_if (dt_w (dw_or (dt_not (dt_t rfl (de_isB rfl c.g_isinstance c.g_tuple bt_tuple (de_v 1 (by kernel_rfl)) (by kernel_rfl)) rfl)) (dw_or1 (dt_cmp (opr_ne hr.units) (sem_eq (neg := true)) (de_cB call_len sem_len c.g_len bt_len (da_c (de_v 1 (by kernel_rfl)) da_nil rfl) (by kernel_rfl)) de_int (by kernel_rfl))))) (dss_cons (ds_ret de_bl) dss_nil) dss_nil) (dss_cons (ds_asg (de_v 1 (by kernel_rfl)) (dg_tup rfl rfl (dgs_cons (dgn (by kernel_rfl) nd__is_row) (dgs_cons (dgn (by kernel_rfl) nd__is_row) (dgs_cons (dgn (by kernel_rfl) nd__is_row) (dgs_cons (dgn (by kernel_rfl) nd__is_row) dgs_nil rfl) rfl) rfl) rfl) rfl rfl) rfl rfl (by kernel_rfl)) (dss_cons (ds_if (dt_w (dw_or (dt_not (dt_t rfl (de_cD (ok_is_name c) rfl rfl hr (by decide) (FC.tk _ _ _ _) (da_c (de_v 2 (by kernel_rfl)) da_nil rfl) (by kernel_rfl)) rfl)) (dw_or (dt_cmp (opr_inX (Room.u65 hr)) (sem_inX (neg := false)) (de_v 2 (by kernel_rfl)) (de_v 0 (by kernel_rfl)) (by kernel_rfl)) (dw_or1 (dt_not (dt_t rfl (de_cD (ok_is_terms c) rfl rfl hr (by decide) (FC.tk _ _ _ _) (da_c (de_v 0 (by kernel_rfl)) (da_c (de_v 3 (by kernel_rfl)) da_nil rfl) rfl) (by kernel_rfl)) rfl)))))) (dss_cons (ds_ret de_bl) dss_nil) dss_nil) (dss_cons (ds_ret (de_and (de_cmp (opr_inX (Room.u65 hr)) (sem_inX (neg := false)) (de_v 4 (by kernel_rfl)) (de_gv c.v_KINDS rfl (by kernel_rfl)) (by kernel_rfl)) (de_one (de_cD (ok_is_between c) rfl rfl hr (by decide) (FC.tk _ _ _ _) (da_c (de_v 5 (by kernel_rfl)) (da_c (de_neg (de_gv c.v_MOST_BOUND rfl (by kernel_rfl))) (da_c (de_gv c.v_MOST_BOUND rfl (by kernel_rfl)) da_nil rfl) rfl) rfl) (by kernel_rfl))))) dss_nil))))
/-! is_rows -/
abbrev s_is_rows : Stmt := top 22
abbrev N_is_rows : List Str := ["thing", "row"]
theorem nd_is_rows : N_is_rows.Nodup := by decide +kernel
theorem sc_is_rows : FnScope N_is_rows ["thing"] (defScope s_is_rows) := ⟨rfl, rfl, rfl, nd_is_rows, rfl, by decide +kernel, by decide +kernel⟩
noncomputable def B_is_rows (n0 : Nat) : SM := (sSeq (sIf (tOrM (tNotM (tTruth (mIsi "tuple" (mVar 0)))) (tOrM (tVal (m2 (fEq true) (mCall fLen (aCons (mVar 0) aNil)) (mD (.int 3)))) (tOrM (tVal (m2 (fEq true) (m2 fIx (mVar 0) (mD (.int 0))) (mD (.str ['r', 'o', 'w', 's'])))) (tNotM (tTruth (mApp 1 F_is_names (aCons (m2 fIx (mVar 0) (mD (.int 1))) aNil))))))) (sSeq (sRet n0 (mD (.bl false))) sNil) sNil) (sSeq (sIf (tOrM (tNotM (tTruth (mIsi "tuple" (m2 fIx (mVar 0) (mD (.int 2)))))) (tVal (m2 fGt (mCall fLen (aCons (m2 fIx (mVar 0) (mD (.int 2))) aNil)) (mD c_MOST_ROWS)))) (sSeq (sRet n0 (mD (.bl false))) sNil) sNil) (sSeq (sRet n0 (mAndV (mCall (fAll false) (aCons (mComp false [1] (mIter (m2 fIx (mVar 0) (mD (.int 2)))) (gN 1) tmYes (mApp 2 F__is_row (aCons (m2 fIx (mVar 0) (mD (.int 1))) (aCons (mVar 1) aNil)))) aNil)) (mApp 1 F_is_ascending (aCons (mComp false [1] (mIter (m2 fIx (mVar 0) (mD (.int 2)))) (gN 1) tmYes (m2 fIx (mVar 1) (mD (.int 0)))) aNil)))) sNil)))
noncomputable def F_is_rows : FS := bodyF 2 B_is_rows
theorem ok_is_rows {P : Program} {w : World} {K : Frag} {mg : Str → Option Value} {base : Heap} {cls : Str → Option Addr} (c : Fx K mg) : Def P w K mg base cls "is_rows" 1 6 F_is_rows := by
  obtain ⟨f, fd, F, gm⟩ := c.d_is_rows
  exact def_ok F gm (fun _ _ _ _ _ _ us hl => match us, hl with | [_], _ => rfl) sc_is_rows rfl rfl fun xs hid cdv A outer s H E n0 hr => (dss_cons (ds_if (dt_w (dw_or (dt_not (dt_t rfl (de_isB rfl c.g_isinstance c.g_tuple bt_tuple (de_v 0 (by kernel_rfl)) (by kernel_rfl)) rfl)) (dw_or (dt_cmp (opr_ne hr.units) (sem_eq (neg := true)) (de_cB call_len sem_len c.g_len bt_len (da_c (de_v 0 (by kernel_rfl)) da_nil rfl) (by kernel_rfl)) de_int (by kernel_rfl)) (dw_or (dt_cmp (opr_ne hr.units) (sem_eq (neg := true)) (de_ixB rfl hr (de_v 0 (by kernel_rfl)) de_int rfl) (de_s (by kernel_rfl)) (by kernel_rfl)) (dw_or1 (dt_not (dt_t rfl (de_cD (ok_is_names c) rfl rfl hr (by decide) (FC.tk _ _ _ _) (da_c (de_ixB rfl hr (de_v 0 (by kernel_rfl)) de_int rfl) da_nil rfl) (by kernel_rfl)) rfl))))))) (dss_cons (ds_ret de_bl) dss_nil) dss_nil) (dss_cons (ds_if (dt_w (dw_or (dt_not (dt_t rfl (de_isB rfl c.g_isinstance c.g_tuple bt_tuple (de_ixB rfl hr (de_v 0 (by kernel_rfl)) de_int rfl) (by kernel_rfl)) rfl)) (dw_or1 (dt_cmp opr_gt sem_gt (de_cB call_len sem_len c.g_len bt_len (da_c (de_ixB rfl hr (de_v 0 (by kernel_rfl)) de_int rfl) da_nil rfl) (by kernel_rfl)) (de_gv c.v_MOST_ROWS rfl (by kernel_rfl)) (by kernel_rfl))))) (dss_cons (ds_ret de_bl) dss_nil) dss_nil) (dss_cons (ds_ret (de_and (de_cB (cr_all rfl) sem_all c.g_all bt_all (da_c (de_l false [("row", 1)] rfl nd_is_rows (di_v rfl (de_ixB rfl hr (de_v 0 (by kernel_rfl)) de_int rfl)) (by kernel_rfl) (fun _ _ _ _ _ _ => (dgn (by kernel_rfl) nd_is_rows)) (fun _ _ _ _ _ _ => dts_nil) (fun _ _ _ _ _ _ => (de_cD (ok__is_row c) rfl rfl hr (by decide) takes0 (da_c (de_ixB rfl hr (de_v 0 (by kernel_rfl)) de_int rfl) (da_c (de_v 1 (by kernel_rfl)) da_nil rfl) rfl) (by kernel_rfl)))) da_nil rfl) (by kernel_rfl)) (de_one (de_cD (ok_is_ascending c) rfl rfl hr (by decide) (FC.tk _ _ _ _) (da_c (de_l false [("row", 1)] rfl nd_is_rows (di_v rfl (de_ixB rfl hr (de_v 0 (by kernel_rfl)) de_int rfl)) (by kernel_rfl) (fun _ _ _ _ _ _ => (dgn (by kernel_rfl) nd_is_rows)) (fun _ _ _ _ _ _ => dts_nil) (fun _ _ _ _ _ _ => (de_ixB rfl hr (de_v 1 (by kernel_rfl)) de_int rfl))) da_nil rfl) (by kernel_rfl))))) dss_nil)))
/-! is_shares -/
abbrev s_is_shares : Stmt := top 23
abbrev N_is_shares : List Str := ["thing", "row"]
theorem nd_is_shares : N_is_shares.Nodup := by decide +kernel
theorem sc_is_shares : FnScope N_is_shares ["thing"] (defScope s_is_shares) := ⟨rfl, rfl, rfl, nd_is_shares, rfl, by decide +kernel, by decide +kernel⟩
noncomputable def B_is_shares (n0 : Nat) : SM := (sSeq (sIf (tOrM (tNotM (tTruth (mIsi "tuple" (mVar 0)))) (tNotM (tTruth (mCall (fAll false) (aCons (mComp false [1] (mIter (mVar 0)) (gN 1) tmYes (mAndV (mApp 1 F_is_pair (aCons (mVar 1) aNil)) (mIsi "str" (m2 fIx (mVar 1) (mD (.int 0)))))) aNil))))) (sSeq (sRet n0 (mD (.bl false))) sNil) sNil) (sSeq (sRet n0 (mAndV (mCall (fAll false) (aCons (mComp false [1] (mIter (mVar 0)) (gN 1) tmYes (mApp 1 F_is_fraction (aCons (m2 fIx (mVar 1) (mD (.int 1))) aNil))) aNil)) (mApp 1 F_is_ascending (aCons (mComp false [1] (mIter (mVar 0)) (gN 1) tmYes (m2 fIx (mVar 1) (mD (.int 0)))) aNil)))) sNil))
noncomputable def F_is_shares : FS := bodyF 2 B_is_shares
theorem ok_is_shares {P : Program} {w : World} {K : Frag} {mg : Str → Option Value} {base : Heap} {cls : Str → Option Addr} (c : Fx K mg) : Def P w K mg base cls "is_shares" 1 3 F_is_shares := by
  obtain ⟨f, fd, F, gm⟩ := c.d_is_shares
  exact def_ok F gm (fun _ _ _ _ _ _ us hl => match us, hl with | [_], _ => rfl) sc_is_shares rfl rfl fun xs hid cdv A outer s H E n0 hr => (dss_cons (ds_if (dt_w (dw_or (dt_not (dt_t rfl (de_isB rfl c.g_isinstance c.g_tuple bt_tuple (de_v 0 (by kernel_rfl)) (by kernel_rfl)) rfl)) (dw_or1 (dt_not (dt_t rfl (de_cB (cr_all rfl) sem_all c.g_all bt_all (da_c (de_l false [("row", 1)] rfl nd_is_shares (di_v rfl (de_v 0 (by kernel_rfl))) (by kernel_rfl) (fun _ _ _ _ _ _ => (dgn (by kernel_rfl) nd_is_shares)) (fun _ _ _ _ _ _ => dts_nil) (fun _ _ _ _ _ _ => (de_and (de_cD (ok_is_pair c) rfl rfl hr (by decide) takes0 (da_c (de_v 1 (by kernel_rfl)) da_nil rfl) (by kernel_rfl)) (de_one (de_isB rfl c.g_isinstance c.g_str bt_str (de_ixB rfl hr (de_v 1 (by kernel_rfl)) de_int rfl) (by kernel_rfl)))))) da_nil rfl) (by kernel_rfl)) rfl))))) (dss_cons (ds_ret de_bl) dss_nil) dss_nil) (dss_cons (ds_ret (de_and (de_cB (cr_all rfl) sem_all c.g_all bt_all (da_c (de_l false [("row", 1)] rfl nd_is_shares (di_v rfl (de_v 0 (by kernel_rfl))) (by kernel_rfl) (fun _ _ _ _ _ _ => (dgn (by kernel_rfl) nd_is_shares)) (fun _ _ _ _ _ _ => dts_nil) (fun _ _ _ _ _ _ => (de_cD (ok_is_fraction c) rfl rfl hr (by decide) takes0 (da_c (de_ixB rfl hr (de_v 1 (by kernel_rfl)) de_int rfl) da_nil rfl) (by kernel_rfl)))) da_nil rfl) (by kernel_rfl)) (de_one (de_cD (ok_is_ascending c) rfl rfl hr (by decide) (FC.tk _ _ _ _) (da_c (de_l false [("row", 1)] rfl nd_is_shares (di_v rfl (de_v 0 (by kernel_rfl))) (by kernel_rfl) (fun _ _ _ _ _ _ => (dgn (by kernel_rfl) nd_is_shares)) (fun _ _ _ _ _ _ => dts_nil) (fun _ _ _ _ _ _ => (de_ixB rfl hr (de_v 1 (by kernel_rfl)) de_int rfl))) da_nil rfl) (by kernel_rfl))))) dss_nil))
/-! is_point -/
abbrev s_is_point : Stmt := top 24
abbrev N_is_point : List Str := ["names", "thing", "row"]
theorem nd_is_point : N_is_point.Nodup := by decide +kernel
theorem sc_is_point : FnScope N_is_point ["names", "thing"] (defScope s_is_point) := ⟨rfl, rfl, rfl, nd_is_point, rfl, by decide +kernel, by decide +kernel⟩
noncomputable def B_is_point (n0 : Nat) : SM := (sSeq (sRet n0 (mAndV (mApp 1 F_is_shares (aCons (mVar 1) aNil)) (m2 (fEq false) (mComp false [2] (mIter (mVar 1)) (gN 2) tmYes (m2 fIx (mVar 2) (mD (.int 0)))) (mCall (fList false) (aCons (mVar 0) aNil))))) sNil)
noncomputable def F_is_point : FS := bodyF 3 B_is_point
theorem ok_is_point {P : Program} {w : World} {K : Frag} {mg : Str → Option Value} {base : Heap} {cls : Str → Option Addr} (c : Fx K mg) : Def P w K mg base cls "is_point" 2 4 F_is_point := by
  obtain ⟨f, fd, F, gm⟩ := c.d_is_point
  exact def_ok F gm (fun _ _ _ _ _ _ us hl => match us, hl with | [_, _], _ => rfl) sc_is_point rfl rfl fun xs hid cdv A outer s H E n0 hr => (dss_cons (ds_ret (de_and (de_cD (ok_is_shares c) rfl rfl hr (by decide) (FC.tk _ _ _ _) (da_c (de_v 1 (by kernel_rfl)) da_nil rfl) (by kernel_rfl)) (de_one (de_cmp (opr_eq hr.units) (sem_eq (neg := false)) (de_l false [("row", 2)] rfl nd_is_point (di_v rfl (de_v 1 (by kernel_rfl))) (by kernel_rfl) (fun _ _ _ _ _ _ => (dgn (by kernel_rfl) nd_is_point)) (fun _ _ _ _ _ _ => dts_nil) (fun _ _ _ _ _ _ => (de_ixB rfl hr (de_v 2 (by kernel_rfl)) de_int rfl))) (de_cT call_list_of (sem_list (md := false)) c.g_list bt_list (da_c (de_v 0 (by kernel_rfl)) da_nil rfl) (by kernel_rfl)) (by kernel_rfl))))) dss_nil)
/-! is_factors -/
abbrev s_is_factors : Stmt := top 25
abbrev N_is_factors : List Str := ["rows", "thing", "kinds", "row", "name", "share"]
theorem nd_is_factors : N_is_factors.Nodup := by decide +kernel
theorem sc_is_factors : FnScope N_is_factors ["rows", "thing"] (defScope s_is_factors) := ⟨rfl, rfl, rfl, nd_is_factors, rfl, by decide +kernel, by decide +kernel⟩
noncomputable def B_is_factors (n0 : Nat) : SM := (sSeq (sAsg (mDComp false [3] (mIter (m2 fIx (mVar 0) (mD (.int 2)))) (gN 3) tmYes (m2 fIx (mVar 3) (mD (.int 0))) (m2 fIx (mVar 3) (mD (.int 2)))) (gN 2)) (sSeq (sIf (tOrM (tNotM (tTruth (mApp 1 F_is_shares (aCons (mVar 1) aNil)))) (tNotM (tTruth (mCall (fAll false) (aCons (mComp false [4, 5] (mIter (mVar 1)) (gT [(gN 4), (gN 5)]) tmYes (m2 (fInX false) (mVar 4) (mVar 2))) aNil))))) (sSeq (sRet n0 (mD (.bl false))) sNil) sNil) (sSeq (sRet n0 (mCall (fAll false) (aCons (mComp false [4, 5] (mIter (mVar 1)) (gT [(gN 4), (gN 5)]) tmYes (mOrV (m2 fGt (m2 fIx (mVar 5) (mD (.int 0))) (mD (.int 0))) (mAndV (m2 fLt (m2 fIx (mVar 5) (mD (.int 0))) (mD (.int 0))) (m2 (fEq false) (m2 fIx (mVar 2) (mVar 4)) (mD (.str ['j', 'u', 's', 't'])))))) aNil))) sNil)))
noncomputable def F_is_factors : FS := bodyF 6 B_is_factors
theorem ok_is_factors {P : Program} {w : World} {K : Frag} {mg : Str → Option Value} {base : Heap} {cls : Str → Option Addr} (c : Fx K mg) : Def P w K mg base cls "is_factors" 2 4 F_is_factors := by
  obtain ⟨f, fd, F, gm⟩ := c.d_is_factors
  exact def_ok F gm (fun _ _ _ _ _ _ us hl => match us, hl with | [_, _], _ => rfl) sc_is_factors rfl rfl fun xs hid cdv A outer s H E n0 hr => (dss_cons (ds_sC 2 nd_is_factors (de_d false [("row", 3)] rfl nd_is_factors (di_v rfl (de_ixB rfl hr (de_v 0 (by kernel_rfl)) de_int rfl)) (by kernel_rfl) (fun _ _ _ _ _ _ => (dgn (by kernel_rfl) nd_is_factors)) (fun _ _ _ _ _ _ => dts_nil) (fun _ _ _ _ _ _ => (de_ixB rfl hr (de_v 3 (by kernel_rfl)) de_int rfl)) (fun _ _ _ _ _ _ => (de_ixB rfl hr (de_v 3 (by kernel_rfl)) de_int rfl))) (by kernel_rfl) (by kernel_rfl)) (dss_cons (ds_if (dt_w (dw_or (dt_not (dt_t rfl (de_cD (ok_is_shares c) rfl rfl hr (by decide) (FC.tk _ _ _ _) (da_c (de_v 1 (by kernel_rfl)) da_nil rfl) (by kernel_rfl)) rfl)) (dw_or1 (dt_not (dt_t rfl (de_cB (cr_all rfl) sem_all c.g_all bt_all (da_c (de_l false [("name", 4), ("share", 5)] rfl nd_is_factors (di_v rfl (de_v 1 (by kernel_rfl))) (by kernel_rfl) (fun _ _ _ _ _ _ => (dg_tup rfl rfl (dgs_cons (dgn (by kernel_rfl) nd_is_factors) (dgs_cons (dgn (by kernel_rfl) nd_is_factors) dgs_nil rfl) rfl) rfl rfl)) (fun _ _ _ _ _ _ => dts_nil) (fun _ _ _ _ _ _ => (de_cmp (opr_inX (Room.u65 hr)) (sem_inX (neg := false)) (de_v 4 (by kernel_rfl)) (de_v 2 (by kernel_rfl)) (by kernel_rfl)))) da_nil rfl) (by kernel_rfl)) rfl))))) (dss_cons (ds_ret de_bl) dss_nil) dss_nil) (dss_cons (ds_ret (de_cB (cr_all rfl) sem_all c.g_all bt_all (da_c (de_l false [("name", 4), ("share", 5)] rfl nd_is_factors (di_v rfl (de_v 1 (by kernel_rfl))) (by kernel_rfl) (fun _ _ _ _ _ _ => (dg_tup rfl rfl (dgs_cons (dgn (by kernel_rfl) nd_is_factors) (dgs_cons (dgn (by kernel_rfl) nd_is_factors) dgs_nil rfl) rfl) rfl rfl)) (fun _ _ _ _ _ _ => dts_nil) (fun _ _ _ _ _ _ => (de_or (de_cmp opr_gt sem_gt (de_ixB rfl hr (de_v 5 (by kernel_rfl)) de_int rfl) de_int (by kernel_rfl)) (de_one (de_and (de_cmp (opr_lt hr.units) sem_lt (de_ixB rfl hr (de_v 5 (by kernel_rfl)) de_int rfl) de_int (by kernel_rfl)) (de_one (de_cmp (opr_eq hr.units) (sem_eq (neg := false)) (de_ixB rfl hr (de_v 2 (by kernel_rfl)) (de_v 4 (by kernel_rfl)) rfl) (de_s (by kernel_rfl)) (by kernel_rfl)))))))) da_nil rfl) (by kernel_rfl))) dss_nil)))
/-! _law_cell -/
abbrev s__law_cell : Stmt := top 27
abbrev N__law_cell : List Str := ["script", "k"]
theorem nd__law_cell : N__law_cell.Nodup := by decide +kernel
theorem sc__law_cell : FnScope N__law_cell ["script", "k"] (defScope s__law_cell) := ⟨rfl, rfl, rfl, nd__law_cell, rfl, by decide +kernel, by decide +kernel⟩
noncomputable def B__law_cell (n0 : Nat) : SM := (sSeq (sIf (tVal (m2 fLt (mVar 1) (mCall fLen (aCons (mVar 0) aNil)))) (sSeq (sRet n0 (m2 fIx (mVar 0) (mVar 1))) sNil) sNil) (sSeq (sRet n0 (mD (.int 0))) sNil))
noncomputable def F__law_cell : FS := bodyF 2 B__law_cell
theorem ok__law_cell {P : Program} {w : World} {K : Frag} {mg : Str → Option Value} {base : Heap} {cls : Str → Option Addr} (c : Fx K mg) : Def P w K mg base cls "_law_cell" 2 1 F__law_cell := by
  obtain ⟨f, fd, F, gm⟩ := c.d__law_cell
  exact def_ok F gm (fun _ _ _ _ _ _ us hl => match us, hl with | [_, _], _ => rfl) sc__law_cell rfl rfl fun xs hid cdv A outer s H E n0 hr => (dss_cons (ds_if (dt_cmp (opr_lt hr.units) sem_lt (de_v 1 (by kernel_rfl)) (de_cB call_len sem_len c.g_len bt_len (da_c (de_v 0 (by kernel_rfl)) da_nil rfl) (by kernel_rfl)) (by kernel_rfl)) (dss_cons (ds_ret (de_ixB rfl hr (de_v 0 (by kernel_rfl)) (de_v 1 (by kernel_rfl)) rfl)) dss_nil) dss_nil) (dss_cons (ds_ret de_int) dss_nil))
/-! _law_digits -/
abbrev s__law_digits : Stmt := top 28
abbrev N__law_digits : List Str := ["script", "first", "last", "digits", "k", "cell", "step", "seed"]
theorem nd__law_digits : N__law_digits.Nodup := by decide +kernel
theorem sc__law_digits : FnScope N__law_digits ["script", "first", "last"] (defScope s__law_digits) := ⟨rfl, rfl, rfl, nd__law_digits, rfl, by decide +kernel, by decide +kernel⟩
noncomputable def B__law_digits (n0 : Nat) : SM := (sSeq (sAsg (mLst true aNil) (gN 3)) (sSeq (sFor (mRng2 (aCons (mVar 1) (aCons (mVar 2) aNil))) (gN 4) (sSeq (sAsg (mApp 2 F__law_cell (aCons (mVar 0) (aCons (mVar 4) aNil))) (gN 5)) (sSeq (sIf (tVal (m2 fLt (mVar 5) (mD (.int 0)))) (sSeq (sAsg (m2 fSub (mD (.int 1)) (m2 (fMul false) (mD (.int 2)) (mVar 5))) (gN 5)) sNil) sNil) (sSeq (sIf (tVal (m2 fGt (mCall fLen (aCons (mVar 3) aNil)) (mD (.int 1500)))) (sSeq sBrk sNil) sNil) (sSeq (sIf (tVal (m2 fGe (mVar 5) (m2 fPow (mD (.int 10)) (mD (.int 18))))) (sSeq (sFor (mRng1 (aCons (mD (.int 60)) aNil)) (gN 6) (sSeq (sIf (tVal (m2 fGt (mVar 5) (mD (.int 0)))) (sSeq (sExpr (mMeth isLstV fApp (mVar 3) (aCons (m2 fMod (mCall fInt (aCons (mVar 5) aNil)) (mD (.int 1000))) aNil))) (sSeq (sAsg (m2 fFdiv (mVar 5) (mD (.int 1000))) (gN 5)) sNil)) sNil) sNil)) sNil) (sSeq (sAsg (m2 fMod (mCall fInt (aCons (m2 (fAdd false) (m2 (fAdd false) (m2 (fMul false) (mVar 5) (mD (.int 48271))) (m2 (fMul false) (mVar 4) (mD (.int 69621)))) (mD (.int 11))) aNil)) (mD (.int 2147483647))) (gN 7)) (sSeq (sFor (mRng1 (aCons (mD (.int 12)) aNil)) (gN 6) (sSeq (sAsg (m2 fMod (mCall fInt (aCons (m2 (fAdd false) (m2 (fAdd false) (m2 (fMul false) (mVar 7) (mD (.int 16807))) (m2 (fMul false) (mD (.int 7)) (mVar 6))) (mD (.int 1))) aNil)) (mD (.int 2147483647))) (gN 7)) (sSeq (sExpr (mMeth isLstV fApp (mVar 3) (aCons (m2 fMod (mCall fInt (aCons (m2 fFdiv (mVar 7) (mD (.int 997))) aNil)) (mD (.int 1000))) aNil))) sNil))) sNil))) sNil))))) (sSeq (sRet n0 (mVar 3)) sNil)))
noncomputable def F__law_digits : FS := bodyF 8 B__law_digits
theorem ok__law_digits {P : Program} {w : World} {K : Frag} {mg : Str → Option Value} {base : Heap} {cls : Str → Option Addr} (c : Fx K mg) : Def P w K mg base cls "_law_digits" 3 2 F__law_digits := by
  obtain ⟨f, fd, F, gm⟩ := c.d__law_digits
  exact def_ok F gm (fun _ _ _ _ _ _ us hl => match us, hl with | [_, _, _], _ => rfl) sc__law_digits rfl rfl fun xs hid cdv A outer s H E n0 hr => (dss_cons (ds_s 3 nd__law_digits (de_lst (md := true) da_nil) (by kernel_rfl)) (dss_cons (ds_f (FC.own _ _ _ _) rfl (di_r2 c.g_range (da_c (de_v 1 (by kernel_rfl)) (da_c (de_v 2 (by kernel_rfl)) da_nil rfl) rfl) (by kernel_rfl)) (dgn (by kernel_rfl) nd__law_digits) (dss_cons (ds_s 5 nd__law_digits (de_cD (ok__law_cell c) rfl rfl hr (by decide) (FC.tk _ _ _ _) (da_c (de_v 0 (by kernel_rfl)) (da_c (de_v 4 (by kernel_rfl)) da_nil rfl) rfl) (by kernel_rfl)) (by kernel_rfl)) (dss_cons (ds_if (dt_cmp (opr_lt hr.units) sem_lt (de_v 5 (by kernel_rfl)) de_int (by kernel_rfl)) (dss_cons (ds_s 5 nd__law_digits (de_op op_sub sem_sub de_int (de_op opr_mul (sem_mul (md := false)) de_int (de_v 5 (by kernel_rfl)))) (by kernel_rfl)) dss_nil) dss_nil) (dss_cons (ds_if (dt_cmp opr_gt sem_gt (de_cB call_len sem_len c.g_len bt_len (da_c (de_v 3 (by kernel_rfl)) da_nil rfl) (by kernel_rfl)) de_int (by kernel_rfl)) (dss_cons ds_break dss_nil) dss_nil) (dss_cons (ds_if (dt_cmp opr_ge sem_ge (de_v 5 (by kernel_rfl)) (de_op op_pow sem_pow de_int de_int) (by kernel_rfl)) (dss_cons (ds_f (FC.own _ _ _ _) rfl (di_r1 c.g_range (da_c de_int da_nil rfl) (by kernel_rfl)) (dgn (by kernel_rfl) nd__law_digits) (dss_cons (ds_if (dt_cmp opr_gt sem_gt (de_v 5 (by kernel_rfl)) de_int (by kernel_rfl)) (dss_cons (ds_x (de_mA rfl (de_v 3 (by kernel_rfl)) (da_c (de_op op_modN sem_mod (de_cT callr_int sem_int c.g_int bt_int (da_c (de_v 5 (by kernel_rfl)) da_nil rfl) (by kernel_rfl)) de_int) da_nil rfl) (by kernel_rfl)) rfl) (dss_cons (ds_s 5 nd__law_digits (de_op opr_fdiv sem_fdiv (de_v 5 (by kernel_rfl)) de_int) (by kernel_rfl)) dss_nil)) dss_nil) dss_nil) rfl) dss_nil) (dss_cons (ds_s 7 nd__law_digits (de_op op_modN sem_mod (de_cT callr_int sem_int c.g_int bt_int (da_c (de_op opr_add (sem_add (md := false)) (de_op opr_add (sem_add (md := false)) (de_op opr_mul (sem_mul (md := false)) (de_v 5 (by kernel_rfl)) de_int) (de_op opr_mul (sem_mul (md := false)) (de_v 4 (by kernel_rfl)) de_int)) de_int) da_nil rfl) (by kernel_rfl)) de_int) (by kernel_rfl)) (dss_cons (ds_f (FC.own _ _ _ _) rfl (di_r1 c.g_range (da_c de_int da_nil rfl) (by kernel_rfl)) (dgn (by kernel_rfl) nd__law_digits) (dss_cons (ds_s 7 nd__law_digits (de_op op_modN sem_mod (de_cT callr_int sem_int c.g_int bt_int (da_c (de_op opr_add (sem_add (md := false)) (de_op opr_add (sem_add (md := false)) (de_op opr_mul (sem_mul (md := false)) (de_v 7 (by kernel_rfl)) de_int) (de_op opr_mul (sem_mul (md := false)) de_int (de_v 6 (by kernel_rfl)))) de_int) da_nil rfl) (by kernel_rfl)) de_int) (by kernel_rfl)) (dss_cons (ds_x (de_mA rfl (de_v 3 (by kernel_rfl)) (da_c (de_op op_modN sem_mod (de_cT callr_int sem_int c.g_int bt_int (da_c (de_op opr_fdiv sem_fdiv (de_v 7 (by kernel_rfl)) de_int) da_nil rfl) (by kernel_rfl)) de_int) da_nil rfl) (by kernel_rfl)) rfl) dss_nil)) rfl) dss_nil))) dss_nil)))) rfl) (dss_cons (ds_ret (de_v 3 (by kernel_rfl))) dss_nil)))
/-! _law_draw -/
abbrev s__law_draw : Stmt := top 29
abbrev N__law_draw : List Str := ["box", "many", "at"]
theorem nd__law_draw : N__law_draw.Nodup := by decide +kernel
theorem sc__law_draw : FnScope N__law_draw ["box", "many"] (defScope s__law_draw) := ⟨rfl, rfl, rfl, nd__law_draw, rfl, by decide +kernel, by decide +kernel⟩
noncomputable def B__law_draw (n0 : Nat) : SM := (sSeq (sAsg (m2 fIx (mVar 0) (mD (.int 1))) (gN 2)) (sSeq (sSub (mVar 0) (mD (.int 1)) (m2 (fAdd false) (mVar 2) (mD (.int 1)))) (sSeq (sIf (tVal (m2 fLt (mVar 2) (mCall fLen (aCons (m2 fIx (mVar 0) (mD (.int 0))) aNil)))) (sSeq (sRet n0 (m2 fMod (mCall fInt (aCons (m2 fIx (m2 fIx (mVar 0) (mD (.int 0))) (mVar 2)) aNil)) (mVar 1))) sNil) sNil) (sSeq (sRet n0 (m2 fMod (mCall fInt (aCons (m2 (fMul false) (mVar 2) (mD (.int 7))) aNil)) (mVar 1))) sNil))))
noncomputable def F__law_draw : FS := bodyF 3 B__law_draw
theorem ok__law_draw {P : Program} {w : World} {K : Frag} {mg : Str → Option Value} {base : Heap} {cls : Str → Option Addr} (c : Fx K mg) : Def P w K mg base cls "_law_draw" 2 1 F__law_draw := by
  obtain ⟨f, fd, F, gm⟩ := c.d__law_draw
  exact def_ok F gm (fun _ _ _ _ _ _ us hl => match us, hl with | [_, _], _ => rfl) sc__law_draw rfl rfl fun xs hid cdv A outer s H E n0 hr => (dss_cons (ds_s 2 nd__law_draw (de_ixB rfl hr (de_v 0 (by kernel_rfl)) de_int rfl) (by kernel_rfl)) (dss_cons (ds_i (de_op opr_add (sem_add (md := false)) (de_v 2 (by kernel_rfl)) de_int) (de_v 0 (by kernel_rfl)) de_int rfl) (dss_cons (ds_if (dt_cmp (opr_lt hr.units) sem_lt (de_v 2 (by kernel_rfl)) (de_cB call_len sem_len c.g_len bt_len (da_c (de_ixB rfl hr (de_v 0 (by kernel_rfl)) de_int rfl) da_nil rfl) (by kernel_rfl)) (by kernel_rfl)) (dss_cons (ds_ret (de_op op_modN sem_mod (de_cT callr_int sem_int c.g_int bt_int (da_c (de_ixB rfl hr (de_ixB rfl hr (de_v 0 (by kernel_rfl)) de_int rfl) (de_v 2 (by kernel_rfl)) rfl) da_nil rfl) (by kernel_rfl)) (de_v 1 (by kernel_rfl)))) dss_nil) dss_nil) (dss_cons (ds_ret (de_op op_modN sem_mod (de_cT callr_int sem_int c.g_int bt_int (da_c (de_op opr_mul (sem_mul (md := false)) (de_v 2 (by kernel_rfl)) de_int) da_nil rfl) (by kernel_rfl)) (de_v 1 (by kernel_rfl)))) dss_nil))))
/-! _law_like -/
abbrev s__law_like : Stmt := top 30
abbrev N__law_like : List Str := ["told", "due", "k"]
theorem nd__law_like : N__law_like.Nodup := by decide +kernel
theorem sc__law_like : FnScope N__law_like ["told", "due"] (defScope s__law_like) := ⟨rfl, rfl, rfl, nd__law_like, rfl, by decide +kernel, by decide +kernel⟩
noncomputable def B__law_like (rec : FS) (n0 : Nat) : SM := (sSeq (sIf (tTruth (mIsi "tuple" (mVar 1))) (sSeq (sIf (tOrM (tNotM (tTruth (mIsi "tuple" (mVar 0)))) (tVal (m2 (fEq true) (mCall fLen (aCons (mVar 0) aNil)) (mCall fLen (aCons (mVar 1) aNil))))) (sSeq (sRet n0 (mD (.bl false))) sNil) sNil) (sSeq (sRet n0 (m2 (fEq false) (mComp false [2] (mRng1 (aCons (mCall fLen (aCons (mVar 1) aNil)) aNil)) (gN 2) (tNotM (tTruth (mApp 2 rec (aCons (m2 fIx (mVar 0) (mVar 2)) (aCons (m2 fIx (mVar 1) (mVar 2)) aNil))))) (mD (.int 1))) (mLst false aNil))) sNil)) sNil) (sSeq (sIf (tVal (m2 (fIs false) (mVar 1) (mD .non))) (sSeq (sRet n0 (m2 (fIs false) (mVar 0) (mD .non))) sNil) sNil) (sSeq (sIf (tVal (m2 (fIs false) (mVar 1) (mD (.bl true)))) (sSeq (sRet n0 (m2 (fIs false) (mVar 0) (mD (.bl true)))) sNil) sNil) (sSeq (sIf (tVal (m2 (fIs false) (mVar 1) (mD (.bl false)))) (sSeq (sRet n0 (m2 (fIs false) (mVar 0) (mD (.bl false)))) sNil) sNil) (sSeq (sIf (tTruth (mIsi "str" (mVar 1))) (sSeq (sRet n0 (mAndV (mIsi "str" (mVar 0)) (m2 (fEq false) (mMeth isStrV fJoin (mD (.str [])) (aCons (mLst false (aCons (mVar 0) aNil)) aNil)) (mVar 1)))) sNil) sNil) (sSeq (sRet n0 (mAndV (mIsi "int" (mVar 0)) (mAndV (mNotV (mIsi "bool" (mVar 0))) (m2 (fEq false) (mVar 0) (mVar 1))))) sNil))))))
noncomputable def F__law_like : Nat → FS
  | 0 => fun _ _ => .fail
  | d + 1 => bodyF 3 (B__law_like (F__law_like d))
theorem ok__law_like {P : Program} {w : World} {K : Frag} {mg : Str → Option Value} {base : Heap} {cls : Str → Option Addr} (c : Fx K mg) : ∀ d, Def P w K mg base cls "_law_like" 2 (0 + d) (F__law_like d)
  | 0 => by
    obtain ⟨f, fd, F, gm⟩ := c.d__law_like
    exact def_fail (ps := ["told", "due"]) F gm (fun _ _ _ _ _ _ us hl => match us, hl with | [_, _], _ => rfl)
  | d + 1 => by
    have ih := ok__law_like (P := P) (w := w) (base := base) (cls := cls) c d
    obtain ⟨f, fd, F, gm⟩ := c.d__law_like
    exact def_ok F gm (fun _ _ _ _ _ _ us hl => match us, hl with | [_, _], _ => rfl) sc__law_like rfl rfl fun xs hid cdv A outer s H E n0 hr => (dss_cons (ds_if (dt_t rfl (de_isB rfl c.g_isinstance c.g_tuple bt_tuple (de_v 1 (by kernel_rfl)) (by kernel_rfl)) rfl) (dss_cons (ds_if (dt_w (dw_or (dt_not (dt_t rfl (de_isB rfl c.g_isinstance c.g_tuple bt_tuple (de_v 0 (by kernel_rfl)) (by kernel_rfl)) rfl)) (dw_or1 (dt_cmp (opr_ne hr.units) (sem_eq (neg := true)) (de_cB call_len sem_len c.g_len bt_len (da_c (de_v 0 (by kernel_rfl)) da_nil rfl) (by kernel_rfl)) (de_cB call_len sem_len c.g_len bt_len (da_c (de_v 1 (by kernel_rfl)) da_nil rfl) (by kernel_rfl)) (by kernel_rfl))))) (dss_cons (ds_ret de_bl) dss_nil) dss_nil) (dss_cons (ds_ret (de_cmp (opr_eq hr.units) (sem_eq (neg := false)) (de_l false [("k", 2)] rfl nd__law_like (di_r1 c.g_range (da_c (de_cB call_len sem_len c.g_len bt_len (da_c (de_v 1 (by kernel_rfl)) da_nil rfl) (by kernel_rfl)) da_nil rfl) (by kernel_rfl)) (by kernel_rfl) (fun _ _ _ _ _ _ => (dgn (by kernel_rfl) nd__law_like)) (fun _ _ _ _ _ _ => (dts_one (dt_not (dt_t rfl (de_cD ih rfl rfl hr (Nat.le_refl _) takes0 (da_c (de_ixB rfl hr (de_v 0 (by kernel_rfl)) (de_v 2 (by kernel_rfl)) rfl) (da_c (de_ixB rfl hr (de_v 1 (by kernel_rfl)) (de_v 2 (by kernel_rfl)) rfl) da_nil rfl) rfl) (by kernel_rfl)) rfl)))) (fun _ _ _ _ _ _ => de_int)) (de_lst (md := false) da_nil) (by kernel_rfl))) dss_nil)) dss_nil) (dss_cons (ds_if (dt_cmp opr_is (sem_is (neg := false)) (de_v 1 (by kernel_rfl)) de_non (by kernel_rfl)) (dss_cons (ds_ret (de_cmp opr_is (sem_is (neg := false)) (de_v 0 (by kernel_rfl)) de_non (by kernel_rfl))) dss_nil) dss_nil) (dss_cons (ds_if (dt_cmp opr_is (sem_is (neg := false)) (de_v 1 (by kernel_rfl)) de_bl (by kernel_rfl)) (dss_cons (ds_ret (de_cmp opr_is (sem_is (neg := false)) (de_v 0 (by kernel_rfl)) de_bl (by kernel_rfl))) dss_nil) dss_nil) (dss_cons (ds_if (dt_cmp opr_is (sem_is (neg := false)) (de_v 1 (by kernel_rfl)) de_bl (by kernel_rfl)) (dss_cons (ds_ret (de_cmp opr_is (sem_is (neg := false)) (de_v 0 (by kernel_rfl)) de_bl (by kernel_rfl))) dss_nil) dss_nil) (dss_cons (ds_if (dt_t rfl (de_isB rfl c.g_isinstance c.g_str bt_str (de_v 1 (by kernel_rfl)) (by kernel_rfl)) rfl) (dss_cons (ds_ret (de_and (de_isB rfl c.g_isinstance c.g_str bt_str (de_v 0 (by kernel_rfl)) (by kernel_rfl)) (de_one (de_cmp (opr_eq hr.units) (sem_eq (neg := false)) (de_mJ rfl (de_s (by kernel_rfl)) (da_c (de_lst (md := false) (da_c (de_v 0 (by kernel_rfl)) da_nil rfl)) da_nil rfl) (by kernel_rfl)) (de_v 1 (by kernel_rfl)) (by kernel_rfl))))) dss_nil) dss_nil) (dss_cons (ds_ret (de_and (de_isB rfl c.g_isinstance c.g_int bt_int (de_v 0 (by kernel_rfl)) (by kernel_rfl)) (de_and (de_not (de_isB rfl c.g_isinstance c.g_bool bt_bool (de_v 0 (by kernel_rfl)) (by kernel_rfl))) (de_one (de_cmp (opr_eq hr.units) (sem_eq (neg := false)) (de_v 0 (by kernel_rfl)) (de_v 1 (by kernel_rfl)) (by kernel_rfl)))))) dss_nil))))))
/-! _law_is_name -/
abbrev s__law_is_name : Stmt := top 31
abbrev N__law_is_name : List Str := ["text", "sign"]
theorem nd__law_is_name : N__law_is_name.Nodup := by decide +kernel
theorem sc__law_is_name : FnScope N__law_is_name ["text"] (defScope s__law_is_name) := ⟨rfl, rfl, rfl, nd__law_is_name, rfl, by decide +kernel, by decide +kernel⟩
noncomputable def B__law_is_name (n0 : Nat) : SM := (sSeq (sIf (tOrM (tNotM (tVal (mChain fLe fLe (mD (.int 1)) (mCall fLen (aCons (mVar 0) aNil)) (mD (.int 10))))) (tVal (m2 (fInX true) (m2 fIx (mVar 0) (mD (.int 0))) (mD (.str ['a', 'b', 'c', 'd', 'e', 'f', 'g', 'h', 'i', 'j', 'k', 'l', 'm', 'n', 'o', 'p', 'q', 'r', 's', 't', 'u', 'v', 'w', 'x', 'y', 'z']))))) (sSeq (sRet n0 (mD (.bl false))) sNil) sNil) (sSeq (sRet n0 (m2 (fEq false) (mComp false [1] (mIter (mVar 0)) (gN 1) (tVal (m2 (fInX true) (mVar 1) (mD (.str ['a', 'b', 'c', 'd', 'e', 'f', 'g', 'h', 'i', 'j', 'k', 'l', 'm', 'n', 'o', 'p', 'q', 'r', 's', 't', 'u', 'v', 'w', 'x', 'y', 'z', '0', '1', '2', '3', '4', '5', '6', '7', '8', '9'])))) (mVar 1)) (mLst false aNil))) sNil))
noncomputable def F__law_is_name : FS := bodyF 2 B__law_is_name
theorem ok__law_is_name {P : Program} {w : World} {K : Frag} {mg : Str → Option Value} {base : Heap} {cls : Str → Option Addr} (c : Fx K mg) : Def P w K mg base cls "_law_is_name" 1 1 F__law_is_name := by
  obtain ⟨f, fd, F, gm⟩ := c.d__law_is_name
  exact def_ok F gm (fun _ _ _ _ _ _ us hl => match us, hl with | [_], _ => rfl) sc__law_is_name rfl rfl fun xs hid cdv A outer s H E n0 hr => (dss_cons (ds_if (dt_w (dw_or (dt_not (dt_chain opr_le opr_le sem_le sem_le de_int (de_cB call_len sem_len c.g_len bt_len (da_c (de_v 0 (by kernel_rfl)) da_nil rfl) (by kernel_rfl)) de_int (by kernel_rfl))) (dw_or1 (dt_cmp (opr_notinX (Room.u65 hr)) (sem_inX (neg := true)) (de_ixB rfl hr (de_v 0 (by kernel_rfl)) de_int rfl) (de_s (by kernel_rfl)) (by kernel_rfl))))) (dss_cons (ds_ret de_bl) dss_nil) dss_nil) (dss_cons (ds_ret (de_cmp (opr_eq hr.units) (sem_eq (neg := false)) (de_l false [("sign", 1)] rfl nd__law_is_name (di_v rfl (de_v 0 (by kernel_rfl))) (by kernel_rfl) (fun _ _ _ _ _ _ => (dgn (by kernel_rfl) nd__law_is_name)) (fun _ _ _ _ _ _ => (dts_one (dt_cmp (opr_notinX (Room.u65 hr)) (sem_inX (neg := true)) (de_v 1 (by kernel_rfl)) (de_s (by kernel_rfl)) (by kernel_rfl)))) (fun _ _ _ _ _ _ => (de_v 1 (by kernel_rfl)))) (de_lst (md := false) da_nil) (by kernel_rfl))) dss_nil))
/-! _law_whole -/
abbrev s__law_whole : Stmt := top 32
abbrev N__law_whole : List Str := ["thing", "low", "high"]
theorem nd__law_whole : N__law_whole.Nodup := by decide +kernel
theorem sc__law_whole : FnScope N__law_whole ["thing", "low", "high"] (defScope s__law_whole) := ⟨rfl, rfl, rfl, nd__law_whole, rfl, by decide +kernel, by decide +kernel⟩
noncomputable def B__law_whole (n0 : Nat) : SM := (sSeq (sIf (tOrM (tNotM (tTruth (mIsi "int" (mVar 0)))) (tTruth (mIsi "bool" (mVar 0)))) (sSeq (sRet n0 (mD (.bl false))) sNil) sNil) (sSeq (sRet n0 (mAndV (mOrV (m2 (fIs false) (mVar 1) (mD .non)) (m2 fLe (mVar 1) (mVar 0))) (mOrV (m2 (fIs false) (mVar 2) (mD .non)) (m2 fLe (mVar 0) (mVar 2))))) sNil))
noncomputable def F__law_whole : FS := bodyF 3 B__law_whole
theorem ok__law_whole {P : Program} {w : World} {K : Frag} {mg : Str → Option Value} {base : Heap} {cls : Str → Option Addr} (c : Fx K mg) : Def P w K mg base cls "_law_whole" 3 1 F__law_whole := by
  obtain ⟨f, fd, F, gm⟩ := c.d__law_whole
  exact def_ok F gm (fun _ _ _ _ _ _ us hl => match us, hl with | [_, _, _], _ => rfl) sc__law_whole rfl rfl fun xs hid cdv A outer s H E n0 hr => (dss_cons (ds_if (dt_w (dw_or (dt_not (dt_t rfl (de_isB rfl c.g_isinstance c.g_int bt_int (de_v 0 (by kernel_rfl)) (by kernel_rfl)) rfl)) (dw_or1 (dt_t rfl (de_isB rfl c.g_isinstance c.g_bool bt_bool (de_v 0 (by kernel_rfl)) (by kernel_rfl)) rfl)))) (dss_cons (ds_ret de_bl) dss_nil) dss_nil) (dss_cons (ds_ret (de_and (de_or (de_cmp opr_is (sem_is (neg := false)) (de_v 1 (by kernel_rfl)) de_non (by kernel_rfl)) (de_one (de_cmp opr_le sem_le (de_v 1 (by kernel_rfl)) (de_v 0 (by kernel_rfl)) (by kernel_rfl)))) (de_one (de_or (de_cmp opr_is (sem_is (neg := false)) (de_v 2 (by kernel_rfl)) de_non (by kernel_rfl)) (de_one (de_cmp opr_le sem_le (de_v 0 (by kernel_rfl)) (de_v 2 (by kernel_rfl)) (by kernel_rfl))))))) dss_nil))
/-! _law_named -/
abbrev s__law_named : Stmt := top 33
abbrev N__law_named : List Str := ["thing"]
theorem nd__law_named : N__law_named.Nodup := by decide +kernel
theorem sc__law_named : FnScope N__law_named ["thing"] (defScope s__law_named) := ⟨rfl, rfl, rfl, nd__law_named, rfl, by decide +kernel, by decide +kernel⟩
noncomputable def B__law_named (n0 : Nat) : SM := (sSeq (sRet n0 (mAndV (mIsi "str" (mVar 0)) (mApp 1 F__law_is_name (aCons (mVar 0) aNil)))) sNil)
noncomputable def F__law_named : FS := bodyF 1 B__law_named
theorem ok__law_named {P : Program} {w : World} {K : Frag} {mg : Str → Option Value} {base : Heap} {cls : Str → Option Addr} (c : Fx K mg) : Def P w K mg base cls "_law_named" 1 2 F__law_named := by
  obtain ⟨f, fd, F, gm⟩ := c.d__law_named
  exact def_ok F gm (fun _ _ _ _ _ _ us hl => match us, hl with | [_], _ => rfl) sc__law_named rfl rfl fun xs hid cdv A outer s H E n0 hr => (dss_cons (ds_ret (de_and (de_isB rfl c.g_isinstance c.g_str bt_str (de_v 0 (by kernel_rfl)) (by kernel_rfl)) (de_one (de_cD (ok__law_is_name c) rfl rfl hr (by decide) (FC.tk _ _ _ _) (da_c (de_v 0 (by kernel_rfl)) da_nil rfl) (by kernel_rfl))))) dss_nil)
/-! _law_ascending -/
abbrev s__law_ascending : Stmt := top 34
abbrev N__law_ascending : List Str := ["rows", "k"]
theorem nd__law_ascending : N__law_ascending.Nodup := by decide +kernel
theorem sc__law_ascending : FnScope N__law_ascending ["rows"] (defScope s__law_ascending) := ⟨rfl, rfl, rfl, nd__law_ascending, rfl, by decide +kernel, by decide +kernel⟩
noncomputable def B__law_ascending (n0 : Nat) : SM := (sSeq (sRet n0 (m2 (fEq false) (mComp false [1] (mRng2 (aCons (mD (.int 1)) (aCons (mCall fLen (aCons (mVar 0) aNil)) aNil))) (gN 1) (tVal (m2 fGe (m2 fIx (mVar 0) (m2 fSub (mVar 1) (mD (.int 1)))) (m2 fIx (mVar 0) (mVar 1)))) (mD (.int 1))) (mLst false aNil))) sNil)
noncomputable def F__law_ascending : FS := bodyF 2 B__law_ascending
theorem ok__law_ascending {P : Program} {w : World} {K : Frag} {mg : Str → Option Value} {base : Heap} {cls : Str → Option Addr} (c : Fx K mg) : Def P w K mg base cls "_law_ascending" 1 1 F__law_ascending := by
  obtain ⟨f, fd, F, gm⟩ := c.d__law_ascending
  exact def_ok F gm (fun _ _ _ _ _ _ us hl => match us, hl with | [_], _ => rfl) sc__law_ascending rfl rfl fun xs hid cdv A outer s H E n0 hr => (dss_cons (ds_ret (de_cmp (opr_eq hr.units) (sem_eq (neg := false)) (de_l false [("k", 1)] rfl nd__law_ascending (di_r2 c.g_range (da_c de_int (da_c (de_cB call_len sem_len c.g_len bt_len (da_c (de_v 0 (by kernel_rfl)) da_nil rfl) (by kernel_rfl)) da_nil rfl) rfl) (by kernel_rfl)) (by kernel_rfl) (fun _ _ _ _ _ _ => (dgn (by kernel_rfl) nd__law_ascending)) (fun _ _ _ _ _ _ => (dts_one (dt_cmp opr_ge sem_ge (de_ixB rfl hr (de_v 0 (by kernel_rfl)) (de_op op_sub sem_sub (de_v 1 (by kernel_rfl)) de_int) rfl) (de_ixB rfl hr (de_v 0 (by kernel_rfl)) (de_v 1 (by kernel_rfl)) rfl) (by kernel_rfl)))) (fun _ _ _ _ _ _ => de_int)) (de_lst (md := false) da_nil) (by kernel_rfl))) dss_nil)
/-! _law_low -/
abbrev s__law_low : Stmt := top 35
abbrev N__law_low : List Str := ["number", "by", "one", "two"]
theorem nd__law_low : N__law_low.Nodup := by decide +kernel
theorem sc__law_low : FnScope N__law_low ["number", "by"] (defScope s__law_low) := ⟨rfl, rfl, rfl, nd__law_low, rfl, by decide +kernel, by decide +kernel⟩
noncomputable def B__law_low (n0 : Nat) : SM := (sSeq (sParN [2, 3] (aCons (mCall fAbs (aCons (mVar 0) aNil)) (aCons (mVar 1) aNil))) (sSeq (sWhile (tVal (m2 fGt (mVar 3) (mD (.int 0)))) (sSeq (sParN [2, 3] (aCons (mVar 3) (aCons (m2 fMod (mVar 2) (mVar 3)) aNil))) sNil)) (sSeq (sRet n0 (mTup (aCons (m2 fFdiv (mVar 0) (mVar 2)) (aCons (m2 fFdiv (mVar 1) (mVar 2)) aNil)))) sNil)))
noncomputable def F__law_low : FS := bodyF 4 B__law_low
theorem ok__law_low {P : Program} {w : World} {K : Frag} {mg : Str → Option Value} {base : Heap} {cls : Str → Option Addr} (c : Fx K mg) : Def P w K mg base cls "_law_low" 2 1 F__law_low := by
  obtain ⟨f, fd, F, gm⟩ := c.d__law_low
  exact def_ok F gm (fun _ _ _ _ _ _ us hl => match us, hl with | [_, _], _ => rfl) sc__law_low rfl rfl fun xs hid cdv A outer s H E n0 hr => (dss_cons (ds_p2 (i := 2) (j := 3) rfl nd__law_low (da_c (de_cB call_abs sem_abs c.g_abs bt_abs (da_c (de_v 0 (by kernel_rfl)) da_nil rfl) (by kernel_rfl)) (da_c (de_v 1 (by kernel_rfl)) da_nil rfl) rfl) (by kernel_rfl) (by kernel_rfl)) (dss_cons (ds_while (FC.own _ _ _ _) (dt_cmp opr_gt sem_gt (de_v 3 (by kernel_rfl)) de_int (by kernel_rfl)) (dss_cons (ds_p2 (i := 2) (j := 3) rfl nd__law_low (da_c (de_v 3 (by kernel_rfl)) (da_c (de_op op_modN sem_mod (de_v 2 (by kernel_rfl)) (de_v 3 (by kernel_rfl))) da_nil rfl) rfl) (by kernel_rfl) (by kernel_rfl)) dss_nil)) (dss_cons (ds_ret (de_tup (da_c (de_op opr_fdiv sem_fdiv (de_v 0 (by kernel_rfl)) (de_v 2 (by kernel_rfl))) (da_c (de_op opr_fdiv sem_fdiv (de_v 1 (by kernel_rfl)) (de_v 2 (by kernel_rfl))) da_nil rfl) rfl))) dss_nil)))
/-! _law_is_fraction -/
abbrev s__law_is_fraction : Stmt := top 36
abbrev N__law_is_fraction : List Str := ["thing"]
theorem nd__law_is_fraction : N__law_is_fraction.Nodup := by decide +kernel
theorem sc__law_is_fraction : FnScope N__law_is_fraction ["thing"] (defScope s__law_is_fraction) := ⟨rfl, rfl, rfl, nd__law_is_fraction, rfl, by decide +kernel, by decide +kernel⟩
noncomputable def B__law_is_fraction (n0 : Nat) : SM := (sSeq (sIf (tOrM (tNotM (tTruth (mIsi "tuple" (mVar 0)))) (tOrM (tVal (m2 (fEq true) (mCall fLen (aCons (mVar 0) aNil)) (mD (.int 2)))) (tOrM (tNotM (tTruth (mApp 3 F__law_whole (aCons (m2 fIx (mVar 0) (mD (.int 0))) (aCons (mD .non) (aCons (mD .non) aNil)))))) (tNotM (tTruth (mApp 3 F__law_whole (aCons (m2 fIx (mVar 0) (mD (.int 1))) (aCons (mD (.int 1)) (aCons (mD .non) aNil))))))))) (sSeq (sRet n0 (mD (.bl false))) sNil) sNil) (sSeq (sRet n0 (m2 (fEq false) (mApp 2 F__law_low (aCons (m2 fIx (mVar 0) (mD (.int 0))) (aCons (m2 fIx (mVar 0) (mD (.int 1))) aNil))) (mVar 0))) sNil))
noncomputable def F__law_is_fraction : FS := bodyF 1 B__law_is_fraction
theorem ok__law_is_fraction {P : Program} {w : World} {K : Frag} {mg : Str → Option Value} {base : Heap} {cls : Str → Option Addr} (c : Fx K mg) : Def P w K mg base cls "_law_is_fraction" 1 2 F__law_is_fraction := by
  obtain ⟨f, fd, F, gm⟩ := c.d__law_is_fraction
  exact def_ok F gm (fun _ _ _ _ _ _ us hl => match us, hl with | [_], _ => rfl) sc__law_is_fraction rfl rfl fun xs hid cdv A outer s H E n0 hr => (dss_cons (ds_if (dt_w (dw_or (dt_not (dt_t rfl (de_isB rfl c.g_isinstance c.g_tuple bt_tuple (de_v 0 (by kernel_rfl)) (by kernel_rfl)) rfl)) (dw_or (dt_cmp (opr_ne hr.units) (sem_eq (neg := true)) (de_cB call_len sem_len c.g_len bt_len (da_c (de_v 0 (by kernel_rfl)) da_nil rfl) (by kernel_rfl)) de_int (by kernel_rfl)) (dw_or (dt_not (dt_t rfl (de_cD (ok__law_whole c) rfl rfl hr (by decide) (FC.tk _ _ _ _) (da_c (de_ixB rfl hr (de_v 0 (by kernel_rfl)) de_int rfl) (da_c de_non (da_c de_non da_nil rfl) rfl) rfl) (by kernel_rfl)) rfl)) (dw_or1 (dt_not (dt_t rfl (de_cD (ok__law_whole c) rfl rfl hr (by decide) (FC.tk _ _ _ _) (da_c (de_ixB rfl hr (de_v 0 (by kernel_rfl)) de_int rfl) (da_c de_int (da_c de_non da_nil rfl) rfl) rfl) (by kernel_rfl)) rfl))))))) (dss_cons (ds_ret de_bl) dss_nil) dss_nil) (dss_cons (ds_ret (de_cmp (opr_eq hr.units) (sem_eq (neg := false)) (de_cD (ok__law_low c) rfl rfl hr (by decide) (FC.tk _ _ _ _) (da_c (de_ixB rfl hr (de_v 0 (by kernel_rfl)) de_int rfl) (da_c (de_ixB rfl hr (de_v 0 (by kernel_rfl)) de_int rfl) da_nil rfl) rfl) (by kernel_rfl)) (de_v 0 (by kernel_rfl)) (by kernel_rfl))) dss_nil))
/-! _law_scaled -/
abbrev s__law_scaled : Stmt := top 37
abbrev N__law_scaled : List Str := ["one", "number"]
theorem nd__law_scaled : N__law_scaled.Nodup := by decide +kernel
theorem sc__law_scaled : FnScope N__law_scaled ["one", "number"] (defScope s__law_scaled) := ⟨rfl, rfl, rfl, nd__law_scaled, rfl, by decide +kernel, by decide +kernel⟩
noncomputable def B__law_scaled (n0 : Nat) : SM := (sSeq (sRet n0 (mApp 2 F__law_low (aCons (m2 (fMul false) (m2 fIx (mVar 0) (mD (.int 0))) (mVar 1)) (aCons (m2 fIx (mVar 0) (mD (.int 1))) aNil)))) sNil)
noncomputable def F__law_scaled : FS := bodyF 2 B__law_scaled
theorem ok__law_scaled {P : Program} {w : World} {K : Frag} {mg : Str → Option Value} {base : Heap} {cls : Str → Option Addr} (c : Fx K mg) : Def P w K mg base cls "_law_scaled" 2 2 F__law_scaled := by
  obtain ⟨f, fd, F, gm⟩ := c.d__law_scaled
  exact def_ok F gm (fun _ _ _ _ _ _ us hl => match us, hl with | [_, _], _ => rfl) sc__law_scaled rfl rfl fun xs hid cdv A outer s H E n0 hr => (dss_cons (ds_ret (de_cD (ok__law_low c) rfl rfl hr (by decide) (FC.tk _ _ _ _) (da_c (de_op opr_mul (sem_mul (md := false)) (de_ixB rfl hr (de_v 0 (by kernel_rfl)) de_int rfl) (de_v 1 (by kernel_rfl))) (da_c (de_ixB rfl hr (de_v 0 (by kernel_rfl)) de_int rfl) da_nil rfl) rfl) (by kernel_rfl))) dss_nil)
/-! _law_terms -/
abbrev s__law_terms : Stmt := top 38
abbrev N__law_terms : List Str := ["box", "names", "most", "rows", "name", "row"]
theorem nd__law_terms : N__law_terms.Nodup := by decide +kernel
theorem sc__law_terms : FnScope N__law_terms ["box", "names", "most"] (defScope s__law_terms) := ⟨rfl, rfl, rfl, nd__law_terms, rfl, by decide +kernel, by decide +kernel⟩
noncomputable def B__law_terms (n0 : Nat) : SM := (sSeq (sAsg (mComp false [4] (mIter (mVar 1)) (gN 4) tmYes (mTup (aCons (mVar 4) (aCons (m2 fSub (mApp 2 F__law_draw (aCons (mVar 0) (aCons (m2 (fAdd false) (m2 (fMul false) (mD (.int 2)) (mVar 2)) (mD (.int 1))) aNil))) (mVar 2)) aNil)))) (gN 3)) (sSeq (sRet n0 (mCall fTuple (aCons (mComp false [5] (mIter (mVar 3)) (gN 5) (tVal (m2 (fEq true) (m2 fIx (mVar 5) (mD (.int 1))) (mD (.int 0)))) (mVar 5)) aNil))) sNil))
noncomputable def F__law_terms : FS := bodyF 6 B__law_terms
theorem ok__law_terms {P : Program} {w : World} {K : Frag} {mg : Str → Option Value} {base : Heap} {cls : Str → Option Addr} (c : Fx K mg) : Def P w K mg base cls "_law_terms" 3 2 F__law_terms := by
  obtain ⟨f, fd, F, gm⟩ := c.d__law_terms
  exact def_ok F gm (fun _ _ _ _ _ _ us hl => match us, hl with | [_, _, _], _ => rfl) sc__law_terms rfl rfl fun xs hid cdv A outer s H E n0 hr => (dss_cons (ds_sL 3 false [("name", 4)] rfl nd__law_terms (di_v rfl (de_v 1 (by kernel_rfl))) (by kernel_rfl) (by kernel_rfl) (by kernel_rfl) (fun _ _ _ _ _ _ => (dgn (by kernel_rfl) nd__law_terms)) (fun _ _ _ _ _ _ => dts_nil) (fun _ _ _ _ _ _ => (de_tup (da_c (de_v 4 (by kernel_rfl)) (da_c (de_op op_sub sem_sub (de_cD (ok__law_draw c) rfl rfl hr (by decide) takes0 (da_c (de_v 0 (by kernel_rfl)) (da_c (de_op opr_add (sem_add (md := false)) (de_op opr_mul (sem_mul (md := false)) de_int (de_v 2 (by kernel_rfl))) de_int) da_nil rfl) rfl) (by kernel_rfl)) (de_v 2 (by kernel_rfl))) da_nil rfl) rfl)))) (dss_cons (ds_ret (de_cT call_tuple_of sem_tuple c.g_tuple bt_tuple (da_c (de_l false [("row", 5)] rfl nd__law_terms (di_v rfl (de_v 3 (by kernel_rfl))) (by kernel_rfl) (fun _ _ _ _ _ _ => (dgn (by kernel_rfl) nd__law_terms)) (fun _ _ _ _ _ _ => (dts_one (dt_cmp (opr_ne hr.units) (sem_eq (neg := true)) (de_ixB rfl hr (de_v 5 (by kernel_rfl)) de_int rfl) de_int (by kernel_rfl)))) (fun _ _ _ _ _ _ => (de_v 5 (by kernel_rfl)))) da_nil rfl) (by kernel_rfl))) dss_nil))
/-! _law_rows -/
abbrev s__law_rows : Stmt := top 39
abbrev N__law_rows : List Str := ["box", "many", "rows", "names", "found", "k", "kind"]
theorem nd__law_rows : N__law_rows.Nodup := by decide +kernel
theorem sc__law_rows : FnScope N__law_rows ["box", "many", "rows"] (defScope s__law_rows) := ⟨rfl, rfl, rfl, nd__law_rows, rfl, by decide +kernel, by decide +kernel⟩
noncomputable def B__law_rows (n0 : Nat) : SM := (sSeq (sAsg (mCall fTuple (aCons (mComp false [5] (mRng1 (aCons (mVar 1) aNil)) (gN 5) tmYes (m2 (fAdd false) (mD (.str ['x'])) (mCall fStr (aCons (mVar 5) aNil)))) aNil)) (gN 3)) (sSeq (sAsg (mLst true aNil) (gN 4)) (sSeq (sFor (mRng1 (aCons (mApp 2 F__law_draw (aCons (mVar 0) (aCons (m2 (fAdd false) (mVar 2) (mD (.int 1))) aNil))) aNil)) (gN 5) (sSeq (sAsg (mIf (tVal (m2 (fEq false) (mApp 2 F__law_draw (aCons (mVar 0) (aCons (mD (.int 6)) aNil))) (mD (.int 0)))) (mD (.str ['j', 'u', 's', 't'])) (mD (.str ['m', 'o', 's', 't']))) (gN 6)) (sSeq (sExpr (mMeth isLstV fApp (mVar 4) (aCons (mTup (aCons (m2 (fAdd false) (mD (.str ['r'])) (mCall fStr (aCons (mVar 5) aNil))) (aCons (mApp 3 F__law_terms (aCons (mVar 0) (aCons (mVar 3) (aCons (mD (.int 3)) aNil)))) (aCons (mVar 6) (aCons (m2 fSub (mApp 2 F__law_draw (aCons (mVar 0) (aCons (mD (.int 14)) aNil))) (mD (.int 4))) aNil))))) aNil))) sNil))) (sSeq (sRet n0 (mTup (aCons (mD (.str ['r', 'o', 'w', 's'])) (aCons (mVar 3) (aCons (mCall fTuple (aCons (mCall (fSorted false) (aCons (mVar 4) aNil)) aNil)) aNil))))) sNil))))
noncomputable def F__law_rows : FS := bodyF 7 B__law_rows
theorem ok__law_rows {P : Program} {w : World} {K : Frag} {mg : Str → Option Value} {base : Heap} {cls : Str → Option Addr} (c : Fx K mg) : Def P w K mg base cls "_law_rows" 3 3 F__law_rows := by
  obtain ⟨f, fd, F, gm⟩ := c.d__law_rows
  exact def_ok F gm (fun _ _ _ _ _ _ us hl => match us, hl with | [_, _, _], _ => rfl) sc__law_rows rfl rfl fun xs hid cdv A outer s H E n0 hr => (dss_cons (ds_s 3 nd__law_rows (de_cT call_tuple_of sem_tuple c.g_tuple bt_tuple (da_c (de_l false [("k", 5)] rfl nd__law_rows (di_r1 c.g_range (da_c (de_v 1 (by kernel_rfl)) da_nil rfl) (by kernel_rfl)) (by kernel_rfl) (fun _ _ _ _ _ _ => (dgn (by kernel_rfl) nd__law_rows)) (fun _ _ _ _ _ _ => dts_nil) (fun _ _ _ _ _ _ => (de_op opr_add (sem_add (md := false)) (de_s (by kernel_rfl)) (de_cT callr_str sem_str c.g_str bt_str (da_c (de_v 5 (by kernel_rfl)) da_nil rfl) (by kernel_rfl))))) da_nil rfl) (by kernel_rfl)) (by kernel_rfl)) (dss_cons (ds_s 4 nd__law_rows (de_lst (md := true) da_nil) (by kernel_rfl)) (dss_cons (ds_f (FC.own _ _ _ _) rfl (di_r1 c.g_range (da_c (de_cD (ok__law_draw c) rfl rfl hr (by decide) (FC.tk _ _ _ _) (da_c (de_v 0 (by kernel_rfl)) (da_c (de_op opr_add (sem_add (md := false)) (de_v 2 (by kernel_rfl)) de_int) da_nil rfl) rfl) (by kernel_rfl)) da_nil rfl) (by kernel_rfl)) (dgn (by kernel_rfl) nd__law_rows) (dss_cons (ds_s 6 nd__law_rows (de_if (dt_cmp (opr_eq hr.units) (sem_eq (neg := false)) (de_cD (ok__law_draw c) rfl rfl hr (by decide) (FC.tk _ _ _ _) (da_c (de_v 0 (by kernel_rfl)) (da_c de_int da_nil rfl) rfl) (by kernel_rfl)) de_int (by kernel_rfl)) (de_s (by kernel_rfl)) (de_s (by kernel_rfl))) (by kernel_rfl)) (dss_cons (ds_x (de_mA rfl (de_v 4 (by kernel_rfl)) (da_c (de_tup (da_c (de_op opr_add (sem_add (md := false)) (de_s (by kernel_rfl)) (de_cT callr_str sem_str c.g_str bt_str (da_c (de_v 5 (by kernel_rfl)) da_nil rfl) (by kernel_rfl))) (da_c (de_cD (ok__law_terms c) rfl rfl hr (by decide) (FC.tk _ _ _ _) (da_c (de_v 0 (by kernel_rfl)) (da_c (de_v 3 (by kernel_rfl)) (da_c de_int da_nil rfl) rfl) rfl) (by kernel_rfl)) (da_c (de_v 6 (by kernel_rfl)) (da_c (de_op op_sub sem_sub (de_cD (ok__law_draw c) rfl rfl hr (by decide) (FC.tk _ _ _ _) (da_c (de_v 0 (by kernel_rfl)) (da_c de_int da_nil rfl) rfl) (by kernel_rfl)) de_int) da_nil rfl) rfl) rfl) rfl)) da_nil rfl) (by kernel_rfl)) rfl) dss_nil)) rfl) (dss_cons (ds_ret (de_tup (da_c (de_s (by kernel_rfl)) (da_c (de_v 3 (by kernel_rfl)) (da_c (de_cT call_tuple_of sem_tuple c.g_tuple bt_tuple (da_c (de_cB (cr_srtX rfl hr.units) (sem_sorted (md := false)) c.g_sorted bt_sorted (da_c (de_v 4 (by kernel_rfl)) da_nil rfl) (by kernel_rfl)) da_nil rfl) (by kernel_rfl)) da_nil rfl) rfl) rfl))) dss_nil))))
/-! _law_is_terms -/
abbrev s__law_is_terms : Stmt := top 40
abbrev N__law_is_terms : List Str := ["names", "thing", "row"]
theorem nd__law_is_terms : N__law_is_terms.Nodup := by decide +kernel
theorem sc__law_is_terms : FnScope N__law_is_terms ["names", "thing"] (defScope s__law_is_terms) := ⟨rfl, rfl, rfl, nd__law_is_terms, rfl, by decide +kernel, by decide +kernel⟩
noncomputable def B__law_is_terms (n0 : Nat) : SM := (sSeq (sIf (tOrM (tNotM (tTruth (mIsi "tuple" (mVar 1)))) (tVal (m2 (fEq true) (mComp false [2] (mIter (mVar 1)) (gN 2) (tOrM (tNotM (tTruth (mIsi "tuple" (mVar 2)))) (tOrM (tVal (m2 (fEq true) (mCall fLen (aCons (mVar 2) aNil)) (mD (.int 2)))) (tOrM (tNotM (tTruth (mIsi "str" (m2 fIx (mVar 2) (mD (.int 0)))))) (tVal (m2 (fInX true) (m2 fIx (mVar 2) (mD (.int 0))) (mVar 0)))))) (mD (.int 1))) (mLst false aNil)))) (sSeq (sRet n0 (mD (.bl false))) sNil) sNil) (sSeq (sRet n0 (mAndV (m2 (fEq false) (mComp false [2] (mIter (mVar 1)) (gN 2) (tOrM (tNotM (tTruth (mApp 3 F__law_whole (aCons (m2 fIx (mVar 2) (mD (.int 1))) (aCons (mNeg (mD (.int 99))) (aCons (mD (.int 99)) aNil)))))) (tVal (m2 (fEq false) (m2 fIx (mVar 2) (mD (.int 1))) (mD (.int 0))))) (mD (.int 1))) (mLst false aNil)) (mApp 1 F__law_ascending (aCons (mComp false [2] (mIter (mVar 1)) (gN 2) tmYes (m2 fIx (mVar 2) (mD (.int 0)))) aNil)))) sNil))
noncomputable def F__law_is_terms : FS := bodyF 3 B__law_is_terms
theorem ok__law_is_terms {P : Program} {w : World} {K : Frag} {mg : Str → Option Value} {base : Heap} {cls : Str → Option Addr} (c : Fx K mg) : Def P w K mg base cls "_law_is_terms" 2 2 F__law_is_terms := by
  obtain ⟨f, fd, F, gm⟩ := c.d__law_is_terms
  exact def_ok F gm (fun _ _ _ _ _ _ us hl => match us, hl with | [_, _], _ => rfl) sc__law_is_terms rfl rfl fun xs hid cdv A outer s H E n0 hr => (dss_cons (ds_if (dt_w (dw_or (dt_not (dt_t rfl (de_isB rfl c.g_isinstance c.g_tuple bt_tuple (de_v 1 (by kernel_rfl)) (by kernel_rfl)) rfl)) (dw_or1 (dt_cmp (opr_ne hr.units) (sem_eq (neg := true)) (de_l false [("row", 2)] rfl nd__law_is_terms (di_v rfl (de_v 1 (by kernel_rfl))) (by kernel_rfl) (fun _ _ _ _ _ _ => (dgn (by kernel_rfl) nd__law_is_terms)) (fun _ _ _ _ _ _ => (dts_one (dt_w (dw_or (dt_not (dt_t rfl (de_isB rfl c.g_isinstance c.g_tuple bt_tuple (de_v 2 (by kernel_rfl)) (by kernel_rfl)) rfl)) (dw_or (dt_cmp (opr_ne hr.units) (sem_eq (neg := true)) (de_cB call_len sem_len c.g_len bt_len (da_c (de_v 2 (by kernel_rfl)) da_nil rfl) (by kernel_rfl)) de_int (by kernel_rfl)) (dw_or (dt_not (dt_t rfl (de_isB rfl c.g_isinstance c.g_str bt_str (de_ixB rfl hr (de_v 2 (by kernel_rfl)) de_int rfl) (by kernel_rfl)) rfl)) (dw_or1 (dt_cmp (opr_notinX (Room.u65 hr)) (sem_inX (neg := true)) (de_ixB rfl hr (de_v 2 (by kernel_rfl)) de_int rfl) (de_v 0 (by kernel_rfl)) (by kernel_rfl))))))))) (fun _ _ _ _ _ _ => de_int)) (de_lst (md := false) da_nil) (by kernel_rfl))))) (dss_cons (ds_ret de_bl) dss_nil) dss_nil) (dss_cons (ds_ret (de_and (de_cmp (opr_eq hr.units) (sem_eq (neg := false)) (de_l false [("row", 2)] rfl nd__law_is_terms (di_v rfl (de_v 1 (by kernel_rfl))) (by kernel_rfl) (fun _ _ _ _ _ _ => (dgn (by kernel_rfl) nd__law_is_terms)) (fun _ _ _ _ _ _ => (dts_one (dt_w (dw_or (dt_not (dt_t rfl (de_cD (ok__law_whole c) rfl rfl hr (by decide) takes0 (da_c (de_ixB rfl hr (de_v 2 (by kernel_rfl)) de_int rfl) (da_c (de_neg de_int) (da_c de_int da_nil rfl) rfl) rfl) (by kernel_rfl)) rfl)) (dw_or1 (dt_cmp (opr_eq hr.units) (sem_eq (neg := false)) (de_ixB rfl hr (de_v 2 (by kernel_rfl)) de_int rfl) de_int (by kernel_rfl))))))) (fun _ _ _ _ _ _ => de_int)) (de_lst (md := false) da_nil) (by kernel_rfl)) (de_one (de_cD (ok__law_ascending c) rfl rfl hr (by decide) (FC.tk _ _ _ _) (da_c (de_l false [("row", 2)] rfl nd__law_is_terms (di_v rfl (de_v 1 (by kernel_rfl))) (by kernel_rfl) (fun _ _ _ _ _ _ => (dgn (by kernel_rfl) nd__law_is_terms)) (fun _ _ _ _ _ _ => dts_nil) (fun _ _ _ _ _ _ => (de_ixB rfl hr (de_v 2 (by kernel_rfl)) de_int rfl))) da_nil rfl) (by kernel_rfl))))) dss_nil))
/-! _law_is_rows -/
abbrev s__law_is_rows : Stmt := top 41
abbrev N__law_is_rows : List Str := ["thing", "row", "name"]
theorem nd__law_is_rows : N__law_is_rows.Nodup := by decide +kernel
theorem sc__law_is_rows : FnScope N__law_is_rows ["thing"] (defScope s__law_is_rows) := ⟨rfl, rfl, rfl, nd__law_is_rows, rfl, by decide +kernel, by decide +kernel⟩
noncomputable def B__law_is_rows (n0 : Nat) : SM := (sSeq (sIf (tOrM (tNotM (tTruth (mIsi "tuple" (mVar 0)))) (tOrM (tVal (m2 (fEq true) (mCall fLen (aCons (mVar 0) aNil)) (mD (.int 3)))) (tOrM (tNotM (tTruth (mApp 2 (F__law_like 20) (aCons (m2 fIx (mVar 0) (mD (.int 0))) (aCons (mD (.str ['r', 'o', 'w', 's'])) aNil))))) (tOrM (tNotM (tTruth (mIsi "tuple" (m2 fIx (mVar 0) (mD (.int 1)))))) (tNotM (tTruth (mIsi "tuple" (m2 fIx (mVar 0) (mD (.int 2)))))))))) (sSeq (sRet n0 (mD (.bl false))) sNil) sNil) (sSeq (sIf (tOrM (tVal (m2 fGt (mCall fLen (aCons (m2 fIx (mVar 0) (mD (.int 1))) aNil)) (mD (.int 8)))) (tOrM (tVal (m2 fGt (mCall fLen (aCons (m2 fIx (mVar 0) (mD (.int 2))) aNil)) (mD (.int 20)))) (tOrM (tVal (m2 (fEq true) (mComp false [2] (mIter (m2 fIx (mVar 0) (mD (.int 1)))) (gN 2) (tNotM (tTruth (mApp 1 F__law_named (aCons (mVar 2) aNil)))) (mD (.int 1))) (mLst false aNil))) (tNotM (tTruth (mApp 1 F__law_ascending (aCons (m2 fIx (mVar 0) (mD (.int 1))) aNil))))))) (sSeq (sRet n0 (mD (.bl false))) sNil) sNil) (sSeq (sFor (mIter (m2 fIx (mVar 0) (mD (.int 2)))) (gN 1) (sSeq (sIf (tOrM (tNotM (tTruth (mIsi "tuple" (mVar 1)))) (tOrM (tVal (m2 (fEq true) (mCall fLen (aCons (mVar 1) aNil)) (mD (.int 4)))) (tOrM (tNotM (tTruth (mApp 1 F__law_named (aCons (m2 fIx (mVar 1) (mD (.int 0))) aNil)))) (tOrM (tVal (m2 (fInX false) (m2 fIx (mVar 1) (mD (.int 0))) (m2 fIx (mVar 0) (mD (.int 1))))) (tNotM (tTruth (mApp 2 F__law_is_terms (aCons (m2 fIx (mVar 0) (mD (.int 1))) (aCons (m2 fIx (mVar 1) (mD (.int 1))) aNil))))))))) (sSeq (sRet n0 (mD (.bl false))) sNil) sNil) (sSeq (sIf (tOrM (tNotM (tTruth (mIsi "str" (m2 fIx (mVar 1) (mD (.int 2)))))) (tOrM (tVal (m2 (fInX true) (m2 fIx (mVar 1) (mD (.int 2))) (mTup (aCons (mD (.str ['m', 'o', 's', 't'])) (aCons (mD (.str ['j', 'u', 's', 't'])) aNil))))) (tNotM (tTruth (mApp 3 F__law_whole (aCons (m2 fIx (mVar 1) (mD (.int 3))) (aCons (mNeg (mD (.int 9999))) (aCons (mD (.int 9999)) aNil)))))))) (sSeq (sRet n0 (mD (.bl false))) sNil) sNil) sNil))) (sSeq (sRet n0 (mApp 1 F__law_ascending (aCons (mComp false [1] (mIter (m2 fIx (mVar 0) (mD (.int 2)))) (gN 1) tmYes (m2 fIx (mVar 1) (mD (.int 0)))) aNil))) sNil))))
noncomputable def F__law_is_rows : FS := bodyF 3 B__law_is_rows
theorem ok__law_is_rows {P : Program} {w : World} {K : Frag} {mg : Str → Option Value} {base : Heap} {cls : Str → Option Addr} (c : Fx K mg) : Def P w K mg base cls "_law_is_rows" 1 21 F__law_is_rows := by
  obtain ⟨f, fd, F, gm⟩ := c.d__law_is_rows
  exact def_ok F gm (fun _ _ _ _ _ _ us hl => match us, hl with | [_], _ => rfl) sc__law_is_rows rfl rfl fun xs hid cdv A outer s H E n0 hr => (dss_cons (ds_if (dt_w (dw_or (dt_not (dt_t rfl (de_isB rfl c.g_isinstance c.g_tuple bt_tuple (de_v 0 (by kernel_rfl)) (by kernel_rfl)) rfl)) (dw_or (dt_cmp (opr_ne hr.units) (sem_eq (neg := true)) (de_cB call_len sem_len c.g_len bt_len (da_c (de_v 0 (by kernel_rfl)) da_nil rfl) (by kernel_rfl)) de_int (by kernel_rfl)) (dw_or (dt_not (dt_t rfl (de_cD (ok__law_like c 20) rfl rfl hr (by decide) (FC.tk _ _ _ _) (da_c (de_ixB rfl hr (de_v 0 (by kernel_rfl)) de_int rfl) (da_c (de_s (by kernel_rfl)) da_nil rfl) rfl) (by kernel_rfl)) rfl)) (dw_or (dt_not (dt_t rfl (de_isB rfl c.g_isinstance c.g_tuple bt_tuple (de_ixB rfl hr (de_v 0 (by kernel_rfl)) de_int rfl) (by kernel_rfl)) rfl)) (dw_or1 (dt_not (dt_t rfl (de_isB rfl c.g_isinstance c.g_tuple bt_tuple (de_ixB rfl hr (de_v 0 (by kernel_rfl)) de_int rfl) (by kernel_rfl)) rfl)))))))) (dss_cons (ds_ret de_bl) dss_nil) dss_nil) (dss_cons (ds_if (dt_w (dw_or (dt_cmp opr_gt sem_gt (de_cB call_len sem_len c.g_len bt_len (da_c (de_ixB rfl hr (de_v 0 (by kernel_rfl)) de_int rfl) da_nil rfl) (by kernel_rfl)) de_int (by kernel_rfl)) (dw_or (dt_cmp opr_gt sem_gt (de_cB call_len sem_len c.g_len bt_len (da_c (de_ixB rfl hr (de_v 0 (by kernel_rfl)) de_int rfl) da_nil rfl) (by kernel_rfl)) de_int (by kernel_rfl)) (dw_or (dt_cmp (opr_ne hr.units) (sem_eq (neg := true)) (de_l false [("name", 2)] rfl nd__law_is_rows (di_v rfl (de_ixB rfl hr (de_v 0 (by kernel_rfl)) de_int rfl)) (by kernel_rfl) (fun _ _ _ _ _ _ => (dgn (by kernel_rfl) nd__law_is_rows)) (fun _ _ _ _ _ _ => (dts_one (dt_not (dt_t rfl (de_cD (ok__law_named c) rfl rfl hr (by decide) takes0 (da_c (de_v 2 (by kernel_rfl)) da_nil rfl) (by kernel_rfl)) rfl)))) (fun _ _ _ _ _ _ => de_int)) (de_lst (md := false) da_nil) (by kernel_rfl)) (dw_or1 (dt_not (dt_t rfl (de_cD (ok__law_ascending c) rfl rfl hr (by decide) (FC.tk _ _ _ _) (da_c (de_ixB rfl hr (de_v 0 (by kernel_rfl)) de_int rfl) da_nil rfl) (by kernel_rfl)) rfl))))))) (dss_cons (ds_ret de_bl) dss_nil) dss_nil) (dss_cons (ds_f (FC.own _ _ _ _) rfl (di_v rfl (de_ixB rfl hr (de_v 0 (by kernel_rfl)) de_int rfl)) (dgn (by kernel_rfl) nd__law_is_rows) (dss_cons (ds_if (dt_w (dw_or (dt_not (dt_t rfl (de_isB rfl c.g_isinstance c.g_tuple bt_tuple (de_v 1 (by kernel_rfl)) (by kernel_rfl)) rfl)) (dw_or (dt_cmp (opr_ne hr.units) (sem_eq (neg := true)) (de_cB call_len sem_len c.g_len bt_len (da_c (de_v 1 (by kernel_rfl)) da_nil rfl) (by kernel_rfl)) de_int (by kernel_rfl)) (dw_or (dt_not (dt_t rfl (de_cD (ok__law_named c) rfl rfl hr (by decide) (FC.tk _ _ _ _) (da_c (de_ixB rfl hr (de_v 1 (by kernel_rfl)) de_int rfl) da_nil rfl) (by kernel_rfl)) rfl)) (dw_or (dt_cmp (opr_inX (Room.u65 hr)) (sem_inX (neg := false)) (de_ixB rfl hr (de_v 1 (by kernel_rfl)) de_int rfl) (de_ixB rfl hr (de_v 0 (by kernel_rfl)) de_int rfl) (by kernel_rfl)) (dw_or1 (dt_not (dt_t rfl (de_cD (ok__law_is_terms c) rfl rfl hr (by decide) (FC.tk _ _ _ _) (da_c (de_ixB rfl hr (de_v 0 (by kernel_rfl)) de_int rfl) (da_c (de_ixB rfl hr (de_v 1 (by kernel_rfl)) de_int rfl) da_nil rfl) rfl) (by kernel_rfl)) rfl)))))))) (dss_cons (ds_ret de_bl) dss_nil) dss_nil) (dss_cons (ds_if (dt_w (dw_or (dt_not (dt_t rfl (de_isB rfl c.g_isinstance c.g_str bt_str (de_ixB rfl hr (de_v 1 (by kernel_rfl)) de_int rfl) (by kernel_rfl)) rfl)) (dw_or (dt_cmp (opr_notinX (Room.u65 hr)) (sem_inX (neg := true)) (de_ixB rfl hr (de_v 1 (by kernel_rfl)) de_int rfl) (de_tup (da_c (de_s (by kernel_rfl)) (da_c (de_s (by kernel_rfl)) da_nil rfl) rfl)) (by kernel_rfl)) (dw_or1 (dt_not (dt_t rfl (de_cD (ok__law_whole c) rfl rfl hr (by decide) (FC.tk _ _ _ _) (da_c (de_ixB rfl hr (de_v 1 (by kernel_rfl)) de_int rfl) (da_c (de_neg de_int) (da_c de_int da_nil rfl) rfl) rfl) (by kernel_rfl)) rfl)))))) (dss_cons (ds_ret de_bl) dss_nil) dss_nil) dss_nil)) rfl) (dss_cons (ds_ret (de_cD (ok__law_ascending c) rfl rfl hr (by decide) (FC.tk _ _ _ _) (da_c (de_l false [("row", 1)] rfl nd__law_is_rows (di_v rfl (de_ixB rfl hr (de_v 0 (by kernel_rfl)) de_int rfl)) (by kernel_rfl) (fun _ _ _ _ _ _ => (dgn (by kernel_rfl) nd__law_is_rows)) (fun _ _ _ _ _ _ => dts_nil) (fun _ _ _ _ _ _ => (de_ixB rfl hr (de_v 1 (by kernel_rfl)) de_int rfl))) da_nil rfl) (by kernel_rfl))) dss_nil))))
/-! _law_fractions -/
abbrev s__law_fractions : Stmt := top 42
abbrev N__law_fractions : List Str := ["thing", "row"]
theorem nd__law_fractions : N__law_fractions.Nodup := by decide +kernel
theorem sc__law_fractions : FnScope N__law_fractions ["thing"] (defScope s__law_fractions) := ⟨rfl, rfl, rfl, nd__law_fractions, rfl, by decide +kernel, by decide +kernel⟩
noncomputable def B__law_fractions (n0 : Nat) : SM := (sSeq (sIf (tOrM (tNotM (tTruth (mIsi "tuple" (mVar 0)))) (tVal (m2 (fEq true) (mComp false [1] (mIter (mVar 0)) (gN 1) (tOrM (tNotM (tTruth (mIsi "tuple" (mVar 1)))) (tOrM (tVal (m2 (fEq true) (mCall fLen (aCons (mVar 1) aNil)) (mD (.int 2)))) (tOrM (tNotM (tTruth (mIsi "str" (m2 fIx (mVar 1) (mD (.int 0)))))) (tNotM (tTruth (mApp 1 F__law_is_fraction (aCons (m2 fIx (mVar 1) (mD (.int 1))) aNil))))))) (mD (.int 1))) (mLst false aNil)))) (sSeq (sRet n0 (mD (.bl false))) sNil) sNil) (sSeq (sRet n0 (mApp 1 F__law_ascending (aCons (mComp false [1] (mIter (mVar 0)) (gN 1) tmYes (m2 fIx (mVar 1) (mD (.int 0)))) aNil))) sNil))
noncomputable def F__law_fractions : FS := bodyF 2 B__law_fractions
theorem ok__law_fractions {P : Program} {w : World} {K : Frag} {mg : Str → Option Value} {base : Heap} {cls : Str → Option Addr} (c : Fx K mg) : Def P w K mg base cls "_law_fractions" 1 3 F__law_fractions := by
  obtain ⟨f, fd, F, gm⟩ := c.d__law_fractions
  exact def_ok F gm (fun _ _ _ _ _ _ us hl => match us, hl with | [_], _ => rfl) sc__law_fractions rfl rfl fun xs hid cdv A outer s H E n0 hr => (dss_cons (ds_if (dt_w (dw_or (dt_not (dt_t rfl (de_isB rfl c.g_isinstance c.g_tuple bt_tuple (de_v 0 (by kernel_rfl)) (by kernel_rfl)) rfl)) (dw_or1 (dt_cmp (opr_ne hr.units) (sem_eq (neg := true)) (de_l false [("row", 1)] rfl nd__law_fractions (di_v rfl (de_v 0 (by kernel_rfl))) (by kernel_rfl) (fun _ _ _ _ _ _ => (dgn (by kernel_rfl) nd__law_fractions)) (fun _ _ _ _ _ _ => (dts_one (dt_w (dw_or (dt_not (dt_t rfl (de_isB rfl c.g_isinstance c.g_tuple bt_tuple (de_v 1 (by kernel_rfl)) (by kernel_rfl)) rfl)) (dw_or (dt_cmp (opr_ne hr.units) (sem_eq (neg := true)) (de_cB call_len sem_len c.g_len bt_len (da_c (de_v 1 (by kernel_rfl)) da_nil rfl) (by kernel_rfl)) de_int (by kernel_rfl)) (dw_or (dt_not (dt_t rfl (de_isB rfl c.g_isinstance c.g_str bt_str (de_ixB rfl hr (de_v 1 (by kernel_rfl)) de_int rfl) (by kernel_rfl)) rfl)) (dw_or1 (dt_not (dt_t rfl (de_cD (ok__law_is_fraction c) rfl rfl hr (by decide) takes0 (da_c (de_ixB rfl hr (de_v 1 (by kernel_rfl)) de_int rfl) da_nil rfl) (by kernel_rfl)) rfl))))))))) (fun _ _ _ _ _ _ => de_int)) (de_lst (md := false) da_nil) (by kernel_rfl))))) (dss_cons (ds_ret de_bl) dss_nil) dss_nil) (dss_cons (ds_ret (de_cD (ok__law_ascending c) rfl rfl hr (by decide) (FC.tk _ _ _ _) (da_c (de_l false [("row", 1)] rfl nd__law_fractions (di_v rfl (de_v 0 (by kernel_rfl))) (by kernel_rfl) (fun _ _ _ _ _ _ => (dgn (by kernel_rfl) nd__law_fractions)) (fun _ _ _ _ _ _ => dts_nil) (fun _ _ _ _ _ _ => (de_ixB rfl hr (de_v 1 (by kernel_rfl)) de_int rfl))) da_nil rfl) (by kernel_rfl))) dss_nil))
/-! _law_is_point -/
abbrev s__law_is_point : Stmt := top 43
abbrev N__law_is_point : List Str := ["names", "thing", "row"]
theorem nd__law_is_point : N__law_is_point.Nodup := by decide +kernel
theorem sc__law_is_point : FnScope N__law_is_point ["names", "thing"] (defScope s__law_is_point) := ⟨rfl, rfl, rfl, nd__law_is_point, rfl, by decide +kernel, by decide +kernel⟩
noncomputable def B__law_is_point (n0 : Nat) : SM := (sSeq (sRet n0 (mAndV (mApp 1 F__law_fractions (aCons (mVar 1) aNil)) (m2 (fEq false) (mComp false [2] (mIter (mVar 1)) (gN 2) tmYes (m2 fIx (mVar 2) (mD (.int 0)))) (mCall (fList false) (aCons (mVar 0) aNil))))) sNil)
noncomputable def F__law_is_point : FS := bodyF 3 B__law_is_point
theorem ok__law_is_point {P : Program} {w : World} {K : Frag} {mg : Str → Option Value} {base : Heap} {cls : Str → Option Addr} (c : Fx K mg) : Def P w K mg base cls "_law_is_point" 2 4 F__law_is_point := by
  obtain ⟨f, fd, F, gm⟩ := c.d__law_is_point
  exact def_ok F gm (fun _ _ _ _ _ _ us hl => match us, hl with | [_, _], _ => rfl) sc__law_is_point rfl rfl fun xs hid cdv A outer s H E n0 hr => (dss_cons (ds_ret (de_and (de_cD (ok__law_fractions c) rfl rfl hr (by decide) (FC.tk _ _ _ _) (da_c (de_v 1 (by kernel_rfl)) da_nil rfl) (by kernel_rfl)) (de_one (de_cmp (opr_eq hr.units) (sem_eq (neg := false)) (de_l false [("row", 2)] rfl nd__law_is_point (di_v rfl (de_v 1 (by kernel_rfl))) (by kernel_rfl) (fun _ _ _ _ _ _ => (dgn (by kernel_rfl) nd__law_is_point)) (fun _ _ _ _ _ _ => dts_nil) (fun _ _ _ _ _ _ => (de_ixB rfl hr (de_v 2 (by kernel_rfl)) de_int rfl))) (de_cT call_list_of (sem_list (md := false)) c.g_list bt_list (da_c (de_v 0 (by kernel_rfl)) da_nil rfl) (by kernel_rfl)) (by kernel_rfl))))) dss_nil)
/-! _law_is_factors -/
abbrev s__law_is_factors : Stmt := top 44
abbrev N__law_is_factors : List Str := ["rows", "thing", "kinds", "row"]
theorem nd__law_is_factors : N__law_is_factors.Nodup := by decide +kernel
theorem sc__law_is_factors : FnScope N__law_is_factors ["rows", "thing"] (defScope s__law_is_factors) := ⟨rfl, rfl, rfl, nd__law_is_factors, rfl, by decide +kernel, by decide +kernel⟩
noncomputable def B__law_is_factors (n0 : Nat) : SM := (sSeq (sAsg (mCall (fDict false) (aCons (mComp false [3] (mIter (m2 fIx (mVar 0) (mD (.int 2)))) (gN 3) tmYes (mTup (aCons (m2 fIx (mVar 3) (mD (.int 0))) (aCons (m2 fIx (mVar 3) (mD (.int 2))) aNil)))) aNil)) (gN 2)) (sSeq (sIf (tOrM (tNotM (tTruth (mApp 1 F__law_fractions (aCons (mVar 1) aNil)))) (tVal (m2 (fEq true) (mComp false [3] (mIter (mVar 1)) (gN 3) (tOrM (tVal (m2 (fInX true) (m2 fIx (mVar 3) (mD (.int 0))) (mVar 2))) (tVal (m2 (fEq false) (m2 fIx (m2 fIx (mVar 3) (mD (.int 1))) (mD (.int 0))) (mD (.int 0))))) (mD (.int 1))) (mLst false aNil)))) (sSeq (sRet n0 (mD (.bl false))) sNil) sNil) (sSeq (sRet n0 (m2 (fEq false) (mComp false [3] (mIter (mVar 1)) (gN 3) (tAndM (tVal (m2 fLt (m2 fIx (m2 fIx (mVar 3) (mD (.int 1))) (mD (.int 0))) (mD (.int 0)))) (tVal (m2 (fEq false) (m2 fIx (mVar 2) (m2 fIx (mVar 3) (mD (.int 0)))) (mD (.str ['m', 'o', 's', 't']))))) (mD (.int 1))) (mLst false aNil))) sNil)))
noncomputable def F__law_is_factors : FS := bodyF 4 B__law_is_factors
theorem ok__law_is_factors {P : Program} {w : World} {K : Frag} {mg : Str → Option Value} {base : Heap} {cls : Str → Option Addr} (c : Fx K mg) : Def P w K mg base cls "_law_is_factors" 2 4 F__law_is_factors := by
  obtain ⟨f, fd, F, gm⟩ := c.d__law_is_factors
  exact def_ok F gm (fun _ _ _ _ _ _ us hl => match us, hl with | [_, _], _ => rfl) sc__law_is_factors rfl rfl fun xs hid cdv A outer s H E n0 hr => (dss_cons (ds_s 2 nd__law_is_factors (de_cT (cr_dictP rfl) (sem_dictP (md := false)) c.g_dict bt_dict (da_c (de_l false [("row", 3)] rfl nd__law_is_factors (di_v rfl (de_ixB rfl hr (de_v 0 (by kernel_rfl)) de_int rfl)) (by kernel_rfl) (fun _ _ _ _ _ _ => (dgn (by kernel_rfl) nd__law_is_factors)) (fun _ _ _ _ _ _ => dts_nil) (fun _ _ _ _ _ _ => (de_tup (da_c (de_ixB rfl hr (de_v 3 (by kernel_rfl)) de_int rfl) (da_c (de_ixB rfl hr (de_v 3 (by kernel_rfl)) de_int rfl) da_nil rfl) rfl)))) da_nil rfl) (by kernel_rfl)) (by kernel_rfl)) (dss_cons (ds_if (dt_w (dw_or (dt_not (dt_t rfl (de_cD (ok__law_fractions c) rfl rfl hr (by decide) (FC.tk _ _ _ _) (da_c (de_v 1 (by kernel_rfl)) da_nil rfl) (by kernel_rfl)) rfl)) (dw_or1 (dt_cmp (opr_ne hr.units) (sem_eq (neg := true)) (de_l false [("row", 3)] rfl nd__law_is_factors (di_v rfl (de_v 1 (by kernel_rfl))) (by kernel_rfl) (fun _ _ _ _ _ _ => (dgn (by kernel_rfl) nd__law_is_factors)) (fun _ _ _ _ _ _ => (dts_one (dt_w (dw_or (dt_cmp (opr_notinX (Room.u65 hr)) (sem_inX (neg := true)) (de_ixB rfl hr (de_v 3 (by kernel_rfl)) de_int rfl) (de_v 2 (by kernel_rfl)) (by kernel_rfl)) (dw_or1 (dt_cmp (opr_eq hr.units) (sem_eq (neg := false)) (de_ixB rfl hr (de_ixB rfl hr (de_v 3 (by kernel_rfl)) de_int rfl) de_int rfl) de_int (by kernel_rfl))))))) (fun _ _ _ _ _ _ => de_int)) (de_lst (md := false) da_nil) (by kernel_rfl))))) (dss_cons (ds_ret de_bl) dss_nil) dss_nil) (dss_cons (ds_ret (de_cmp (opr_eq hr.units) (sem_eq (neg := false)) (de_l false [("row", 3)] rfl nd__law_is_factors (di_v rfl (de_v 1 (by kernel_rfl))) (by kernel_rfl) (fun _ _ _ _ _ _ => (dgn (by kernel_rfl) nd__law_is_factors)) (fun _ _ _ _ _ _ => (dts_one (dt_w (dw_and (dt_cmp (opr_lt hr.units) sem_lt (de_ixB rfl hr (de_ixB rfl hr (de_v 3 (by kernel_rfl)) de_int rfl) de_int rfl) de_int (by kernel_rfl)) (dw_and1 (dt_cmp (opr_eq hr.units) (sem_eq (neg := false)) (de_ixB rfl hr (de_v 2 (by kernel_rfl)) (de_ixB rfl hr (de_v 3 (by kernel_rfl)) de_int rfl) rfl) (de_s (by kernel_rfl)) (by kernel_rfl))))))) (fun _ _ _ _ _ _ => de_int)) (de_lst (md := false) da_nil) (by kernel_rfl))) dss_nil)))
/-! _law_drawn_point -/
abbrev s__law_drawn_point : Stmt := top 45
abbrev N__law_drawn_point : List Str := ["box", "names", "name"]
theorem nd__law_drawn_point : N__law_drawn_point.Nodup := by decide +kernel
theorem sc__law_drawn_point : FnScope N__law_drawn_point ["box", "names"] (defScope s__law_drawn_point) := ⟨rfl, rfl, rfl, nd__law_drawn_point, rfl, by decide +kernel, by decide +kernel⟩
noncomputable def B__law_drawn_point (n0 : Nat) : SM := (sSeq (sRet n0 (mCall fTuple (aCons (mComp false [2] (mIter (mVar 1)) (gN 2) tmYes (mTup (aCons (mVar 2) (aCons (mApp 2 F__law_low (aCons (m2 fSub (mApp 2 F__law_draw (aCons (mVar 0) (aCons (mD (.int 13)) aNil))) (mD (.int 5))) (aCons (m2 (fAdd false) (mD (.int 1)) (mApp 2 F__law_draw (aCons (mVar 0) (aCons (mD (.int 3)) aNil)))) aNil))) aNil)))) aNil))) sNil)
noncomputable def F__law_drawn_point : FS := bodyF 3 B__law_drawn_point
theorem ok__law_drawn_point {P : Program} {w : World} {K : Frag} {mg : Str → Option Value} {base : Heap} {cls : Str → Option Addr} (c : Fx K mg) : Def P w K mg base cls "_law_drawn_point" 2 2 F__law_drawn_point := by
  obtain ⟨f, fd, F, gm⟩ := c.d__law_drawn_point
  exact def_ok F gm (fun _ _ _ _ _ _ us hl => match us, hl with | [_, _], _ => rfl) sc__law_drawn_point rfl rfl fun xs hid cdv A outer s H E n0 hr => (dss_cons (ds_ret (de_cT call_tuple_of sem_tuple c.g_tuple bt_tuple (da_c (de_l false [("name", 2)] rfl nd__law_drawn_point (di_v rfl (de_v 1 (by kernel_rfl))) (by kernel_rfl) (fun _ _ _ _ _ _ => (dgn (by kernel_rfl) nd__law_drawn_point)) (fun _ _ _ _ _ _ => dts_nil) (fun _ _ _ _ _ _ => (de_tup (da_c (de_v 2 (by kernel_rfl)) (da_c (de_cD (ok__law_low c) rfl rfl hr (by decide) takes0 (da_c (de_op op_sub sem_sub (de_cD (ok__law_draw c) rfl rfl hr (by decide) takes0 (da_c (de_v 0 (by kernel_rfl)) (da_c de_int da_nil rfl) rfl) (by kernel_rfl)) de_int) (da_c (de_op opr_add (sem_add (md := false)) de_int (de_cD (ok__law_draw c) rfl rfl hr (by decide) takes0 (da_c (de_v 0 (by kernel_rfl)) (da_c de_int da_nil rfl) rfl) (by kernel_rfl))) da_nil rfl) rfl) (by kernel_rfl)) da_nil rfl) rfl)))) da_nil rfl) (by kernel_rfl))) dss_nil)
/-! _law_other -/
abbrev s__law_other : Stmt := top 46
abbrev N__law_other : List Str := ["box", "thing", "behind", "k"]
theorem nd__law_other : N__law_other.Nodup := by decide +kernel
theorem sc__law_other : FnScope N__law_other ["box", "thing"] (defScope s__law_other) := ⟨rfl, rfl, rfl, nd__law_other, rfl, by decide +kernel, by decide +kernel⟩
noncomputable def B__law_other (n0 : Nat) : SM := (sSeq (sIf (tTruth (mIsi "tuple" (mVar 1))) (sSeq (sAsg (mCall fTuple (aCons (mComp false [3] (mRng1 (aCons (mCall fLen (aCons (mVar 1) aNil)) aNil)) (gN 3) tmYes (m2 fIx (mVar 1) (m2 fSub (m2 fSub (mCall fLen (aCons (mVar 1) aNil)) (mD (.int 1))) (mVar 3)))) aNil)) (gN 2)) (sSeq (sRet n0 (m2 fIx (mLst false (aCons (mCall (fList false) (aCons (mVar 1) aNil)) (aCons (m2 (fAdd false) (mVar 1) (mSlice (fSl false) (mVar 1) oNone (oSome (mD (.int 1))))) (aCons (mSlice (fSl false) (mVar 1) (oSome (mD (.int 1))) oNone) (aCons (mD .non) (aCons (mTup aNil) (aCons (mVar 2) aNil))))))) (mApp 2 F__law_draw (aCons (mVar 0) (aCons (mD (.int 6)) aNil))))) sNil)) sNil) (sSeq (sIf (tTruth (mIsi "str" (mVar 1))) (sSeq (sRet n0 (m2 fIx (mLst false (aCons (mD (.str ['x', '0'])) (aCons (mD (.str ['x', '1'])) (aCons (mD (.str ['r', '0'])) (aCons (mD (.str ['r', '1'])) (aCons (mD (.str ['r', 'o', 'w', 's'])) (aCons (mD (.str ['m', 'o', 's', 't'])) (aCons (mD (.str ['j', 'u', 's', 't'])) (aCons (mD (.str ['s', 'u', 'm'])) (aCons (mD (.str ['A'])) (aCons (mD (.str [])) (aCons (mD (.str ['x', ' ', 'y'])) (aCons (mD .non) aNil))))))))))))) (mApp 2 F__law_draw (aCons (mVar 0) (aCons (mD (.int 12)) aNil))))) sNil) sNil) (sSeq (sIf (tVal (m2 (fIs false) (mVar 1) (mD .non))) (sSeq (sRet n0 (m2 fIx (mLst false (aCons (mD (.int 0)) (aCons (mD (.str [])) (aCons (mTup aNil) aNil)))) (mApp 2 F__law_draw (aCons (mVar 0) (aCons (mD (.int 3)) aNil))))) sNil) sNil) (sSeq (sRet n0 (m2 fIx (mLst false (aCons (m2 (fAdd false) (mVar 1) (mD (.int 1))) (aCons (m2 fSub (mVar 1) (mD (.int 1))) (aCons (m2 fSub (mD (.int 0)) (mVar 1)) (aCons (mD (.bl true)) (aCons (mD .non) (aCons (mD (.int 0)) (aCons (mD (.int 100)) aNil)))))))) (mApp 2 F__law_draw (aCons (mVar 0) (aCons (mD (.int 7)) aNil))))) sNil))))
noncomputable def F__law_other : FS := bodyF 4 B__law_other
theorem ok__law_other {P : Program} {w : World} {K : Frag} {mg : Str → Option Value} {base : Heap} {cls : Str → Option Addr} (c : Fx K mg) : Def P w K mg base cls "_law_other" 2 2 F__law_other := by
  obtain ⟨f, fd, F, gm⟩ := c.d__law_other
  exact def_ok F gm (fun _ _ _ _ _ _ us hl => match us, hl with | [_, _], _ => rfl) sc__law_other rfl rfl fun xs hid cdv A outer s H E n0 hr => (dss_cons (ds_if (dt_t rfl (de_isB rfl c.g_isinstance c.g_tuple bt_tuple (de_v 1 (by kernel_rfl)) (by kernel_rfl)) rfl) (dss_cons (ds_s 2 nd__law_other (de_cT call_tuple_of sem_tuple c.g_tuple bt_tuple (da_c (de_l false [("k", 3)] rfl nd__law_other (di_r1 c.g_range (da_c (de_cB call_len sem_len c.g_len bt_len (da_c (de_v 1 (by kernel_rfl)) da_nil rfl) (by kernel_rfl)) da_nil rfl) (by kernel_rfl)) (by kernel_rfl) (fun _ _ _ _ _ _ => (dgn (by kernel_rfl) nd__law_other)) (fun _ _ _ _ _ _ => dts_nil) (fun _ _ _ _ _ _ => (de_ixB rfl hr (de_v 1 (by kernel_rfl)) (de_op op_sub sem_sub (de_op op_sub sem_sub (de_cB call_len sem_len c.g_len bt_len (da_c (de_v 1 (by kernel_rfl)) da_nil rfl) (by kernel_rfl)) de_int) (de_v 3 (by kernel_rfl))) rfl))) da_nil rfl) (by kernel_rfl)) (by kernel_rfl)) (dss_cons (ds_ret (de_ixB rfl hr (de_lst (md := false) (da_c (de_cT call_list_of (sem_list (md := false)) c.g_list bt_list (da_c (de_v 1 (by kernel_rfl)) da_nil rfl) (by kernel_rfl)) (da_c (de_op opr_add (sem_add (md := false)) (de_v 1 (by kernel_rfl)) (de_slice (md := false) rfl (de_v 1 (by kernel_rfl)) do_none (do_some de_int))) (da_c (de_slice (md := false) rfl (de_v 1 (by kernel_rfl)) (do_some de_int) do_none) (da_c de_non (da_c (de_tup da_nil) (da_c (de_v 2 (by kernel_rfl)) da_nil rfl) rfl) rfl) rfl) rfl) rfl)) (de_cD (ok__law_draw c) rfl rfl hr (by decide) (FC.tk _ _ _ _) (da_c (de_v 0 (by kernel_rfl)) (da_c de_int da_nil rfl) rfl) (by kernel_rfl)) rfl)) dss_nil)) dss_nil) (dss_cons (ds_if (dt_t rfl (de_isB rfl c.g_isinstance c.g_str bt_str (de_v 1 (by kernel_rfl)) (by kernel_rfl)) rfl) (dss_cons (ds_ret (de_ixB rfl hr (de_lst (md := false) (da_c (de_s (by kernel_rfl)) (da_c (de_s (by kernel_rfl)) (da_c (de_s (by kernel_rfl)) (da_c (de_s (by kernel_rfl)) (da_c (de_s (by kernel_rfl)) (da_c (de_s (by kernel_rfl)) (da_c (de_s (by kernel_rfl)) (da_c (de_s (by kernel_rfl)) (da_c (de_s (by kernel_rfl)) (da_c (de_s (by kernel_rfl)) (da_c (de_s (by kernel_rfl)) (da_c de_non da_nil rfl) rfl) rfl) rfl) rfl) rfl) rfl) rfl) rfl) rfl) rfl) rfl)) (de_cD (ok__law_draw c) rfl rfl hr (by decide) (FC.tk _ _ _ _) (da_c (de_v 0 (by kernel_rfl)) (da_c de_int da_nil rfl) rfl) (by kernel_rfl)) rfl)) dss_nil) dss_nil) (dss_cons (ds_if (dt_cmp opr_is (sem_is (neg := false)) (de_v 1 (by kernel_rfl)) de_non (by kernel_rfl)) (dss_cons (ds_ret (de_ixB rfl hr (de_lst (md := false) (da_c de_int (da_c (de_s (by kernel_rfl)) (da_c (de_tup da_nil) da_nil rfl) rfl) rfl)) (de_cD (ok__law_draw c) rfl rfl hr (by decide) (FC.tk _ _ _ _) (da_c (de_v 0 (by kernel_rfl)) (da_c de_int da_nil rfl) rfl) (by kernel_rfl)) rfl)) dss_nil) dss_nil) (dss_cons (ds_ret (de_ixB rfl hr (de_lst (md := false) (da_c (de_op opr_add (sem_add (md := false)) (de_v 1 (by kernel_rfl)) de_int) (da_c (de_op op_sub sem_sub (de_v 1 (by kernel_rfl)) de_int) (da_c (de_op op_sub sem_sub de_int (de_v 1 (by kernel_rfl))) (da_c de_bl (da_c de_non (da_c de_int (da_c de_int da_nil rfl) rfl) rfl) rfl) rfl) rfl) rfl)) (de_cD (ok__law_draw c) rfl rfl hr (by decide) (FC.tk _ _ _ _) (da_c (de_v 0 (by kernel_rfl)) (da_c de_int da_nil rfl) rfl) (by kernel_rfl)) rfl)) dss_nil))))
/-! _law_changed -/
abbrev s__law_changed : Stmt := top 47
abbrev N__law_changed : List Str := ["box", "thing", "at"]
theorem nd__law_changed : N__law_changed.Nodup := by decide +kernel
theorem sc__law_changed : FnScope N__law_changed ["box", "thing"] (defScope s__law_changed) := ⟨rfl, rfl, rfl, nd__law_changed, rfl, by decide +kernel, by decide +kernel⟩
noncomputable def B__law_changed (rec : FS) (n0 : Nat) : SM := (sSeq (sIf (tOrM (tNotM (tTruth (mIsi "tuple" (mVar 1)))) (tOrM (tVal (m2 (fEq false) (mVar 1) (mTup aNil))) (tVal (m2 (fEq false) (mApp 2 F__law_draw (aCons (mVar 0) (aCons (mD (.int 9)) aNil))) (mD (.int 0)))))) (sSeq (sRet n0 (mApp 2 F__law_other (aCons (mVar 0) (aCons (mVar 1) aNil)))) sNil) sNil) (sSeq (sAsg (m2 fMod (mApp 2 F__law_draw (aCons (mVar 0) (aCons (mD (.int 900)) aNil))) (mCall fLen (aCons (mVar 1) aNil))) (gN 2)) (sSeq (sRet n0 (m2 (fAdd false) (m2 (fAdd false) (mSlice (fSl false) (mVar 1) oNone (oSome (mVar 2))) (mTup (aCons (mApp 2 rec (aCons (mVar 0) (aCons (m2 fIx (mVar 1) (mVar 2)) aNil))) aNil))) (mSlice (fSl false) (mVar 1) (oSome (m2 (fAdd false) (mVar 2) (mD (.int 1)))) oNone))) sNil)))
noncomputable def F__law_changed : Nat → FS
  | 0 => fun _ _ => .fail
  | d + 1 => bodyF 3 (B__law_changed (F__law_changed d))
theorem ok__law_changed {P : Program} {w : World} {K : Frag} {mg : Str → Option Value} {base : Heap} {cls : Str → Option Addr} (c : Fx K mg) : ∀ d, Def P w K mg base cls "_law_changed" 2 (2 + d) (F__law_changed d)
  | 0 => by
    obtain ⟨f, fd, F, gm⟩ := c.d__law_changed
    exact def_fail (ps := ["box", "thing"]) F gm (fun _ _ _ _ _ _ us hl => match us, hl with | [_, _], _ => rfl)
  | d + 1 => by
    have ih := ok__law_changed (P := P) (w := w) (base := base) (cls := cls) c d
    obtain ⟨f, fd, F, gm⟩ := c.d__law_changed
    exact def_ok F gm (fun _ _ _ _ _ _ us hl => match us, hl with | [_, _], _ => rfl) sc__law_changed rfl rfl fun xs hid cdv A outer s H E n0 hr => (dss_cons (ds_if (dt_w (dw_or (dt_not (dt_t rfl (de_isB rfl c.g_isinstance c.g_tuple bt_tuple (de_v 1 (by kernel_rfl)) (by kernel_rfl)) rfl)) (dw_or (dt_cmp (opr_eq hr.units) (sem_eq (neg := false)) (de_v 1 (by kernel_rfl)) (de_tup da_nil) (by kernel_rfl)) (dw_or1 (dt_cmp (opr_eq hr.units) (sem_eq (neg := false)) (de_cD (ok__law_draw c) rfl rfl hr (show 1 ≤ 2 + d by omega) (FC.tk _ _ _ _) (da_c (de_v 0 (by kernel_rfl)) (da_c de_int da_nil rfl) rfl) (by kernel_rfl)) de_int (by kernel_rfl)))))) (dss_cons (ds_ret (de_cD (ok__law_other c) rfl rfl hr (show 2 ≤ 2 + d by omega) (FC.tk _ _ _ _) (da_c (de_v 0 (by kernel_rfl)) (da_c (de_v 1 (by kernel_rfl)) da_nil rfl) rfl) (by kernel_rfl))) dss_nil) dss_nil) (dss_cons (ds_s 2 nd__law_changed (de_op op_modN sem_mod (de_cD (ok__law_draw c) rfl rfl hr (show 1 ≤ 2 + d by omega) (FC.tk _ _ _ _) (da_c (de_v 0 (by kernel_rfl)) (da_c de_int da_nil rfl) rfl) (by kernel_rfl)) (de_cB call_len sem_len c.g_len bt_len (da_c (de_v 1 (by kernel_rfl)) da_nil rfl) (by kernel_rfl))) (by kernel_rfl)) (dss_cons (ds_ret (de_op opr_add (sem_add (md := false)) (de_op opr_add (sem_add (md := false)) (de_slice (md := false) rfl (de_v 1 (by kernel_rfl)) do_none (do_some (de_v 2 (by kernel_rfl)))) (de_tup (da_c (de_cD ih rfl rfl hr (Nat.le_refl _) (FC.tk _ _ _ _) (da_c (de_v 0 (by kernel_rfl)) (da_c (de_ixB rfl hr (de_v 1 (by kernel_rfl)) (de_v 2 (by kernel_rfl)) rfl) da_nil rfl) rfl) (by kernel_rfl)) da_nil rfl))) (de_slice (md := false) rfl (de_v 1 (by kernel_rfl)) (do_some (de_op opr_add (sem_add (md := false)) (de_v 2 (by kernel_rfl)) de_int)) do_none))) dss_nil)))
/-! law -/
abbrev s_law : Stmt := top 48
abbrev N_law : List Str := ["script", "box", "turn", "rows", "point", "terms", "factors", "step", "thing", "row"]
theorem nd_law : N_law.Nodup := by decide +kernel
theorem sc_law : FnScope N_law ["script"] (defScope s_law) := ⟨rfl, rfl, rfl, nd_law, rfl, by decide +kernel, by decide +kernel⟩
noncomputable def B_law (n0 : Nat) : SM := (sSeq (sAsg (mLst true (aCons (mApp 3 F__law_digits (aCons (mVar 0) (aCons (mD (.int 0)) (aCons (mD (.int 63)) aNil)))) (aCons (mD (.int 0)) aNil))) (gN 1)) (sSeq (sFor (mRng1 (aCons (mD (.int 3)) aNil)) (gN 2) (sSeq (sAsg (mApp 3 F__law_rows (aCons (mVar 1) (aCons (mApp 2 F__law_draw (aCons (mVar 1) (aCons (mD (.int 5)) aNil))) (aCons (mD (.int 6)) aNil)))) (gN 3)) (sSeq (sParN [4, 5] (aCons (mApp 2 F__law_drawn_point (aCons (mVar 1) (aCons (m2 fIx (mVar 3) (mD (.int 1))) aNil))) (aCons (mApp 3 F__law_terms (aCons (mVar 1) (aCons (m2 fIx (mVar 3) (mD (.int 1))) (aCons (mD (.int 99)) aNil)))) aNil))) (sSeq (sAsg (mCall fTuple (aCons (mComp false [9] (mIter (m2 fIx (mVar 3) (mD (.int 2)))) (gN 9) (tVal (m2 fGt (mApp 2 F__law_draw (aCons (mVar 1) (aCons (mD (.int 3)) aNil))) (mD (.int 0)))) (mTup (aCons (m2 fIx (mVar 9) (mD (.int 0))) (aCons (mApp 2 F__law_low (aCons (m2 (fAdd false) (mD (.int 1)) (mApp 2 F__law_draw (aCons (mVar 1) (aCons (mD (.int 5)) aNil)))) (aCons (m2 (fAdd false) (mD (.int 1)) (mApp 2 F__law_draw (aCons (mVar 1) (aCons (mD (.int 3)) aNil)))) aNil))) aNil)))) aNil)) (gN 6)) (sSeq (sIf (tAndM (tVal (m2 (fEq true) (mVar 6) (mTup aNil))) (tVal (m2 (fEq false) (mApp 2 F__law_draw (aCons (mVar 1) (aCons (mD (.int 2)) aNil))) (mD (.int 0))))) (sSeq (sAsg (m2 (fAdd false) (mTup (aCons (mTup (aCons (m2 fIx (m2 fIx (mVar 6) (mD (.int 0))) (mD (.int 0))) (aCons (mApp 2 F__law_scaled (aCons (m2 fIx (m2 fIx (mVar 6) (mD (.int 0))) (mD (.int 1))) (aCons (mNeg (mD (.int 1))) aNil))) aNil))) aNil)) (mSlice (fSl false) (mVar 6) (oSome (mD (.int 1))) oNone)) (gN 6)) sNil) sNil) (sSeq (sFor (mRng1 (aCons (mD (.int 4)) aNil)) (gN 7) (sSeq (sAsg (mIf (tVal (m2 fGt (mVar 7) (mD (.int 0)))) (mApp 2 (F__law_changed 20) (aCons (mVar 1) (aCons (mVar 3) aNil))) (mVar 3)) (gN 8)) (sSeq (sIf (tNotM (tTruth (mApp 2 (F__law_like 20) (aCons (mApp 1 F_is_rows (aCons (mVar 8) aNil)) (aCons (mApp 1 F__law_is_rows (aCons (mVar 8) aNil)) aNil))))) (sSeq (sRet n0 (mD (.bl false))) sNil) sNil) (sSeq (sAsg (mIf (tVal (m2 fGt (mVar 7) (mD (.int 0)))) (mApp 2 (F__law_changed 20) (aCons (mVar 1) (aCons (mVar 5) aNil))) (mVar 5)) (gN 8)) (sSeq (sIf (tNotM (tTruth (mApp 2 (F__law_like 20) (aCons (mApp 2 F_is_terms (aCons (m2 fIx (mVar 3) (mD (.int 1))) (aCons (mVar 8) aNil))) (aCons (mApp 2 F__law_is_terms (aCons (m2 fIx (mVar 3) (mD (.int 1))) (aCons (mVar 8) aNil))) aNil))))) (sSeq (sRet n0 (mD (.bl false))) sNil) sNil) (sSeq (sAsg (mIf (tVal (m2 fGt (mVar 7) (mD (.int 0)))) (mApp 2 (F__law_changed 20) (aCons (mVar 1) (aCons (mVar 4) aNil))) (mVar 4)) (gN 8)) (sSeq (sIf (tNotM (tTruth (mApp 2 (F__law_like 20) (aCons (mApp 2 F_is_point (aCons (m2 fIx (mVar 3) (mD (.int 1))) (aCons (mVar 8) aNil))) (aCons (mApp 2 F__law_is_point (aCons (m2 fIx (mVar 3) (mD (.int 1))) (aCons (mVar 8) aNil))) aNil))))) (sSeq (sRet n0 (mD (.bl false))) sNil) sNil) (sSeq (sAsg (mIf (tVal (m2 fGt (mVar 7) (mD (.int 0)))) (mApp 2 (F__law_changed 20) (aCons (mVar 1) (aCons (mVar 6) aNil))) (mVar 6)) (gN 8)) (sSeq (sIf (tNotM (tTruth (mApp 2 (F__law_like 20) (aCons (mApp 2 F_is_factors (aCons (mVar 3) (aCons (mVar 8) aNil))) (aCons (mApp 2 F__law_is_factors (aCons (mVar 3) (aCons (mVar 8) aNil))) aNil))))) (sSeq (sRet n0 (mD (.bl false))) sNil) sNil) sNil))))))))) sNil)))))) (sSeq (sRet n0 (mD (.bl true))) sNil)))
noncomputable def F_law : FS := bodyF 10 B_law
theorem ok_law {P : Program} {w : World} {K : Frag} {mg : Str → Option Value} {base : Heap} {cls : Str → Option Addr} (c : Fx K mg) : Def P w K mg base cls "law" 1 23 F_law := by
  obtain ⟨f, fd, F, gm⟩ := c.d_law
  exact def_ok F gm (fun _ _ _ _ _ _ us hl => match us, hl with | [_], _ => rfl) sc_law rfl rfl fun xs hid cdv A outer s H E n0 hr => (dss_cons (ds_s 1 nd_law (de_lst (md := true) (da_c (de_cD (ok__law_digits c) rfl rfl hr (by decide) (FC.tk _ _ _ _) (da_c (de_v 0 (by kernel_rfl)) (da_c de_int (da_c de_int da_nil rfl) rfl) rfl) (by kernel_rfl)) (da_c de_int da_nil rfl) rfl)) (by kernel_rfl)) (dss_cons (ds_f (FC.own _ _ _ _) rfl (di_r1 c.g_range (da_c de_int da_nil rfl) (by kernel_rfl)) (dgn (by kernel_rfl) nd_law) (dss_cons (ds_s 3 nd_law (de_cD (ok__law_rows c) rfl rfl hr (by decide) (FC.tk _ _ _ _) (da_c (de_v 1 (by kernel_rfl)) (da_c (de_cD (ok__law_draw c) rfl rfl hr (by decide) (FC.tk _ _ _ _) (da_c (de_v 1 (by kernel_rfl)) (da_c de_int da_nil rfl) rfl) (by kernel_rfl)) (da_c de_int da_nil rfl) rfl) rfl) (by kernel_rfl)) (by kernel_rfl)) (dss_cons (ds_p2 (i := 4) (j := 5) rfl nd_law (da_c (de_cD (ok__law_drawn_point c) rfl rfl hr (by decide) (FC.tk _ _ _ _) (da_c (de_v 1 (by kernel_rfl)) (da_c (de_ixB rfl hr (de_v 3 (by kernel_rfl)) de_int rfl) da_nil rfl) rfl) (by kernel_rfl)) (da_c (de_cD (ok__law_terms c) rfl rfl hr (by decide) (FC.tk _ _ _ _) (da_c (de_v 1 (by kernel_rfl)) (da_c (de_ixB rfl hr (de_v 3 (by kernel_rfl)) de_int rfl) (da_c de_int da_nil rfl) rfl) rfl) (by kernel_rfl)) da_nil rfl) rfl) (by kernel_rfl) (by kernel_rfl)) (dss_cons (ds_s 6 nd_law (de_cT call_tuple_of sem_tuple c.g_tuple bt_tuple (da_c (de_l false [("row", 9)] rfl nd_law (di_v rfl (de_ixB rfl hr (de_v 3 (by kernel_rfl)) de_int rfl)) (by kernel_rfl) (fun _ _ _ _ _ _ => (dgn (by kernel_rfl) nd_law)) (fun _ _ _ _ _ _ => (dts_one (dt_cmp opr_gt sem_gt (de_cD (ok__law_draw c) rfl rfl hr (by decide) takes0 (da_c (de_v 1 (by kernel_rfl)) (da_c de_int da_nil rfl) rfl) (by kernel_rfl)) de_int (by kernel_rfl)))) (fun _ _ _ _ _ _ => (de_tup (da_c (de_ixB rfl hr (de_v 9 (by kernel_rfl)) de_int rfl) (da_c (de_cD (ok__law_low c) rfl rfl hr (by decide) takes0 (da_c (de_op opr_add (sem_add (md := false)) de_int (de_cD (ok__law_draw c) rfl rfl hr (by decide) takes0 (da_c (de_v 1 (by kernel_rfl)) (da_c de_int da_nil rfl) rfl) (by kernel_rfl))) (da_c (de_op opr_add (sem_add (md := false)) de_int (de_cD (ok__law_draw c) rfl rfl hr (by decide) takes0 (da_c (de_v 1 (by kernel_rfl)) (da_c de_int da_nil rfl) rfl) (by kernel_rfl))) da_nil rfl) rfl) (by kernel_rfl)) da_nil rfl) rfl)))) da_nil rfl) (by kernel_rfl)) (by kernel_rfl)) (dss_cons (ds_if (dt_w (dw_and (dt_cmp (opr_ne hr.units) (sem_eq (neg := true)) (de_v 6 (by kernel_rfl)) (de_tup da_nil) (by kernel_rfl)) (dw_and1 (dt_cmp (opr_eq hr.units) (sem_eq (neg := false)) (de_cD (ok__law_draw c) rfl rfl hr (by decide) (FC.tk _ _ _ _) (da_c (de_v 1 (by kernel_rfl)) (da_c de_int da_nil rfl) rfl) (by kernel_rfl)) de_int (by kernel_rfl))))) (dss_cons (ds_s 6 nd_law (de_op opr_add (sem_add (md := false)) (de_tup (da_c (de_tup (da_c (de_ixB rfl hr (de_ixB rfl hr (de_v 6 (by kernel_rfl)) de_int rfl) de_int rfl) (da_c (de_cD (ok__law_scaled c) rfl rfl hr (by decide) (FC.tk _ _ _ _) (da_c (de_ixB rfl hr (de_ixB rfl hr (de_v 6 (by kernel_rfl)) de_int rfl) de_int rfl) (da_c (de_neg de_int) da_nil rfl) rfl) (by kernel_rfl)) da_nil rfl) rfl)) da_nil rfl)) (de_slice (md := false) rfl (de_v 6 (by kernel_rfl)) (do_some de_int) do_none)) (by kernel_rfl)) dss_nil) dss_nil) (dss_cons (ds_f (FC.own _ _ _ _) rfl (di_r1 c.g_range (da_c de_int da_nil rfl) (by kernel_rfl)) (dgn (by kernel_rfl) nd_law) (dss_cons (ds_s 8 nd_law (de_if (dt_cmp opr_gt sem_gt (de_v 7 (by kernel_rfl)) de_int (by kernel_rfl)) (de_cD (ok__law_changed c 20) rfl rfl hr (by decide) (FC.tk _ _ _ _) (da_c (de_v 1 (by kernel_rfl)) (da_c (de_v 3 (by kernel_rfl)) da_nil rfl) rfl) (by kernel_rfl)) (de_v 3 (by kernel_rfl))) (by kernel_rfl)) (dss_cons (ds_if (dt_not (dt_t rfl (de_cD (ok__law_like c 20) rfl rfl hr (by decide) (FC.tk _ _ _ _) (da_c (de_cD (ok_is_rows c) rfl rfl hr (by decide) (FC.tk _ _ _ _) (da_c (de_v 8 (by kernel_rfl)) da_nil rfl) (by kernel_rfl)) (da_c (de_cD (ok__law_is_rows c) rfl rfl hr (by decide) (FC.tk _ _ _ _) (da_c (de_v 8 (by kernel_rfl)) da_nil rfl) (by kernel_rfl)) da_nil rfl) rfl) (by kernel_rfl)) rfl)) (dss_cons (ds_ret de_bl) dss_nil) dss_nil) (dss_cons (ds_s 8 nd_law (de_if (dt_cmp opr_gt sem_gt (de_v 7 (by kernel_rfl)) de_int (by kernel_rfl)) (de_cD (ok__law_changed c 20) rfl rfl hr (by decide) (FC.tk _ _ _ _) (da_c (de_v 1 (by kernel_rfl)) (da_c (de_v 5 (by kernel_rfl)) da_nil rfl) rfl) (by kernel_rfl)) (de_v 5 (by kernel_rfl))) (by kernel_rfl)) (dss_cons (ds_if (dt_not (dt_t rfl (de_cD (ok__law_like c 20) rfl rfl hr (by decide) (FC.tk _ _ _ _) (da_c (de_cD (ok_is_terms c) rfl rfl hr (by decide) (FC.tk _ _ _ _) (da_c (de_ixB rfl hr (de_v 3 (by kernel_rfl)) de_int rfl) (da_c (de_v 8 (by kernel_rfl)) da_nil rfl) rfl) (by kernel_rfl)) (da_c (de_cD (ok__law_is_terms c) rfl rfl hr (by decide) (FC.tk _ _ _ _) (da_c (de_ixB rfl hr (de_v 3 (by kernel_rfl)) de_int rfl) (da_c (de_v 8 (by kernel_rfl)) da_nil rfl) rfl) (by kernel_rfl)) da_nil rfl) rfl) (by kernel_rfl)) rfl)) (dss_cons (ds_ret de_bl) dss_nil) dss_nil) (dss_cons (ds_s 8 nd_law (de_if (dt_cmp opr_gt sem_gt (de_v 7 (by kernel_rfl)) de_int (by kernel_rfl)) (de_cD (ok__law_changed c 20) rfl rfl hr (by decide) (FC.tk _ _ _ _) (da_c (de_v 1 (by kernel_rfl)) (da_c (de_v 4 (by kernel_rfl)) da_nil rfl) rfl) (by kernel_rfl)) (de_v 4 (by kernel_rfl))) (by kernel_rfl)) (dss_cons (ds_if (dt_not (dt_t rfl (de_cD (ok__law_like c 20) rfl rfl hr (by decide) (FC.tk _ _ _ _) (da_c (de_cD (ok_is_point c) rfl rfl hr (by decide) (FC.tk _ _ _ _) (da_c (de_ixB rfl hr (de_v 3 (by kernel_rfl)) de_int rfl) (da_c (de_v 8 (by kernel_rfl)) da_nil rfl) rfl) (by kernel_rfl)) (da_c (de_cD (ok__law_is_point c) rfl rfl hr (by decide) (FC.tk _ _ _ _) (da_c (de_ixB rfl hr (de_v 3 (by kernel_rfl)) de_int rfl) (da_c (de_v 8 (by kernel_rfl)) da_nil rfl) rfl) (by kernel_rfl)) da_nil rfl) rfl) (by kernel_rfl)) rfl)) (dss_cons (ds_ret de_bl) dss_nil) dss_nil) (dss_cons (ds_s 8 nd_law (de_if (dt_cmp opr_gt sem_gt (de_v 7 (by kernel_rfl)) de_int (by kernel_rfl)) (de_cD (ok__law_changed c 20) rfl rfl hr (by decide) (FC.tk _ _ _ _) (da_c (de_v 1 (by kernel_rfl)) (da_c (de_v 6 (by kernel_rfl)) da_nil rfl) rfl) (by kernel_rfl)) (de_v 6 (by kernel_rfl))) (by kernel_rfl)) (dss_cons (ds_if (dt_not (dt_t rfl (de_cD (ok__law_like c 20) rfl rfl hr (by decide) (FC.tk _ _ _ _) (da_c (de_cD (ok_is_factors c) rfl rfl hr (by decide) (FC.tk _ _ _ _) (da_c (de_v 3 (by kernel_rfl)) (da_c (de_v 8 (by kernel_rfl)) da_nil rfl) rfl) (by kernel_rfl)) (da_c (de_cD (ok__law_is_factors c) rfl rfl hr (by decide) (FC.tk _ _ _ _) (da_c (de_v 3 (by kernel_rfl)) (da_c (de_v 8 (by kernel_rfl)) da_nil rfl) rfl) (by kernel_rfl)) da_nil rfl) rfl) (by kernel_rfl)) rfl)) (dss_cons (ds_ret de_bl) dss_nil) dss_nil) dss_nil)))))))) rfl) dss_nil))))) rfl) (dss_cons (ds_ret de_bl) dss_nil)))
theorem fn_law {P : Program} {w : World} {K : Frag} {mg : Str → Option Value} {base : Heap} {cls : Str → Option Addr} {f : Addr} {fd : FuncData} (c : Fx K mg) (F : FunD K "law" "law" (defArgs s_law) (defBody s_law) (defScope s_law) [] [] f fd) : FnOk P w K mg base (L2.CX P w) 23 f fd ["script"] (spF ⟨K, cls, [], []⟩ 1 F_law) :=
  fn_ok F sc_law fun cdv A outer s H E n0 hr => (dss_cons (ds_s 1 nd_law (de_lst (md := true) (da_c (de_cD (ok__law_digits c) rfl rfl hr (by decide) (FC.tk _ _ _ _) (da_c (de_v 0 (by kernel_rfl)) (da_c de_int (da_c de_int da_nil rfl) rfl) rfl) (by kernel_rfl)) (da_c de_int da_nil rfl) rfl)) (by kernel_rfl)) (dss_cons (ds_f (FC.own _ _ _ _) rfl (di_r1 c.g_range (da_c de_int da_nil rfl) (by kernel_rfl)) (dgn (by kernel_rfl) nd_law) (dss_cons (ds_s 3 nd_law (de_cD (ok__law_rows c) rfl rfl hr (by decide) (FC.tk _ _ _ _) (da_c (de_v 1 (by kernel_rfl)) (da_c (de_cD (ok__law_draw c) rfl rfl hr (by decide) (FC.tk _ _ _ _) (da_c (de_v 1 (by kernel_rfl)) (da_c de_int da_nil rfl) rfl) (by kernel_rfl)) (da_c de_int da_nil rfl) rfl) rfl) (by kernel_rfl)) (by kernel_rfl)) (dss_cons (ds_p2 (i := 4) (j := 5) rfl nd_law (da_c (de_cD (ok__law_drawn_point c) rfl rfl hr (by decide) (FC.tk _ _ _ _) (da_c (de_v 1 (by kernel_rfl)) (da_c (de_ixB rfl hr (de_v 3 (by kernel_rfl)) de_int rfl) da_nil rfl) rfl) (by kernel_rfl)) (da_c (de_cD (ok__law_terms c) rfl rfl hr (by decide) (FC.tk _ _ _ _) (da_c (de_v 1 (by kernel_rfl)) (da_c (de_ixB rfl hr (de_v 3 (by kernel_rfl)) de_int rfl) (da_c de_int da_nil rfl) rfl) rfl) (by kernel_rfl)) da_nil rfl) rfl) (by kernel_rfl) (by kernel_rfl)) (dss_cons (ds_s 6 nd_law (de_cT call_tuple_of sem_tuple c.g_tuple bt_tuple (da_c (de_l false [("row", 9)] rfl nd_law (di_v rfl (de_ixB rfl hr (de_v 3 (by kernel_rfl)) de_int rfl)) (by kernel_rfl) (fun _ _ _ _ _ _ => (dgn (by kernel_rfl) nd_law)) (fun _ _ _ _ _ _ => (dts_one (dt_cmp opr_gt sem_gt (de_cD (ok__law_draw c) rfl rfl hr (by decide) takes0 (da_c (de_v 1 (by kernel_rfl)) (da_c de_int da_nil rfl) rfl) (by kernel_rfl)) de_int (by kernel_rfl)))) (fun _ _ _ _ _ _ => (de_tup (da_c (de_ixB rfl hr (de_v 9 (by kernel_rfl)) de_int rfl) (da_c (de_cD (ok__law_low c) rfl rfl hr (by decide) takes0 (da_c (de_op opr_add (sem_add (md := false)) de_int (de_cD (ok__law_draw c) rfl rfl hr (by decide) takes0 (da_c (de_v 1 (by kernel_rfl)) (da_c de_int da_nil rfl) rfl) (by kernel_rfl))) (da_c (de_op opr_add (sem_add (md := false)) de_int (de_cD (ok__law_draw c) rfl rfl hr (by decide) takes0 (da_c (de_v 1 (by kernel_rfl)) (da_c de_int da_nil rfl) rfl) (by kernel_rfl))) da_nil rfl) rfl) (by kernel_rfl)) da_nil rfl) rfl)))) da_nil rfl) (by kernel_rfl)) (by kernel_rfl)) (dss_cons (ds_if (dt_w (dw_and (dt_cmp (opr_ne hr.units) (sem_eq (neg := true)) (de_v 6 (by kernel_rfl)) (de_tup da_nil) (by kernel_rfl)) (dw_and1 (dt_cmp (opr_eq hr.units) (sem_eq (neg := false)) (de_cD (ok__law_draw c) rfl rfl hr (by decide) (FC.tk _ _ _ _) (da_c (de_v 1 (by kernel_rfl)) (da_c de_int da_nil rfl) rfl) (by kernel_rfl)) de_int (by kernel_rfl))))) (dss_cons (ds_s 6 nd_law (de_op opr_add (sem_add (md := false)) (de_tup (da_c (de_tup (da_c (de_ixB rfl hr (de_ixB rfl hr (de_v 6 (by kernel_rfl)) de_int rfl) de_int rfl) (da_c (de_cD (ok__law_scaled c) rfl rfl hr (by decide) (FC.tk _ _ _ _) (da_c (de_ixB rfl hr (de_ixB rfl hr (de_v 6 (by kernel_rfl)) de_int rfl) de_int rfl) (da_c (de_neg de_int) da_nil rfl) rfl) (by kernel_rfl)) da_nil rfl) rfl)) da_nil rfl)) (de_slice (md := false) rfl (de_v 6 (by kernel_rfl)) (do_some de_int) do_none)) (by kernel_rfl)) dss_nil) dss_nil) (dss_cons (ds_f (FC.own _ _ _ _) rfl (di_r1 c.g_range (da_c de_int da_nil rfl) (by kernel_rfl)) (dgn (by kernel_rfl) nd_law) (dss_cons (ds_s 8 nd_law (de_if (dt_cmp opr_gt sem_gt (de_v 7 (by kernel_rfl)) de_int (by kernel_rfl)) (de_cD (ok__law_changed c 20) rfl rfl hr (by decide) (FC.tk _ _ _ _) (da_c (de_v 1 (by kernel_rfl)) (da_c (de_v 3 (by kernel_rfl)) da_nil rfl) rfl) (by kernel_rfl)) (de_v 3 (by kernel_rfl))) (by kernel_rfl)) (dss_cons (ds_if (dt_not (dt_t rfl (de_cD (ok__law_like c 20) rfl rfl hr (by decide) (FC.tk _ _ _ _) (da_c (de_cD (ok_is_rows c) rfl rfl hr (by decide) (FC.tk _ _ _ _) (da_c (de_v 8 (by kernel_rfl)) da_nil rfl) (by kernel_rfl)) (da_c (de_cD (ok__law_is_rows c) rfl rfl hr (by decide) (FC.tk _ _ _ _) (da_c (de_v 8 (by kernel_rfl)) da_nil rfl) (by kernel_rfl)) da_nil rfl) rfl) (by kernel_rfl)) rfl)) (dss_cons (ds_ret de_bl) dss_nil) dss_nil) (dss_cons (ds_s 8 nd_law (de_if (dt_cmp opr_gt sem_gt (de_v 7 (by kernel_rfl)) de_int (by kernel_rfl)) (de_cD (ok__law_changed c 20) rfl rfl hr (by decide) (FC.tk _ _ _ _) (da_c (de_v 1 (by kernel_rfl)) (da_c (de_v 5 (by kernel_rfl)) da_nil rfl) rfl) (by kernel_rfl)) (de_v 5 (by kernel_rfl))) (by kernel_rfl)) (dss_cons (ds_if (dt_not (dt_t rfl (de_cD (ok__law_like c 20) rfl rfl hr (by decide) (FC.tk _ _ _ _) (da_c (de_cD (ok_is_terms c) rfl rfl hr (by decide) (FC.tk _ _ _ _) (da_c (de_ixB rfl hr (de_v 3 (by kernel_rfl)) de_int rfl) (da_c (de_v 8 (by kernel_rfl)) da_nil rfl) rfl) (by kernel_rfl)) (da_c (de_cD (ok__law_is_terms c) rfl rfl hr (by decide) (FC.tk _ _ _ _) (da_c (de_ixB rfl hr (de_v 3 (by kernel_rfl)) de_int rfl) (da_c (de_v 8 (by kernel_rfl)) da_nil rfl) rfl) (by kernel_rfl)) da_nil rfl) rfl) (by kernel_rfl)) rfl)) (dss_cons (ds_ret de_bl) dss_nil) dss_nil) (dss_cons (ds_s 8 nd_law (de_if (dt_cmp opr_gt sem_gt (de_v 7 (by kernel_rfl)) de_int (by kernel_rfl)) (de_cD (ok__law_changed c 20) rfl rfl hr (by decide) (FC.tk _ _ _ _) (da_c (de_v 1 (by kernel_rfl)) (da_c (de_v 4 (by kernel_rfl)) da_nil rfl) rfl) (by kernel_rfl)) (de_v 4 (by kernel_rfl))) (by kernel_rfl)) (dss_cons (ds_if (dt_not (dt_t rfl (de_cD (ok__law_like c 20) rfl rfl hr (by decide) (FC.tk _ _ _ _) (da_c (de_cD (ok_is_point c) rfl rfl hr (by decide) (FC.tk _ _ _ _) (da_c (de_ixB rfl hr (de_v 3 (by kernel_rfl)) de_int rfl) (da_c (de_v 8 (by kernel_rfl)) da_nil rfl) rfl) (by kernel_rfl)) (da_c (de_cD (ok__law_is_point c) rfl rfl hr (by decide) (FC.tk _ _ _ _) (da_c (de_ixB rfl hr (de_v 3 (by kernel_rfl)) de_int rfl) (da_c (de_v 8 (by kernel_rfl)) da_nil rfl) rfl) (by kernel_rfl)) da_nil rfl) rfl) (by kernel_rfl)) rfl)) (dss_cons (ds_ret de_bl) dss_nil) dss_nil) (dss_cons (ds_s 8 nd_law (de_if (dt_cmp opr_gt sem_gt (de_v 7 (by kernel_rfl)) de_int (by kernel_rfl)) (de_cD (ok__law_changed c 20) rfl rfl hr (by decide) (FC.tk _ _ _ _) (da_c (de_v 1 (by kernel_rfl)) (da_c (de_v 6 (by kernel_rfl)) da_nil rfl) rfl) (by kernel_rfl)) (de_v 6 (by kernel_rfl))) (by kernel_rfl)) (dss_cons (ds_if (dt_not (dt_t rfl (de_cD (ok__law_like c 20) rfl rfl hr (by decide) (FC.tk _ _ _ _) (da_c (de_cD (ok_is_factors c) rfl rfl hr (by decide) (FC.tk _ _ _ _) (da_c (de_v 3 (by kernel_rfl)) (da_c (de_v 8 (by kernel_rfl)) da_nil rfl) rfl) (by kernel_rfl)) (da_c (de_cD (ok__law_is_factors c) rfl rfl hr (by decide) (FC.tk _ _ _ _) (da_c (de_v 3 (by kernel_rfl)) (da_c (de_v 8 (by kernel_rfl)) da_nil rfl) rfl) (by kernel_rfl)) da_nil rfl) rfl) (by kernel_rfl)) rfl)) (dss_cons (ds_ret de_bl) dss_nil) dss_nil) dss_nil)))))))) rfl) dss_nil))))) rfl) (dss_cons (ds_ret de_bl) dss_nil)))
end K02
end
section
set_option Elab.async false
set_option linter.all false
set_option maxRecDepth 100000
set_option maxHeartbeats 2000000
namespace K02
open PySem PySem.Spec L2 Sl PyProof.Rows
abbrev pI (i : Int) : Val := .p (.int i)
theorem atI_nat {α : Type} (xs : List α) (k : Nat) : L2.atI xs (k : Int) = xs[k]? := by
  unfold L2.atI L2.ixN
  by_cases h : k < xs.length
  · rw [if_pos (by omega), if_pos (by omega)]
    simp
  · rw [if_pos (by omega), if_neg (by omega), List.getElem?_eq_none (by omega)]
    rfl
theorem f_cell (ns : List Int) (rest : Sto) (k : Nat) : F__law_cell [.r 0, pI k] (.scr ns :: rest) = .ok (pI (ns.getD k 0)) (.scr ns :: rest) := by
  simp only [F__law_cell, B__law_cell, bodyF, sSeq, sNil, sRet, sRetK, sIf, sAsg, sExpr, sSub, sBrk, sCt, sParN, R.then, R.bind, R.lift, R.noExc, mVar, mD, mTup, mLst, mAndV, mOrV, mNotV, mIf, mNeg, mIsi, mApp, mCall, mMeth, mMeth0, mChain, m2, mSlice, oNone, oSome, aNil, aCons, tVal, tTruth, tAndM, tOrM, tNotM, tmYes, gN, gT, gsGo, setAll, List.length_cons, List.length_nil, List.map_cons, List.map_nil, List.cons_append, List.nil_append, List.replicate, List.getElem?_cons_zero, List.getElem?_cons_succ, List.set_cons_zero, List.set_cons_succ, Nat.sub_self, Nat.zero_add, Nat.add_zero, Nat.reduceAdd, Nat.reduceSub, Nat.reduceEqDiff, if_true, if_false, if_pos, reduceIte, reduceCtorEq, Bool.not_true, Bool.not_false, truth, tyName, isTy, fLen, viewL, fLt, List.length_map]
  by_cases h : k < ns.length
  · simp [h, fIx, fIxO, viewL, atI_nat]
  · simp [h]
/-- what the box may hold -/
def Dg (ds : List Int) : Prop := ∀ z ∈ ds, 0 ≤ z ∧ z < 1000
theorem Dg.add {ds : List Int} {z : Int} (h : Dg ds) (h0 : 0 ≤ z) (h1 : z < 1000) : Dg (ds ++ [z]) := fun y hy => by
  rcases List.mem_append.mp hy with hy | hy
  · exact h y hy
  · rw [List.mem_singleton.mp hy]; exact ⟨h0, h1⟩
theorem log_small {i : Int} {n : Nat} (h : i.natAbs < 2 ^ n) (hn : 0 < n) : i.natAbs.log2 < n := by
  by_cases h0 : i.natAbs = 0
  · rw [h0]; simpa using hn
  · exact (Nat.log2_lt h0).mpr h
theorem fmod1000 (i : Int) : 0 ≤ i.fmod 1000 ∧ i.fmod 1000 < 1000 := ⟨Int.fmod_nonneg_of_pos i (by omega), Int.fmod_lt_of_pos i (by omega)⟩
theorem app_ok {ns ds : List Int} {z : Int} (h : ds.length < 10000) : fApp (.r 1) [pI z] [.scr ns, .lst (ds.map pI)] = some (.p .non, [.scr ns, .lst ((ds ++ [z]).map pI)]) := by
  simp only [fApp, List.getElem?_cons_zero, List.getElem?_cons_succ, List.length_map]
  rw [if_pos (by rw [sizeLine_eq]; omega)]
  simp
theorem loop60 (ns ds : List Int) (a4 a7 : Option Val) (a6 : Option Val) (c : Int) (hd : Dg ds) (hl : ds.length ≤ 5000) :
    ∃ a6' c' ds', Dg ds' ∧ ds'.length ≤ ds.length + 60 ∧ sFor (mRng1 (aCons (mD (.int 60)) aNil)) (gN 6) (sSeq (sIf (tVal (m2 fGt (mVar 5) (mD (.int 0)))) (sSeq (sExpr (mMeth isLstV fApp (mVar 3) (aCons (m2 fMod (mCall fInt (aCons (mVar 5) aNil)) (mD (.int 1000))) aNil))) (sSeq (sAsg (m2 fFdiv (mVar 5) (mD (.int 1000))) (gN 5)) sNil)) sNil) sNil)
      [some (.r 0), some (pI 0), some (pI 63), some (.r 1), a4, some (pI c), a6, a7] [.scr ns, .lst (ds.map pI)] = .nx [some (.r 0), some (pI 0), some (pI 63), some (.r 1), a4, some (pI c'), a6', a7] [.scr ns, .lst (ds'.map pI)] := by
  have hr : inW 60 = true := by decide
  simp only [sFor, mRng1, bodyF, sSeq, sNil, sRet, sRetK, sIf, sAsg, sExpr, sSub, sBrk, sCt, sParN, R.then, R.bind, R.lift, R.noExc, mVar, mD, mTup, mLst, mAndV, mOrV, mNotV, mIf, mNeg, mIsi, mApp, mCall, mMeth, mMeth0, mChain, m2, mSlice, oNone, oSome, aNil, aCons, tVal, tTruth, tAndM, tOrM, tNotM, tmYes, gN, gT, gsGo, setAll, List.length_cons, List.length_nil, List.map_cons, List.map_nil, List.cons_append, List.nil_append, List.replicate, List.getElem?_cons_zero, List.getElem?_cons_succ, List.set_cons_zero, List.set_cons_succ, Nat.sub_self, Nat.zero_add, Nat.add_zero, Nat.reduceAdd, Nat.reduceSub, Nat.reduceEqDiff, if_true, if_false, if_pos, reduceIte, reduceCtorEq, Bool.not_true, Bool.not_false, truth, tyName, isTy, hr]
  refine forGo_post (Post := fun r => ∃ a6' c' ds', Dg ds' ∧ ds'.length ≤ ds.length + 60 ∧ r = .nx [some (.r 0), some (pI 0), some (pI 63), some (.r 1), a4, some (pI c'), a6', a7] [.scr ns, .lst (ds'.map pI)])
    (fun i env st => ∃ a6' c' ds', Dg ds' ∧ ds'.length ≤ ds.length + i ∧ env = [some (.r 0), some (pI 0), some (pI 63), some (.r 1), a4, some (pI c'), a6', a7] ∧ st = [.scr ns, .lst (ds'.map pI)]) ⟨a6, c, ds, hd, Nat.le_refl _, rfl, rfl⟩ ?_ ?_
  · rintro i x env st hx ⟨a6', c', ds', h1, h2, rfl, rfl⟩
    have hi : i < 60 := by
      have := (List.getElem?_eq_some_iff.mp hx).1
      simpa [rngItems] using this
    refine ⟨rfl, _, rfl, ?_⟩
    simp only [bodyF, sSeq, sNil, sRet, sRetK, sIf, sAsg, sExpr, sSub, sBrk, sCt, sParN, R.then, R.bind, R.lift, R.noExc, mVar, mD, mTup, mLst, mAndV, mOrV, mNotV, mIf, mNeg, mIsi, mApp, mCall, mMeth, mMeth0, mChain, m2, mSlice, oNone, oSome, aNil, aCons, tVal, tTruth, tAndM, tOrM, tNotM, tmYes, gN, gT, gsGo, setAll, List.length_cons, List.length_nil, List.map_cons, List.map_nil, List.cons_append, List.nil_append, List.replicate, List.getElem?_cons_zero, List.getElem?_cons_succ, List.set_cons_zero, List.set_cons_succ, Nat.sub_self, Nat.zero_add, Nat.add_zero, Nat.reduceAdd, Nat.reduceSub, Nat.reduceEqDiff, if_true, if_false, if_pos, reduceIte, reduceCtorEq, Bool.not_true, Bool.not_false, truth, tyName, isTy, fGt, isLstV, fMod, fFdiv, fI, fInt]
    by_cases hc : 0 < c'
    · have hm := fmod1000 c'
      have hdv : divOk c' 1000 = true := by
        simp only [divOk]; decide
      simp [hc, app_ok (ns := ns) (ds := ds') (z := c'.fmod 1000) (by omega), hdv]
      exact ⟨_, _, ds' ++ [c'.fmod 1000], h1.add hm.1 hm.2, by simp; omega, ⟨rfl, rfl⟩, by simp⟩
    · simp [hc]
      exact ⟨_, _, ds', h1, by omega, ⟨rfl, rfl⟩, rfl⟩
  · rintro env st ⟨a6', c', ds', h1, h2, rfl, rfl⟩
    exact ⟨rfl, a6', c', ds', h1, by simpa [rngItems] using h2, rfl⟩
theorem fmodM (i : Int) : 0 ≤ i.fmod 2147483647 ∧ i.fmod 2147483647 < 2147483647 := ⟨Int.fmod_nonneg_of_pos i (by omega), Int.fmod_lt_of_pos i (by omega)⟩
theorem mulOk_small {i j : Int} (h1 : i.natAbs < 2 ^ 64) (h2 : j.natAbs < 2 ^ 64) : mulOk i j = true := by
  have a := log_small h1 (by omega)
  have b := log_small h2 (by omega)
  simp only [mulOk, decide_eq_true_eq]
  omega
theorem divOk_pos {i j : Int} (h0 : 0 < j) (h1 : j.natAbs < 2 ^ 64) : divOk i j = true := by
  have a := log_small h1 (by omega)
  simp only [divOk, Bool.or_eq_true, Bool.and_eq_true, decide_eq_true_eq]
  exact .inl ⟨h0, by omega⟩
theorem loop12 (ns ds : List Int) (a4 a5 : Option Val) (a6 : Option Val) (c : Int) (hd : Dg ds) (hl : ds.length ≤ 5000) (hc : 0 ≤ c ∧ c < 2147483647) :
    ∃ a6' c' ds', Dg ds' ∧ ds'.length ≤ ds.length + 60 ∧ sFor (mRng1 (aCons (mD (.int 12)) aNil)) (gN 6) (sSeq (sAsg (m2 fMod (mCall fInt (aCons (m2 (fAdd false) (m2 (fAdd false) (m2 (fMul false) (mVar 7) (mD (.int 16807))) (m2 (fMul false) (mD (.int 7)) (mVar 6))) (mD (.int 1))) aNil)) (mD (.int 2147483647))) (gN 7)) (sSeq (sExpr (mMeth isLstV fApp (mVar 3) (aCons (m2 fMod (mCall fInt (aCons (m2 fFdiv (mVar 7) (mD (.int 997))) aNil)) (mD (.int 1000))) aNil))) sNil))
      [some (.r 0), some (pI 0), some (pI 63), some (.r 1), a4, a5, a6, some (pI c)] [.scr ns, .lst (ds.map pI)] = .nx [some (.r 0), some (pI 0), some (pI 63), some (.r 1), a4, a5, a6', some (pI c')] [.scr ns, .lst (ds'.map pI)] := by
  have hr : inW 12 = true := by decide
  simp only [sFor, mRng1, bodyF, sSeq, sNil, sRet, sRetK, sIf, sAsg, sExpr, sSub, sBrk, sCt, sParN, R.then, R.bind, R.lift, R.noExc, mVar, mD, mTup, mLst, mAndV, mOrV, mNotV, mIf, mNeg, mIsi, mApp, mCall, mMeth, mMeth0, mChain, m2, mSlice, oNone, oSome, aNil, aCons, tVal, tTruth, tAndM, tOrM, tNotM, tmYes, gN, gT, gsGo, setAll, List.length_cons, List.length_nil, List.map_cons, List.map_nil, List.cons_append, List.nil_append, List.replicate, List.getElem?_cons_zero, List.getElem?_cons_succ, List.set_cons_zero, List.set_cons_succ, Nat.sub_self, Nat.zero_add, Nat.add_zero, Nat.reduceAdd, Nat.reduceSub, Nat.reduceEqDiff, if_true, if_false, if_pos, reduceIte, reduceCtorEq, Bool.not_true, Bool.not_false, truth, tyName, isTy, hr]
  refine forGo_post (Post := fun r => ∃ a6' c' ds', Dg ds' ∧ ds'.length ≤ ds.length + 60 ∧ r = .nx [some (.r 0), some (pI 0), some (pI 63), some (.r 1), a4, a5, a6', some (pI c')] [.scr ns, .lst (ds'.map pI)])
    (fun i env st => ∃ a6' c' ds', (0 ≤ c' ∧ c' < 2147483647) ∧ Dg ds' ∧ ds'.length ≤ ds.length + i ∧ env = [some (.r 0), some (pI 0), some (pI 63), some (.r 1), a4, a5, a6', some (pI c')] ∧ st = [.scr ns, .lst (ds'.map pI)]) ⟨a6, c, ds, hc, hd, Nat.le_refl _, rfl, rfl⟩ ?_ ?_
  · rintro i x env st hx ⟨a6', c', ds', h0, h1, h2, rfl, rfl⟩
    have hi : i < 12 := by
      have := (List.getElem?_eq_some_iff.mp hx).1
      simpa [rngItems] using this
    have ex : x = pI i := by
      simp [rngItems, List.getElem?_map, List.getElem?_range hi] at hx
      exact hx.symm
    subst ex
    refine ⟨rfl, _, rfl, ?_⟩
    have hm := fmodM (c' * 16807 + 7 * i + 1)
    have k1 : mulOk c' 16807 = true := mulOk_small (by omega) (by decide)
    have k2 : mulOk 7 (i : Int) = true := mulOk_small (by decide) (by omega)
    have k3 : ∀ z, divOk z 997 = true := fun z => divOk_pos (by decide) (by decide)
    have hm2 := fmod1000 (((c' * 16807 + 7 * i + 1).fmod 2147483647).fdiv 997)
    simp only [bodyF, sSeq, sNil, sRet, sRetK, sIf, sAsg, sExpr, sSub, sBrk, sCt, sParN, R.then, R.bind, R.lift, R.noExc, mVar, mD, mTup, mLst, mAndV, mOrV, mNotV, mIf, mNeg, mIsi, mApp, mCall, mMeth, mMeth0, mChain, m2, mSlice, oNone, oSome, aNil, aCons, tVal, tTruth, tAndM, tOrM, tNotM, tmYes, gN, gT, gsGo, setAll, List.length_cons, List.length_nil, List.map_cons, List.map_nil, List.cons_append, List.nil_append, List.replicate, List.getElem?_cons_zero, List.getElem?_cons_succ, List.set_cons_zero, List.set_cons_succ, Nat.sub_self, Nat.zero_add, Nat.add_zero, Nat.reduceAdd, Nat.reduceSub, Nat.reduceEqDiff, if_true, if_false, if_pos, reduceIte, reduceCtorEq, Bool.not_true, Bool.not_false, truth, tyName, isTy, isLstV, fMod, fFdiv, fI, fInt, fAdd, fMul, k1, k2, k3]
    simp [k3, app_ok (ns := ns) (ds := ds') (z := ((c' * 16807 + 7 * i + 1).fmod 2147483647).fdiv 997 |>.fmod 1000) (by omega)]
    exact ⟨_, _, hm, ds' ++ [(((c' * 16807 + 7 * i + 1).fmod 2147483647).fdiv 997).fmod 1000], h1.add hm2.1 hm2.2, by simp; omega, ⟨rfl, rfl⟩, by simp⟩
  · rintro env st ⟨a6', c', ds', h0, h1, h2, rfl, rfl⟩
    refine ⟨rfl, a6', c', ds', h1, ?_, rfl⟩
    have : ds'.length ≤ ds.length + 12 := by simpa [rngItems] using h2
    omega
theorem f_digits (ns : List Int) (hn : ∀ z ∈ ns, z.natAbs.log2 < 1048577) : ∃ ds, Dg ds ∧ ds.length ≤ 5000 ∧ F__law_digits [.r 0, pI 0, pI 63] [.scr ns] = .ok (.p (.lst (ds.map .int))) [.scr ns] := by
  have key : ∃ a4 a5 a6 a7 ds, Dg ds ∧ ds.length ≤ 5000 ∧ B__law_digits 1 [some (.r 0), some (pI 0), some (pI 63), none, none, none, none, none] [.scr ns] = sSeq (sRet 1 (mVar 3)) sNil [some (.r 0), some (pI 0), some (pI 63), some (.r 1), a4, a5, a6, a7] [.scr ns, .lst (ds.map pI)] := by
    unfold B__law_digits
    rw [seq_nx (env' := [some (.r 0), some (pI 0), some (pI 63), some (.r 1), none, none, none, none]) (st' := [.scr ns, .lst []]) (by simp [bodyF, sSeq, sNil, sRet, sRetK, sIf, sAsg, sExpr, sSub, sBrk, sCt, sParN, R.then, R.bind, R.lift, R.noExc, mVar, mD, mTup, mLst, mAndV, mOrV, mNotV, mIf, mNeg, mIsi, mApp, mCall, mMeth, mMeth0, mChain, m2, mSlice, oNone, oSome, aNil, aCons, tVal, tTruth, tAndM, tOrM, tNotM, tmYes, gN, gT, gsGo, setAll, List.length_cons, List.length_nil, List.map_cons, List.map_nil, List.cons_append, List.nil_append, List.replicate, List.getElem?_cons_zero, List.getElem?_cons_succ, List.set_cons_zero, List.set_cons_succ, Nat.sub_self, Nat.zero_add, Nat.add_zero, Nat.reduceAdd, Nat.reduceSub, Nat.reduceEqDiff, if_true, if_false, if_pos, reduceIte, reduceCtorEq, Bool.not_true, Bool.not_false, truth, tyName, isTy, newLst])]
    have hr : inW 0 = true ∧ inW 63 = true := by decide
    simp only [sFor, mRng2, bodyF, sSeq, sNil, sRet, sRetK, sIf, sAsg, sExpr, sSub, sBrk, sCt, sParN, R.then, R.bind, R.lift, R.noExc, mVar, mD, mTup, mLst, mAndV, mOrV, mNotV, mIf, mNeg, mIsi, mApp, mCall, mMeth, mMeth0, mChain, m2, mSlice, oNone, oSome, aNil, aCons, tVal, tTruth, tAndM, tOrM, tNotM, tmYes, gN, gT, gsGo, setAll, List.length_cons, List.length_nil, List.map_cons, List.map_nil, List.cons_append, List.nil_append, List.replicate, List.getElem?_cons_zero, List.getElem?_cons_succ, List.set_cons_zero, List.set_cons_succ, Nat.sub_self, Nat.zero_add, Nat.add_zero, Nat.reduceAdd, Nat.reduceSub, Nat.reduceEqDiff, if_true, if_false, if_pos, reduceIte, reduceCtorEq, Bool.not_true, Bool.not_false, truth, tyName, isTy]
    rw [if_pos hr]
    dsimp only
    generalize hm : sSeq (sAsg (mApp 2 F__law_cell _) (gN 5)) _ = body
    have hloop : ∃ a4 a5 a6 a7 ds, Dg ds ∧ ds.length ≤ 5000 ∧ forGo none (rngItems 0 ((63 : Int) - 0).toNat) (gN 4) body (rngItems 0 ((63 : Int) - 0).toNat) [some (.r 0), some (pI 0), some (pI 63), some (.r 1), none, none, none, none] [.scr ns, .lst []] = .nx [some (.r 0), some (pI 0), some (pI 63), some (.r 1), a4, a5, a6, a7] [.scr ns, .lst (ds.map pI)] := by
      subst hm
      refine forGo_post (Post := fun r => ∃ a4 a5 a6 a7 ds, Dg ds ∧ ds.length ≤ 5000 ∧ r = .nx [some (.r 0), some (pI 0), some (pI 63), some (.r 1), a4, a5, a6, a7] [.scr ns, .lst (ds.map pI)])
        (fun i env st => ∃ a4 a5 a6 a7 ds, Dg ds ∧ ds.length ≤ 60 * i ∧ env = [some (.r 0), some (pI 0), some (pI 63), some (.r 1), a4, a5, a6, a7] ∧ st = [.scr ns, .lst (ds.map pI)]) ⟨none, none, none, none, [], fun z hz => (nomatch hz), Nat.le_refl _, rfl, rfl⟩ ?_ ?_
      · rintro i x env st hx ⟨a4, a5, a6, a7, ds, h1, h2, rfl, rfl⟩
        have hi : i < 63 := by
          have := (List.getElem?_eq_some_iff.mp hx).1
          simpa [rngItems] using this
        have ex : x = pI i := by
          simp only [rngItems, List.getElem?_map] at hx
          rw [List.getElem?_range (by simpa using hi)] at hx
          simp at hx
          exact hx.symm
        subst ex
        refine ⟨rfl, _, rfl, ?_⟩
        rw [seq_nx (env' := [some (.r 0), some (pI 0), some (pI 63), some (.r 1), some (pI i), some (pI (ns.getD i 0)), a6, a7]) (st' := [.scr ns, .lst (ds.map pI)]) (by simp [bodyF, sSeq, sNil, sRet, sRetK, sIf, sAsg, sExpr, sSub, sBrk, sCt, sParN, R.then, R.bind, R.lift, R.noExc, mVar, mD, mTup, mLst, mAndV, mOrV, mNotV, mIf, mNeg, mIsi, mApp, mCall, mMeth, mMeth0, mChain, m2, mSlice, oNone, oSome, aNil, aCons, tVal, tTruth, tAndM, tOrM, tNotM, tmYes, gN, gT, gsGo, setAll, List.length_cons, List.length_nil, List.map_cons, List.map_nil, List.cons_append, List.nil_append, List.replicate, List.getElem?_cons_zero, List.getElem?_cons_succ, List.set_cons_zero, List.set_cons_succ, Nat.sub_self, Nat.zero_add, Nat.add_zero, Nat.reduceAdd, Nat.reduceSub, Nat.reduceEqDiff, if_true, if_false, if_pos, reduceIte, reduceCtorEq, Bool.not_true, Bool.not_false, truth, tyName, isTy, f_cell])]
        have hb : (ns.getD i 0).natAbs.log2 < 1048577 := by
          by_cases q : i < ns.length
          · rw [List.getD_eq_getElem?_getD, List.getElem?_eq_getElem q]
            exact hn _ (List.getElem_mem q)
          · rw [List.getD_eq_getElem?_getD, List.getElem?_eq_none (by omega)]
            decide
        generalize ns.getD i 0 = c at hb
        have hc2 : ∃ c', 0 ≤ c' ∧ sIf (tVal (m2 fLt (mVar 5) (mD (.int 0)))) (sSeq (sAsg (m2 fSub (mD (.int 1)) (m2 (fMul false) (mD (.int 2)) (mVar 5))) (gN 5)) sNil) sNil [some (.r 0), some (pI 0), some (pI 63), some (.r 1), some (pI i), some (pI c), a6, a7] [.scr ns, .lst (ds.map pI)] = .nx [some (.r 0), some (pI 0), some (pI 63), some (.r 1), some (pI i), some (pI c'), a6, a7] [.scr ns, .lst (ds.map pI)] := by
          by_cases q : c < 0
          · have hk : mulOk 2 c = true := by
              simp only [mulOk, decide_eq_true_eq]
              have : (2 : Int).natAbs.log2 = 1 := by decide
              omega
            exact ⟨1 - 2 * c, by omega, by simp [bodyF, sSeq, sNil, sRet, sRetK, sIf, sAsg, sExpr, sSub, sBrk, sCt, sParN, R.then, R.bind, R.lift, R.noExc, mVar, mD, mTup, mLst, mAndV, mOrV, mNotV, mIf, mNeg, mIsi, mApp, mCall, mMeth, mMeth0, mChain, m2, mSlice, oNone, oSome, aNil, aCons, tVal, tTruth, tAndM, tOrM, tNotM, tmYes, gN, gT, gsGo, setAll, List.length_cons, List.length_nil, List.map_cons, List.map_nil, List.cons_append, List.nil_append, List.replicate, List.getElem?_cons_zero, List.getElem?_cons_succ, List.set_cons_zero, List.set_cons_succ, Nat.sub_self, Nat.zero_add, Nat.add_zero, Nat.reduceAdd, Nat.reduceSub, Nat.reduceEqDiff, if_true, if_false, if_pos, reduceIte, reduceCtorEq, Bool.not_true, Bool.not_false, truth, tyName, isTy, fLt, fSub, fI, fMul, q, hk]⟩
          · exact ⟨c, by omega, by simp [bodyF, sSeq, sNil, sRet, sRetK, sIf, sAsg, sExpr, sSub, sBrk, sCt, sParN, R.then, R.bind, R.lift, R.noExc, mVar, mD, mTup, mLst, mAndV, mOrV, mNotV, mIf, mNeg, mIsi, mApp, mCall, mMeth, mMeth0, mChain, m2, mSlice, oNone, oSome, aNil, aCons, tVal, tTruth, tAndM, tOrM, tNotM, tmYes, gN, gT, gsGo, setAll, List.length_cons, List.length_nil, List.map_cons, List.map_nil, List.cons_append, List.nil_append, List.replicate, List.getElem?_cons_zero, List.getElem?_cons_succ, List.set_cons_zero, List.set_cons_succ, Nat.sub_self, Nat.zero_add, Nat.add_zero, Nat.reduceAdd, Nat.reduceSub, Nat.reduceEqDiff, if_true, if_false, if_pos, reduceIte, reduceCtorEq, Bool.not_true, Bool.not_false, truth, tyName, isTy, fLt, q]⟩
        obtain ⟨c', hc', ec⟩ := hc2
        rw [seq_nx ec]
        by_cases hlen : (1500 : Int) < ds.length
        · rw [seq_bk (env' := [some (.r 0), some (pI 0), some (pI 63), some (.r 1), some (pI i), some (pI c'), a6, a7]) (st' := [.scr ns, .lst (ds.map pI)]) (by simp [bodyF, sSeq, sNil, sRet, sRetK, sIf, sAsg, sExpr, sSub, sBrk, sCt, sParN, R.then, R.bind, R.lift, R.noExc, mVar, mD, mTup, mLst, mAndV, mOrV, mNotV, mIf, mNeg, mIsi, mApp, mCall, mMeth, mMeth0, mChain, m2, mSlice, oNone, oSome, aNil, aCons, tVal, tTruth, tAndM, tOrM, tNotM, tmYes, gN, gT, gsGo, setAll, List.length_cons, List.length_nil, List.map_cons, List.map_nil, List.cons_append, List.nil_append, List.replicate, List.getElem?_cons_zero, List.getElem?_cons_succ, List.set_cons_zero, List.set_cons_succ, Nat.sub_self, Nat.zero_add, Nat.add_zero, Nat.reduceAdd, Nat.reduceSub, Nat.reduceEqDiff, if_true, if_false, if_pos, reduceIte, reduceCtorEq, Bool.not_true, Bool.not_false, truth, tyName, isTy, fGt, fLen, viewL, hlen])]
          exact ⟨_, _, _, _, ds, h1, by omega, rfl⟩
        · rw [seq_nx (env' := [some (.r 0), some (pI 0), some (pI 63), some (.r 1), some (pI i), some (pI c'), a6, a7]) (st' := [.scr ns, .lst (ds.map pI)]) (by simp [bodyF, sSeq, sNil, sRet, sRetK, sIf, sAsg, sExpr, sSub, sBrk, sCt, sParN, R.then, R.bind, R.lift, R.noExc, mVar, mD, mTup, mLst, mAndV, mOrV, mNotV, mIf, mNeg, mIsi, mApp, mCall, mMeth, mMeth0, mChain, m2, mSlice, oNone, oSome, aNil, aCons, tVal, tTruth, tAndM, tOrM, tNotM, tmYes, gN, gT, gsGo, setAll, List.length_cons, List.length_nil, List.map_cons, List.map_nil, List.cons_append, List.nil_append, List.replicate, List.getElem?_cons_zero, List.getElem?_cons_succ, List.set_cons_zero, List.set_cons_succ, Nat.sub_self, Nat.zero_add, Nat.add_zero, Nat.reduceAdd, Nat.reduceSub, Nat.reduceEqDiff, if_true, if_false, if_pos, reduceIte, reduceCtorEq, Bool.not_true, Bool.not_false, truth, tyName, isTy, fGt, fLen, viewL, hlen])]
          rw [seq_end]
          have hp : powOk 10 18 = true := by decide
          by_cases hbig : 1000000000000000000 ≤ c'
          · obtain ⟨a6', c2, ds', g1, g2, e⟩ := loop60 ns ds (some (pI i)) a7 a6 c' h1 (by omega)
            have ei : sIf (tVal (m2 fGe (mVar 5) (m2 fPow (mD (.int 10)) (mD (.int 18))))) = fun m k env st => sIf (tVal (m2 fGe (mVar 5) (m2 fPow (mD (.int 10)) (mD (.int 18))))) m k env st := rfl
            simp only [sIf, tVal, m2, mVar, mD, R.bind, R.then, R.lift, List.getElem?_cons_succ, List.getElem?_cons_zero, fPow, fI, hp, if_true, fGe]
            have hb2 : decide ((10 : Int) ^ (18 : Int).toNat ≤ c') = true := by
              rw [decide_eq_true_eq]
              have : (10 : Int) ^ (18 : Int).toNat = 1000000000000000000 := by decide
              omega
            rw [hb2]
            dsimp only
            rw [seq_end, e]
            exact ⟨_, _, _, _, ds', g1, by omega, rfl, rfl⟩
          · simp only [sIf, tVal, m2, mVar, mD, R.bind, R.then, R.lift, List.getElem?_cons_succ, List.getElem?_cons_zero, fPow, fI, hp, if_true, fGe]
            have hb2 : decide ((10 : Int) ^ (18 : Int).toNat ≤ c') = false := by
              rw [decide_eq_false_iff_not]
              have : (10 : Int) ^ (18 : Int).toNat = 1000000000000000000 := by decide
              omega
            rw [hb2]
            dsimp only
            have hm := fmodM (c' * 48271 + i * 69621 + 11)
            have k1 : mulOk c' 48271 = true := mulOk_small (by omega) (by decide)
            have k2 : mulOk (i : Int) 69621 = true := mulOk_small (by omega) (by decide)
            rw [seq_nx (env' := [some (.r 0), some (pI 0), some (pI 63), some (.r 1), some (pI i), some (pI c'), a6, some (pI ((c' * 48271 + i * 69621 + 11).fmod 2147483647))]) (st' := [.scr ns, .lst (ds.map pI)]) (by simp [bodyF, sSeq, sNil, sRet, sRetK, sIf, sAsg, sExpr, sSub, sBrk, sCt, sParN, R.then, R.bind, R.lift, R.noExc, mVar, mD, mTup, mLst, mAndV, mOrV, mNotV, mIf, mNeg, mIsi, mApp, mCall, mMeth, mMeth0, mChain, m2, mSlice, oNone, oSome, aNil, aCons, tVal, tTruth, tAndM, tOrM, tNotM, tmYes, gN, gT, gsGo, setAll, List.length_cons, List.length_nil, List.map_cons, List.map_nil, List.cons_append, List.nil_append, List.replicate, List.getElem?_cons_zero, List.getElem?_cons_succ, List.set_cons_zero, List.set_cons_succ, Nat.sub_self, Nat.zero_add, Nat.add_zero, Nat.reduceAdd, Nat.reduceSub, Nat.reduceEqDiff, if_true, if_false, if_pos, reduceIte, reduceCtorEq, Bool.not_true, Bool.not_false, truth, tyName, isTy, fMod, fI, fInt, fAdd, fMul, k1, k2])]
            rw [seq_end]
            obtain ⟨a6', c2, ds', g1, g2, e⟩ := loop12 ns ds (some (pI i)) (some (pI c')) a6 _ h1 (by omega) hm
            rw [e]
            exact ⟨_, _, _, _, ds', g1, by omega, rfl, rfl⟩
      · rintro env st ⟨a4, a5, a6, a7, ds, h1, h2, rfl, rfl⟩
        refine ⟨rfl, a4, a5, a6, a7, ds, h1, ?_, rfl⟩
        have : ds.length ≤ 60 * 63 := by simpa [rngItems] using h2
        omega
    obtain ⟨a4, a5, a6, a7, ds, h1, h2, e⟩ := hloop
    refine ⟨a4, a5, a6, a7, ds, h1, h2, ?_⟩
    rw [e]
    simp only [bodyF, sSeq, sNil, sRet, sRetK, sIf, sAsg, sExpr, sSub, sBrk, sCt, sParN, R.then, R.bind, R.lift, R.noExc, mVar, mD, mTup, mLst, mAndV, mOrV, mNotV, mIf, mNeg, mIsi, mApp, mCall, mMeth, mMeth0, mChain, m2, mSlice, oNone, oSome, aNil, aCons, tVal, tTruth, tAndM, tOrM, tNotM, tmYes, gN, gT, gsGo, setAll, List.length_cons, List.length_nil, List.map_cons, List.map_nil, List.cons_append, List.nil_append, List.replicate, List.getElem?_cons_zero, List.getElem?_cons_succ, List.set_cons_zero, List.set_cons_succ, Nat.sub_self, Nat.zero_add, Nat.add_zero, Nat.reduceAdd, Nat.reduceSub, Nat.reduceEqDiff, if_true, if_false, if_pos, reduceIte, reduceCtorEq, Bool.not_true, Bool.not_false, truth, tyName, isTy]
  obtain ⟨a4, a5, a6, a7, ds, h1, h2, e⟩ := key
  refine ⟨ds, h1, h2, body_rt ?_⟩
  refine e.trans ?_
  have hp : (ds.map pI) = (ds.map D.int).map Val.p := by rw [List.map_map]; rfl
  rw [seq_end, ret_lst (l := 1) (ds := ds.map .int) (by simp) rfl rfl (by omega) (by simp [hp])]
  rfl
/-! ### draws -/
/-- the box: its digits, where it stands -/
abbrev Bx (ds : List Int) (at_ : Nat) : SObj := .lst [.p (.lst (ds.map .int)), pI at_]
theorem f_draw (o : SObj) (ds : List Int) (hd : Dg ds) (rest : Sto) (k m : Nat) (hk : k < 1000000000) (hm : 0 < m) : ∃ v : Nat, v < m ∧ F__law_draw [.r 1, pI m] (o :: Bx ds k :: rest) = .ok (pI v) (o :: Bx ds (k + 1) :: rest) := by
  have hm0 : ¬ m = 0 := by omega
  have hmod : ∀ z : Int, ∃ v : Nat, v < m ∧ z.fmod m = v := fun z => by
    have h1 := Int.fmod_nonneg_of_pos z (show (0 : Int) < m by omega)
    have h2 := Int.fmod_lt_of_pos z (show (0 : Int) < m by omega)
    exact ⟨(z.fmod m).toNat, by omega, by omega⟩
  have hk7 : mulOk (k : Int) 7 = true := mulOk_small (by omega) (by decide)
  have h1 : L2.ixN 2 1 = some 1 := by decide
  have h0 : L2.atI [Val.p (.lst (ds.map .int)), pI k] 1 = some (pI k) := by simp [L2.atI, h1]
  have h00 : ∀ z, L2.atI [Val.p (.lst (ds.map .int)), z] 0 = some (Val.p (.lst (ds.map .int))) := fun z => by simp [L2.atI, show L2.ixN 2 0 = some 0 from by decide]
  by_cases q : k < ds.length
  · obtain ⟨v, hv, ev⟩ := hmod ds[k]
    refine ⟨v, hv, ?_⟩
    have hq : (k : Int) < ds.length := by omega
    have ha : L2.atI (ds.map (Val.p ∘ D.int)) (k : Int) = some (pI ds[k]) := by rw [atI_nat]; simp [q]
    simp [F__law_draw, B__law_draw, bodyF, sSeq, sNil, sRet, sRetK, sIf, sAsg, sExpr, sSub, sBrk, sCt, sParN, R.then, R.bind, R.lift, R.noExc, mVar, mD, mTup, mLst, mAndV, mOrV, mNotV, mIf, mNeg, mIsi, mApp, mCall, mMeth, mMeth0, mChain, m2, mSlice, oNone, oSome, aNil, aCons, tVal, tTruth, tAndM, tOrM, tNotM, tmYes, gN, gT, gsGo, setAll, List.length_cons, List.length_nil, List.map_cons, List.map_nil, List.cons_append, List.nil_append, List.replicate, List.getElem?_cons_zero, List.getElem?_cons_succ, List.set_cons_zero, List.set_cons_succ, Nat.sub_self, Nat.zero_add, Nat.add_zero, Nat.reduceAdd, Nat.reduceSub, Nat.reduceEqDiff, if_true, if_false, if_pos, reduceIte, reduceCtorEq, Bool.not_true, Bool.not_false, truth, tyName, isTy, fIx, fIxO, viewL, h0, h00, h1, setSub, fAdd, fLt, fLen, hq, fInt, fMod, fI, ha, hm0, ev]
  · obtain ⟨v, hv, ev⟩ := hmod ((k : Int) * 7)
    refine ⟨v, hv, ?_⟩
    have hq : ¬ (k : Int) < ds.length := by omega
    simp [F__law_draw, B__law_draw, bodyF, sSeq, sNil, sRet, sRetK, sIf, sAsg, sExpr, sSub, sBrk, sCt, sParN, R.then, R.bind, R.lift, R.noExc, mVar, mD, mTup, mLst, mAndV, mOrV, mNotV, mIf, mNeg, mIsi, mApp, mCall, mMeth, mMeth0, mChain, m2, mSlice, oNone, oSome, aNil, aCons, tVal, tTruth, tAndM, tOrM, tNotM, tmYes, gN, gT, gsGo, setAll, List.length_cons, List.length_nil, List.map_cons, List.map_nil, List.cons_append, List.nil_append, List.replicate, List.getElem?_cons_zero, List.getElem?_cons_succ, List.set_cons_zero, List.set_cons_succ, Nat.sub_self, Nat.zero_add, Nat.add_zero, Nat.reduceAdd, Nat.reduceSub, Nat.reduceEqDiff, if_true, if_false, if_pos, reduceIte, reduceCtorEq, Bool.not_true, Bool.not_false, truth, tyName, isTy, fIx, fIxO, viewL, h0, h00, h1, setSub, fAdd, fLt, fLen, hq, fInt, fMod, fI, fMul, hk7, hm0, ev]
end K02
end
section
set_option Elab.async false
set_option linter.all false
set_option maxRecDepth 100000
set_option maxHeartbeats 2000000
namespace K02
open PySem PySem.Spec L2 Sl PyProof.Rows
def isInt : D → Bool
  | .int _ => true
  | _ => false
theorem f_is_whole (d : D) (st : Sto) : F_is_whole [.p d] st = .ok (yes (isInt d)) st := by
  cases d <;> simp only [F_is_whole, B_is_whole, bodyF, sSeq, sNil, sRet, sRetK, sIf, sAsg, sExpr, sSub, sBrk, sCt, sParN, R.then, R.bind, R.lift, R.noExc, mVar, mD, mTup, mLst, mAndV, mOrV, mNotV, mIf, mNeg, mIsi, mApp, mCall, mMeth, mMeth0, mChain, m2, mSlice, oNone, oSome, aNil, aCons, tVal, tTruth, tAndM, tOrM, tNotM, tmYes, gN, gT, gsGo, setAll, List.length_cons, List.length_nil, List.map_cons, List.map_nil, List.cons_append, List.nil_append, List.replicate, List.getElem?_cons_zero, List.getElem?_cons_succ, List.set_cons_zero, List.set_cons_succ, Nat.sub_self, Nat.zero_add, Nat.add_zero, Nat.reduceAdd, Nat.reduceSub, Nat.reduceEqDiff, if_true, if_false, if_pos, reduceIte, reduceCtorEq, Bool.not_true, Bool.not_false, truth, tyName, isTy] <;> rfl
def betw (a b : Int) : D → Bool
  | .int i => decide (a ≤ i) && decide (i ≤ b)
  | _ => false
theorem f_is_between (d : D) (a b : Int) (st : Sto) : F_is_between [.p d, pI a, pI b] st = .ok (yes (betw a b d)) st := by
  refine f_rt (es_ret rfl ?_)
  have h := ev_and (ma := mApp 1 F_is_whole (aCons (mVar 0) aNil)) (mb := mChain fLe fLe (mVar 1) (mVar 0) (mVar 2)) (b := betw a b d) (ev_app (a1 rfl) rfl (f_is_whole d st)) (env := [some (.p d), some (pI a), some (pI b)]) fun hd => by
    cases d with
    | int i => exact ev_chain rfl rfl rfl fun _ => ⟨_, rfl, rfl⟩
    | _ => cases hd
  refine h.trans ?_
  cases d <;> simp [isInt, betw]
def onlyT (signs t : T) : Bool := t.all fun c => signs.contains c
theorem f_has_only (t signs : T) (st : Sto) (hl : t.length ≤ 100) : F__has_only [.p (.str t), .p (.str signs)] st = .ok (yes (onlyT signs t)) st := by
  refine f_rt (es_ret rfl ?_)
  have h := ev_all (ow := [2]) (mi := mIter (mVar 0)) (gm := gN 2) (m := m2 (fInX false) (mVar 2) (mVar 1)) (st := st) (env := [some (.p (.str t)), some (.p (.str signs)), none]) (src := none) (ds := t.map fun c => .str [c]) (fun d => match d with | .str [c] => signs.contains c | _ => false) (iter_strD rfl) rfl (by simp; omega) fun d hd => by
    obtain ⟨c, _, rfl⟩ := List.mem_map.mp hd
    exact ⟨_, rfl, ev_2 rfl rfl rfl⟩
  refine h.trans ?_
  simp only [List.all_map]
  rfl
def LET : T := ['a', 'b', 'c', 'd', 'e', 'f', 'g', 'h', 'i', 'j', 'k', 'l', 'm', 'n', 'o', 'p', 'q', 'r', 's', 't', 'u', 'v', 'w', 'x', 'y', 'z']
def DIG : T := ['0', '1', '2', '3', '4', '5', '6', '7', '8', '9']
def nameT (t : T) : Bool := match t with
  | [] => false
  | c :: _ => decide (t.length ≤ 10) && LET.contains c && onlyT (LET ++ DIG) t
def nameD : D → Bool
  | .str t => nameT t
  | _ => false
theorem f_is_name (d : D) (st : Sto) : F_is_name [.p d] st = .ok (yes (nameD d)) st := by
  cases d with
  | str t =>
    have h := f_gd (B := B_is_name) (k0 := 1) (xs := [.p (.str t)]) (st := st) (es_guard rfl (et_or (et_not (et_truth (ev_isi rfl rfl))) fun _ => et_not (et_val (ev_chain rfl (ev_call (a1 rfl) rfl) rfl fun _ => ⟨_, rfl, rfl⟩))) (sr := .rt (yes (nameT t)) st) fun hg => es_ret rfl ?_)
    · refine h.trans ?_
      match t with
      | [] => rfl
      | c :: cs =>
        by_cases h10 : (c :: cs).length ≤ 10
        · have e : (decide ((1 : Int) ≤ ((c :: cs).length : Int)) && decide (((c :: cs).length : Int) ≤ 10)) = true := by
            simp only [Bool.and_eq_true, decide_eq_true_eq, List.length_cons] at h10 ⊢
            omega
          simp only [e, nameD]
          rfl
        · have e : (decide ((1 : Int) ≤ ((c :: cs).length : Int)) && decide (((c :: cs).length : Int) ≤ 10)) = false := by
            simp only [Bool.and_eq_false_iff, decide_eq_false_iff_not, List.length_cons] at h10 ⊢
            omega
          simp only [e, nameD, nameT, h10]
          simp [isTy]
    · have hl : (1 : Int) ≤ t.length ∧ (t.length : Int) ≤ 10 := by
        simp only [isTy, beq_self_eq_true, Bool.true_or, Bool.not_true, Bool.false_or, Bool.not_eq_false', Bool.and_eq_true, decide_eq_true_eq] at hg
        exact hg
      match t, hl with
      | c :: cs, hl =>
        have h10 : (c :: cs).length ≤ 10 := by omega
        have hi : fIx (.p (.str (c :: cs))) (pI 0) st = some (.p (.str [c]), st) := by simp [fIx, atI, ixN]
        have h := ev_and (ma := m2 (fInX false) (m2 fIx (mVar 0) (mD (.int 0))) (mD c_LETTERS)) (mb := mApp 2 F__has_only (aCons (mVar 0) (aCons (m2 (fAdd false) (mD c_LETTERS) (mD c_DIGITS)) aNil))) (env := [some (.p (.str (c :: cs)))]) (st := st)
          (ev_2 (ev_2 rfl rfl hi) rfl rfl) fun _ => ev_app (a2 rfl (ev_2 rfl rfl rfl)) rfl (f_has_only (c :: cs) (LET ++ DIG) st (by omega))
        refine h.trans ?_
        simp only [nameT, h10, decide_true, Bool.true_and]
        rfl
  | _ => simp [F_is_name, B_is_name, bodyF, sSeq, sNil, sRet, sRetK, sIf, sAsg, sExpr, sSub, sBrk, sCt, sParN, R.then, R.bind, R.lift, R.noExc, mVar, mD, mTup, mLst, mAndV, mOrV, mNotV, mIf, mNeg, mIsi, mApp, mCall, mMeth, mMeth0, mChain, m2, mSlice, oNone, oSome, aNil, aCons, tVal, tTruth, tAndM, tOrM, tNotM, tmYes, gN, gT, gsGo, setAll, List.length_cons, List.length_nil, List.map_cons, List.map_nil, List.cons_append, List.nil_append, List.replicate, List.getElem?_cons_zero, List.getElem?_cons_succ, List.set_cons_zero, List.set_cons_succ, Nat.sub_self, Nat.zero_add, Nat.add_zero, Nat.reduceAdd, Nat.reduceSub, Nat.reduceEqDiff, if_true, if_false, if_pos, reduceIte, reduceCtorEq, Bool.not_true, Bool.not_false, truth, tyName, isTy, nameD]
/-! fractions -/
def fracD : D → Bool
  | .tup [.int t, .int b] => decide (1 ≤ b) && decide (Int.gcd t b = 1)
  | _ => false
theorem len2 {α : Type} {xs : List α} (h : ((xs.length : Int) == 2) = true) : ∃ x y, xs = [x, y] := by
  have : xs.length = 2 := by
    have h2 : (xs.length : Int) = 2 := by simpa using h
    omega
  match xs, this with
  | [x, y], _ => exact ⟨x, y, rfl⟩
theorem f_is_fraction (d : D) (st : Sto) : F_is_fraction [.p d] st = .ok (yes (fracD d)) st := by
  cases d with
  | tup ds =>
    have h := f_gd (B := B_is_fraction) (k0 := 3) (xs := [.p (.tup ds)]) (st := st) (v := yes (fracD (.tup ds))) (es_guard rfl (et_or (et_not (et_truth (ev_isi rfl rfl))) fun _ => et_val (ev_2 (ev_call (a1 rfl) rfl) rfl rfl)) (sr := .rt (yes (fracD (.tup ds))) st) fun hg => ?_)
    · refine h.trans ?_
      by_cases hl : ((ds.length : Int) == 2) = true
      · have e : (!isTy "tuple" "tuple" || if true = true then !deq (.int (ds.length : Nat)) (.int 2) else deq (.int (ds.length : Nat)) (.int 2)) = false := by
          simp [isTy, deq] at hl ⊢
          exact hl
        rw [e]
        rfl
      · have e : (!isTy "tuple" "tuple" || if true = true then !deq (.int (ds.length : Nat)) (.int 2) else deq (.int (ds.length : Nat)) (.int 2)) = true := by
          simp [isTy, deq] at hl ⊢
          exact hl
        rw [e]
        have : fracD (.tup ds) = false := by
          unfold fracD
          split
          · rename_i heq
            cases heq
            simp at hl
          · rfl
        rw [this]
        rfl
    · have hl : ((ds.length : Int) == 2) = true := by
        simp [isTy, deq] at hg ⊢
        exact hg
      obtain ⟨x, y, rfl⟩ := len2 hl
      refine es_asg rfl rfl ?_
      have e2 := es_guard (n0 := st.length) (st := st) (env := [some (.p (.tup [x, y])), some (.p x), some (.p y)]) (d := .bl false) (k := sSeq (sRet st.length (m2 (fEq false) (mCall fGcd (aCons (mVar 1) (aCons (mVar 2) aNil))) (mD (.int 1)))) sNil) rfl
        (t := tOrM (tNotM (tTruth (mApp 1 F_is_whole (aCons (mVar 1) aNil)))) (tOrM (tNotM (tTruth (mApp 1 F_is_whole (aCons (mVar 2) aNil)))) (tVal (m2 fLt (mVar 2) (mD (.int 1))))))
        (b := !isInt x || (!isInt y || match y with | .int i => decide (i < 1) | _ => false)) (et_or (et_not (et_truth (ev_app (a1 rfl) rfl (f_is_whole x st)))) fun _ => et_or (et_not (et_truth (ev_app (a1 rfl) rfl (f_is_whole y st)))) fun hy => by
          cases y with
          | int i => exact et_val (ev_2 rfl rfl rfl)
          | _ => cases hy) (sr := .rt (yes (fracD (.tup [x, y]))) st) fun hg2 => by
          cases x <;> cases y <;> simp [isInt] at hg2
          rename_i a b
          refine es_ret rfl (ev_2 (ev_call (a2 rfl rfl) rfl) rfl ?_)
          have : fracD (.tup [.int a, .int b]) = decide (Int.gcd a b = 1) := by simp [fracD, hg2]
          rw [this]
          show some (yes (deq (.int ((Nat.gcd a.natAbs b.natAbs : Nat) : Int)) (.int 1)), st) = _
          simp only [deq]
          congr 3
          have : Int.gcd a b = Nat.gcd a.natAbs b.natAbs := rfl
          rw [this]
          by_cases q : Nat.gcd a.natAbs b.natAbs = 1
          · simp [q]
          · simp [q]; omega
      refine e2.trans ?_
      cases x <;> cases y <;> simp [isInt, fracD]
      rename_i a b
      by_cases q : b < 1
      · simp [q, show ¬ 1 ≤ b by omega]
      · simp [q]
  | _ => simp [F_is_fraction, B_is_fraction, bodyF, sSeq, sNil, sRet, sRetK, sIf, sAsg, sExpr, sSub, sBrk, sCt, sParN, R.then, R.bind, R.lift, R.noExc, mVar, mD, mTup, mLst, mAndV, mOrV, mNotV, mIf, mNeg, mIsi, mApp, mCall, mMeth, mMeth0, mChain, m2, mSlice, oNone, oSome, aNil, aCons, tVal, tTruth, tAndM, tOrM, tNotM, tmYes, gN, gT, gsGo, setAll, List.length_cons, List.length_nil, List.map_cons, List.map_nil, List.cons_append, List.nil_append, List.replicate, List.getElem?_cons_zero, List.getElem?_cons_succ, List.set_cons_zero, List.set_cons_succ, Nat.sub_self, Nat.zero_add, Nat.add_zero, Nat.reduceAdd, Nat.reduceSub, Nat.reduceEqDiff, if_true, if_false, if_pos, reduceIte, reduceCtorEq, Bool.not_true, Bool.not_false, truth, tyName, isTy, fracD]
/-! ascending -/
def ascT : List T → Bool
  | a :: b :: r => tlt a b && ascT (b :: r)
  | _ => true
def strOf : D → T
  | .str t => t
  | _ => []
theorem asc_range (xs : List T) : ((List.range (xs.length - 1)).all fun k => tlt (xs.getD k []) (xs.getD (k + 1) [])) = ascT xs := by
  match xs with
  | [] => rfl
  | [a] => rfl
  | a :: b :: r =>
    have ih := asc_range (b :: r)
    simp only [List.length_cons, Nat.add_sub_cancel] at ih ⊢
    rw [List.range_succ_eq_map, List.all_cons, List.all_map]
    unfold ascT
    rw [← ih]
    rfl
theorem all_str {ds : List D} (h : ds.all isStr = true) : ds = (ds.map strOf).map .str := by
  rw [List.map_map]
  refine ((List.map_congr_left fun d hd => ?_).trans (List.map_id _)).symm
  have := List.all_eq_true.mp h d hd
  cases d <;> simp_all [isStr, strOf]
theorem ix_seq {md : Bool} {xs : List T} {k : Nat} (st : Sto) (h : k < xs.length) : fIx (.p (if md then .tup (xs.map .str) else .lst (xs.map .str))) (pI k) st = some (.p (.str (xs.getD k [])), st) := by
  cases md <;> simp [fIx, fIxO, viewL, atI_nat, h]
theorem f_is_ascending (md : Bool) (xs : List T) (st : Sto) (hl : xs.length ≤ 1000) : F_is_ascending [.p (if md then .tup (xs.map .str) else .lst (xs.map .str))] st = .ok (yes (ascT xs)) st := by
  refine f_rt (es_ret rfl ?_)
  have hlen : fLen [.p (if md then D.tup (xs.map .str) else .lst (xs.map .str))] st = some (pI xs.length, st) := by cases md <;> simp [fLen, viewL]
  have h := ev_all (ow := [1]) (gm := gN 1) (mi := mRng1 (aCons (m2 fSub (mCall fLen (aCons (mVar 0) aNil)) (mD (.int 1))) aNil)) (m := m2 fLt (m2 fIx (mVar 0) (mVar 1)) (m2 fIx (mVar 0) (m2 (fAdd false) (mVar 1) (mD (.int 1))))) (st := st)
    (env := [some (.p (if md then .tup (xs.map .str) else .lst (xs.map .str))), none]) (src := none) (fun d => match d with | .int k => tlt (xs.getD k.toNat []) (xs.getD (k.toNat + 1) []) | _ => false)
    (rng1_D (a1 (ev_2 (ev_call (a1 rfl) hlen) rfl rfl)) (by omega)) rfl (by simp; omega) fun d hd => by
      obtain ⟨k, hk, rfl⟩ := List.mem_map.mp hd
      have hk2 : k < xs.length - 1 := by
        have := List.mem_range.mp hk
        omega
      have e1 := ix_seq (md := md) st (show k < xs.length by omega)
      have e2 := ix_seq (md := md) st (show k + 1 < xs.length by omega)
      exact ⟨_, rfl, ev_2 (ev_2 rfl rfl e1) (ev_2 rfl (ev_2 rfl rfl rfl) e2) rfl⟩
  refine h.trans ?_
  rw [List.all_map, ← asc_range]
  congr 3
  congr 1
  omega
theorem f_law_ascending (md : Bool) (xs : List T) (st : Sto) (hl : xs.length ≤ 1000) : F__law_ascending [.p (if md then .tup (xs.map .str) else .lst (xs.map .str))] st = .ok (yes (ascT xs)) st := by
  refine f_rt (es_ret rfl ?_)
  have hlen : fLen [.p (if md then D.tup (xs.map .str) else .lst (xs.map .str))] st = some (pI xs.length, st) := by cases md <;> simp [fLen, viewL]
  have h := ev_none (neg := false) (ow := [1]) (gm := gN 1) (mi := mRng2 (aCons (mD (.int 1)) (aCons (mCall fLen (aCons (mVar 0) aNil)) aNil))) (t := tVal (m2 fGe (m2 fIx (mVar 0) (m2 fSub (mVar 1) (mD (.int 1)))) (m2 fIx (mVar 0) (mVar 1)))) (st := st) (i := 1)
    (env := [some (.p (if md then .tup (xs.map .str) else .lst (xs.map .str))), none]) (src := none) (fun d => match d with | .int k => !tlt (xs.getD (k.toNat - 1) []) (xs.getD k.toNat []) | _ => false)
    (rng2_D (a2 rfl (ev_call (a1 rfl) hlen)) (by omega) (by omega)) rfl (by simp; omega) fun d hd => by
      obtain ⟨k, hk, rfl⟩ := List.mem_map.mp hd
      have hk2 : k < xs.length - 1 := by
        have := List.mem_range.mp hk
        omega
      have e1 := ix_seq (md := md) st (show k < xs.length by omega)
      have e2 := ix_seq (md := md) st (show k + 1 < xs.length by omega)
      have i1 : (1 + (k : Int)) - 1 = (k : Int) := by omega
      have i2 : (1 + (k : Int)) = ((k + 1 : Nat) : Int) := by omega
      refine ⟨_, rfl, et_val (ev_2 (x := .p (.str (xs.getD k []))) (y := .p (.str (xs.getD (k + 1) []))) (ev_2 rfl (ev_2 rfl rfl (show some (pI ((1 + (k : Int)) - 1), st) = some (pI k, st) from by rw [i1])) e1) (ev_2 (y := pI ((k + 1 : Nat) : Int)) rfl (show mVar 1 [_, some (pI (1 + (k : Int)))] st = _ from by rw [i2]; rfl) e2) ?_)⟩
      have i3 : (1 + (k : Int)).toNat = k + 1 := by omega
      simp only [i3, Nat.add_sub_cancel]
      rfl
  refine h.trans ?_
  rw [← asc_range]
  have i4 : ((xs.length : Int) - 1).toNat = xs.length - 1 := by omega
  simp only [i4, List.any_map, Bool.false_eq_true, if_false, List.not_any_eq_all_not]
  congr 3
  funext k
  have i3 : (1 + (k : Int)).toNat = k + 1 := by omega
  simp [i3]
end K02
end
section
set_option Elab.async false
set_option linter.all false
set_option maxRecDepth 100000
set_option maxHeartbeats 2000000
namespace K02
open PySem PySem.Spec L2 Sl PyProof.Rows
def pairD (p : D → D → Bool) : D → Bool
  | .tup [x, y] => p x y
  | _ => false
/-- the first of a row, if it is a text -/
def fst0 : D → T
  | .tup (x :: _) => strOf x
  | _ => []
/-- data of plain sorts, of common length -/
def okD : D → Bool
  | .tup ds => decide (ds.length ≤ 1000) && okL ds
  | .lst ds => decide (ds.length ≤ 1000) && okL ds
  | .dct _ _ => false
  | .str t => decide (t.length ≤ 100)
  | .int i => decide (i.natAbs < 1000000000000)
  | _ => true
where okL : List D → Bool
  | [] => true
  | d :: ds => okD d && okL ds
theorem okL_all : ∀ {ds : List D}, okD.okL ds = true → ∀ d ∈ ds, okD d = true
  | [], _, d, h => by cases h
  | e :: ds, h, d, hd => by
    simp only [okD.okL, Bool.and_eq_true] at h
    rcases List.mem_cons.mp hd with rfl | hd
    · exact h.1
    · exact okL_all h.2 d hd
theorem okD_tup {ds : List D} (h : okD (.tup ds) = true) : ds.length ≤ 1000 ∧ ∀ d ∈ ds, okD d = true := by
  simp only [okD, Bool.and_eq_true, decide_eq_true_eq] at h
  exact ⟨h.1, okL_all h.2⟩
mutual
theorem ok_noDct : ∀ {d : D}, okD d = true → noDct d = true
  | .tup ds, h => by simp only [okD, Bool.and_eq_true] at h; exact okL_noDct h.2
  | .lst ds, h => by simp only [okD, Bool.and_eq_true] at h; exact okL_noDct h.2
  | .dct _ _, h => by cases h
  | .non, _ => rfl
  | .bl _, _ => rfl
  | .int _, _ => rfl
  | .str _, _ => rfl
theorem okL_noDct : ∀ {ds : List D}, okD.okL ds = true → noDctL ds = true
  | [], _ => rfl
  | d :: ds, h => by
    simp only [okD.okL, Bool.and_eq_true] at h
    simp only [noDctL, Bool.and_eq_true]
    exact ⟨ok_noDct h.1, okL_noDct h.2⟩
end
def isPair : D → Bool
  | .tup [_, _] => true
  | _ => false
theorem pair_of {d : D} (h : isPair d = true) : ∃ x y, d = .tup [x, y] := by
  unfold isPair at h
  split at h
  · exact ⟨_, _, rfl⟩
  · cases h
theorem f_is_pair (d : D) (st : Sto) : F_is_pair [.p d] st = .ok (yes (isPair d)) st := by
  cases d with
  | tup ds =>
    refine f_rt (es_ret rfl ?_)
    have h := ev_and (ma := mIsi "tuple" (mVar 0)) (mb := m2 (fEq false) (mCall fLen (aCons (mVar 0) aNil)) (mD (.int 2))) (env := [some (.p (.tup ds))]) (st := st) (ev_isi rfl rfl) fun _ => ev_2 (ev_call (a1 rfl) rfl) rfl rfl
    refine h.trans ?_
    congr 3
    match ds with
    | [] => rfl
    | [a] => rfl
    | [a, b] => rfl
    | a :: b :: c :: r =>
      simp [isPair, isTy, deq]
      omega
  | _ => simp [F_is_pair, B_is_pair, bodyF, sSeq, sNil, sRet, sRetK, sIf, sAsg, sExpr, sSub, sBrk, sCt, sParN, R.then, R.bind, R.lift, R.noExc, mVar, mD, mTup, mLst, mAndV, mOrV, mNotV, mIf, mNeg, mIsi, mApp, mCall, mMeth, mMeth0, mChain, m2, mSlice, oNone, oSome, aNil, aCons, tVal, tTruth, tAndM, tOrM, tNotM, tmYes, gN, gT, gsGo, setAll, List.length_cons, List.length_nil, List.map_cons, List.map_nil, List.cons_append, List.nil_append, List.replicate, List.getElem?_cons_zero, List.getElem?_cons_succ, List.set_cons_zero, List.set_cons_succ, Nat.sub_self, Nat.zero_add, Nat.add_zero, Nat.reduceAdd, Nat.reduceSub, Nat.reduceEqDiff, if_true, if_false, if_pos, reduceIte, reduceCtorEq, Bool.not_true, Bool.not_false, truth, tyName, isTy, isPair]
def namesD : D → Bool
  | .tup ds => decide (ds.length ≤ 8) && (ds.all nameD && ascT (ds.map strOf))
  | _ => false
theorem nameD_str {d : D} (h : nameD d = true) : isStr d = true := by cases d <;> simp_all [nameD, isStr]
theorem all_imp {ds : List D} {p q : D → Bool} (h : ∀ d ∈ ds, p d = true → q d = true) (hp : ds.all p = true) : ds.all q = true := List.all_eq_true.mpr fun d hd => h d hd (List.all_eq_true.mp hp d hd)
theorem f_is_names (d : D) (st : Sto) (ok : okD d = true) : F_is_names [.p d] st = .ok (yes (namesD d)) st := by
  cases d with
  | tup ds =>
    have hl := (okD_tup ok).1
    have h := f_gd (B := B_is_names) (k0 := 2) (xs := [.p (.tup ds)]) (st := st) (v := yes (ds.all nameD && ascT (ds.map strOf))) (es_guard rfl (et_or (et_not (et_truth (ev_isi rfl rfl))) fun _ => et_val (ev_2 (ev_call (a1 rfl) rfl) rfl rfl)) (sr := .rt (yes (ds.all nameD && ascT (ds.map strOf))) st) fun hg =>
      es_ret rfl (ev_and (ev_all (ds := ds) nameD (iter_tupD rfl) rfl (by omega) fun d hd => ⟨_, rfl, ev_app (a1 rfl) rfl (f_is_name d st)⟩) fun hn => ev_app (a1 rfl) rfl (by
        have e := all_str (all_imp (fun d _ => nameD_str) hn)
        have := f_is_ascending true (ds.map strOf) st (by simpa using hl)
        simpa [← e] using this)))
    refine h.trans ?_
    congr 1
    by_cases q : ds.length ≤ 8
    · have e : (!isTy "tuple" "tuple" || decide ((8 : Int) < (ds.length : Nat))) = false := by
        simp [isTy]
        omega
      simp only [e, namesD, q]
      rfl
    · have e : (!isTy "tuple" "tuple" || decide ((8 : Int) < (ds.length : Nat))) = true := by
        simp [isTy]
        omega
      simp only [e, namesD, q]
      rfl
  | _ => simp [F_is_names, B_is_names, bodyF, sSeq, sNil, sRet, sRetK, sIf, sAsg, sExpr, sSub, sBrk, sCt, sParN, R.then, R.bind, R.lift, R.noExc, mVar, mD, mTup, mLst, mAndV, mOrV, mNotV, mIf, mNeg, mIsi, mApp, mCall, mMeth, mMeth0, mChain, m2, mSlice, oNone, oSome, aNil, aCons, tVal, tTruth, tAndM, tOrM, tNotM, tmYes, gN, gT, gsGo, setAll, List.length_cons, List.length_nil, List.map_cons, List.map_nil, List.cons_append, List.nil_append, List.replicate, List.getElem?_cons_zero, List.getElem?_cons_succ, List.set_cons_zero, List.set_cons_succ, Nat.sub_self, Nat.zero_add, Nat.add_zero, Nat.reduceAdd, Nat.reduceSub, Nat.reduceEqDiff, if_true, if_false, if_pos, reduceIte, reduceCtorEq, Bool.not_true, Bool.not_false, truth, tyName, isTy, namesD]
end K02
end
section
set_option Elab.async false
set_option linter.all false
set_option maxRecDepth 100000
set_option maxHeartbeats 2000000
namespace K02
open PySem PySem.Spec L2 Sl PyProof.Rows
theorem pair_row {ds : List D} {p : D → D → Bool} (h : ds.all (pairD p) = true) : ∀ d ∈ ds, ∃ x y, d = .tup [x, y] ∧ p x y = true := fun d hd => by
  have h1 := List.all_eq_true.mp h d hd
  unfold pairD at h1
  split at h1
  · exact ⟨_, _, rfl, h1⟩
  · cases h1
/-- [row[0] for row in ..] -/
theorem firsts {ow : List Nat} {mi : IM} {j : Nat} {src : Option Nat} {ds : List D} {env : Slots} {st : Sto} (hi : mi env st = .ok (ds.map .p, src) st) (hw : watch st src (ds.map .p) = true) (hl : ds.length ≤ 1000) (hj : ∀ x, ((wipeE env ow).set j (some x))[j]? = some (some x))
    (h : ∀ d ∈ ds, ∃ x r, d = .tup (x :: r) ∧ isStr x = true) : mComp false ow mi (gN j) tmYes (m2 fIx (mVar j) (mD (.int 0))) env st = .ok (.p (.lst ((ds.map fst0).map .str))) st := by
  have e := comp_D (ow := ow) (gm := gN j) (mt := tmYes) (me := m2 fIx (mVar j) (mD (.int 0))) (fun _ => true) (fun d => .str (fst0 d)) hi hw (Nat.le_trans hl (by rw [sizeLine_eq]; omega)) fun d hd => by
    obtain ⟨x, r, rfl, hs⟩ := h d hd
    obtain ⟨t, rfl⟩ : ∃ t, x = .str t := by cases x <;> simp_all [isStr]
    refine ⟨_, rfl, rfl, fun _ => ev_2 (x := .p (.tup (.str t :: r))) (by unfold mVar; rw [hj]) rfl ?_⟩
    have h0 : ixN (r.length + 1) 0 = some 0 := by simp [ixN]
    simp [fIx, atI, h0, fst0, strOf]
  rw [e, filter_yes, List.map_map]
  rfl
def anyTermsD : D → Bool
  | .tup ds => ds.all (pairD fun x _ => nameD x) && (ds.all (pairD fun _ y => betw (-99) 99 y && !deq y (.int 0)) && ascT (ds.map fst0))
  | _ => false
theorem neg_c {c : D} {i : Int} (h : c = .int i) {env : Slots} {st : Sto} : mNeg (mD c) env st = .ok (pI (-i)) st := by
  subst h
  rfl
theorem f_is_any_terms (d : D) (st : Sto) (ok : okD d = true) : F_is_any_terms [.p d] st = .ok (yes (anyTermsD d)) st := by
  cases d with
  | tup ds =>
    have hl := (okD_tup ok).1
    have h1 := ev_all (ow := [1]) (mi := mIter (mVar 0)) (gm := gN 1) (m := mAndV (mApp 1 F_is_pair (aCons (mVar 1) aNil)) (mApp 1 F_is_name (aCons (m2 fIx (mVar 1) (mD (.int 0))) aNil))) (src := none) (st := st) (env := [some (.p (.tup ds)), none]) (ds := ds) (pairD fun x _ => nameD x) (iter_tupD rfl) rfl (by omega) fun d hd => by
      refine ⟨_, rfl, ?_⟩
      by_cases hp : isPair d = true
      · obtain ⟨x, y, rfl⟩ := pair_of hp
        exact ev_and (a := true) (b := nameD x) (ev_app (a1 rfl) rfl (f_is_pair _ st)) fun _ => ev_app (a1 (ev_2 (x := .p (.tup [x, y])) (y := pI 0) rfl rfl rfl)) rfl (f_is_name x st)
      · have := ev_and (b := true) (mb := mApp 1 F_is_name (aCons (m2 fIx (mVar 1) (mD (.int 0))) aNil)) (env := [some (.p (.tup ds)), some (.p d)]) (ma := mApp 1 F_is_pair (aCons (mVar 1) aNil)) (ev_app (a1 rfl) rfl (f_is_pair d st)) fun q => absurd q hp
        refine this.trans ?_
        have e : isPair d = false := by simpa using hp
        have e2 : pairD (fun x _ => nameD x) d = false := by
          unfold pairD
          unfold isPair at e
          split at e <;> simp_all
        rw [e, e2]
        rfl
    refine f_rt ?_
    refine (es_guard (n0 := st.length) rfl (et_or (et_not (et_truth (ev_isi rfl rfl))) fun _ => et_not (et_truth h1)) (sr := .rt (yes (ds.all (pairD fun _ y => betw (-99) 99 y && !deq y (.int 0)) && ascT (ds.map fst0))) st) fun hg => ?_).trans ?_
    · have hp : ds.all (pairD fun x _ => nameD x) = true := by simpa [isTy] using hg
      have h2 := ev_all (ow := [1]) (mi := mIter (mVar 0)) (gm := gN 1) (m := mAndV (mApp 3 F_is_between (aCons (m2 fIx (mVar 1) (mD (.int 1))) (aCons (mNeg (mD c_MOST_NUMBER)) (aCons (mD c_MOST_NUMBER) aNil)))) (m2 (fEq true) (m2 fIx (mVar 1) (mD (.int 1))) (mD (.int 0)))) (src := none) (st := st) (env := [some (.p (.tup ds)), none]) (ds := ds) (pairD fun _ y => betw (-99) 99 y && !deq y (.int 0)) (iter_tupD rfl) rfl (by omega) fun d hd => by
        obtain ⟨x, y, rfl, _⟩ := pair_row hp d hd
        refine ⟨_, rfl, ev_and (b := !deq y (.int 0)) (ev_app (a3 (ev_2 rfl rfl rfl) (neg_c rfl) rfl) rfl (f_is_between y (-99) 99 st)) fun hb => ?_⟩
        cases y with
        | int i => exact ev_2 (ev_2 rfl rfl rfl) rfl rfl
        | _ => cases hb
      refine (es_guard (n0 := st.length) rfl (et_not (et_truth h2)) (sr := .rt (yes (ascT (ds.map fst0))) st) fun hg2 => ?_).trans ?_
      · refine es_ret rfl (ev_app (a1 (firsts (iter_tupD rfl) rfl hl (fun x => rfl) fun d hd => ?_)) rfl (f_is_ascending false (ds.map fst0) st (by simpa using hl)))
        obtain ⟨x, y, rfl, hx⟩ := pair_row hp d hd
        exact ⟨x, [y], rfl, nameD_str hx⟩
      · cases ds.all (pairD fun _ y => betw (-99) 99 y && !deq y (.int 0)) <;> rfl
    · have e : (!isTy "tuple" "tuple" || !ds.all (pairD fun x _ => nameD x)) = !ds.all (pairD fun x _ => nameD x) := by simp [isTy]
      rw [e, show anyTermsD (.tup ds) = (ds.all (pairD fun x _ => nameD x) && (ds.all (pairD fun _ y => betw (-99) 99 y && !deq y (.int 0)) && ascT (ds.map fst0))) from rfl]
      cases ds.all (pairD fun x _ => nameD x) <;> rfl
  | _ => simp [F_is_any_terms, B_is_any_terms, bodyF, sSeq, sNil, sRet, sRetK, sIf, sAsg, sExpr, sSub, sBrk, sCt, sParN, R.then, R.bind, R.lift, R.noExc, mVar, mD, mTup, mLst, mAndV, mOrV, mNotV, mIf, mNeg, mIsi, mApp, mCall, mMeth, mMeth0, mChain, m2, mSlice, oNone, oSome, aNil, aCons, tVal, tTruth, tAndM, tOrM, tNotM, tmYes, gN, gT, gsGo, setAll, List.length_cons, List.length_nil, List.map_cons, List.map_nil, List.cons_append, List.nil_append, List.replicate, List.getElem?_cons_zero, List.getElem?_cons_succ, List.set_cons_zero, List.set_cons_succ, Nat.sub_self, Nat.zero_add, Nat.add_zero, Nat.reduceAdd, Nat.reduceSub, Nat.reduceEqDiff, if_true, if_false, if_pos, reduceIte, reduceCtorEq, Bool.not_true, Bool.not_false, truth, tyName, isTy, anyTermsD]
end K02
end
section
set_option Elab.async false
set_option linter.all false
set_option maxRecDepth 100000
set_option maxHeartbeats 2000000
namespace K02
open PySem PySem.Spec L2 Sl PyProof.Rows
theorem noDct_strs (ts : List T) : noDctL (ts.map .str) = true := by
  induction ts with
  | nil => rfl
  | cons t ts ih => simp [noDctL, noDct, ih]
theorem dep_strs (ts : List T) : depL (ts.map .str) = 0 := by
  induction ts with
  | nil => rfl
  | cons t ts ih => simp [depL, dep, ih]
def hasT (ts : List T) : D → Bool
  | .str t => ts.contains t
  | _ => false
theorem dmem_strs (d : D) (ts : List T) : dmem d (ts.map .str) = hasT ts d := by
  induction ts with
  | nil => cases d <;> rfl
  | cons t ts ih =>
    have : dmem d ((t :: ts).map .str) = (deq (.str t) d || dmem d (ts.map .str)) := rfl
    rw [this, ih]
    cases d with
    | str u =>
      simp only [deq, hasT, List.contains_cons]
      by_cases q : t = u
      · subst q; simp
      · have e1 : (t == u) = false := by simpa using q
        have e2 : (u == t) = false := by simpa using fun z => q z.symm
        rw [e1, e2]
    | _ => rfl
theorem in_tup {neg : Bool} {d : D} {ts : List T} {st : Sto} (h : noDct d = true) : fInX neg (.p d) (.p (.tup (ts.map .str))) st = some (yes (if neg then !hasT ts d else hasT ts d), st) := by
  have ok : inOk d (ts.map .str) = true := by simp [inOk, h, noDct_strs, dep_strs]
  have e : fIn neg (.p d) (.p (.tup (ts.map .str))) st = some (yes (if neg then !hasT ts d else hasT ts d), st) := by
    cases d <;> simp [fIn, viewD, ok, dmem_strs]
  simp [fInX, fInD, viewK, e]
def allIn (ts : List T) : D → Bool
  | .tup ds => ds.all fun r => ts.contains (fst0 r)
  | _ => false
def termsD (ts : List T) (d : D) : Bool := anyTermsD d && allIn ts d
theorem anyTerms_rows {ds : List D} (h : anyTermsD (.tup ds) = true) : ∀ d ∈ ds, ∃ t i, d = .tup [.str t, .int i] ∧ nameT t = true ∧ (-99 ≤ i ∧ i ≤ 99) ∧ i ≠ 0 := fun d hd => by
  simp only [anyTermsD, Bool.and_eq_true] at h
  obtain ⟨x, y, rfl, hx⟩ := pair_row h.1 d hd
  have h2 := List.all_eq_true.mp h.2.1 _ hd
  simp only [pairD, Bool.and_eq_true, Bool.not_eq_true'] at h2
  cases y with
  | int i =>
    cases x with
    | str t =>
      simp only [betw, deq, Bool.and_eq_true, decide_eq_true_eq, beq_eq_false_iff_ne] at h2
      exact ⟨t, i, rfl, hx, h2.1, h2.2⟩
    | _ => cases hx
  | _ => cases h2.1
theorem f_is_terms (ts : List T) (d : D) (st : Sto) (ok : okD d = true) : F_is_terms [.p (.tup (ts.map .str)), .p d] st = .ok (yes (termsD ts d)) st := by
  refine f_rt (es_ret rfl ?_)
  have h := ev_and (ma := mApp 1 F_is_any_terms (aCons (mVar 1) aNil)) (mb := mCall (fAll false) (aCons (mComp false [2] (mIter (mVar 1)) (gN 2) tmYes (m2 (fInX false) (m2 fIx (mVar 2) (mD (.int 0))) (mVar 0))) aNil)) (st := st) (env := [some (.p (.tup (ts.map .str))), some (.p d), none]) (b := allIn ts d) (ev_app (a1 rfl) rfl (f_is_any_terms d st ok)) fun ha => by
    cases d with
    | tup ds =>
      have hl := (okD_tup ok).1
      exact ev_all (src := none) (fun r => ts.contains (fst0 r)) (iter_tupD rfl) rfl (by omega) fun r hr => by
        obtain ⟨t, i, rfl, _⟩ := anyTerms_rows ha r hr
        exact ⟨_, rfl, ev_2 (ev_2 (x := .p (.tup [.str t, .int i])) (y := pI 0) (v := .p (.str t)) rfl rfl rfl) rfl (in_tup (neg := false) rfl)⟩
    | _ => cases ha
  exact h
def kindD (d : D) : Bool := hasT [['m', 'o', 's', 't'], ['j', 'u', 's', 't']] d
def rowD (ts : List T) : D → Bool
  | .tup [n, t, k, b] => nameD n && (!hasT ts n && (termsD ts t && (kindD k && betw (-9999) 9999 b)))
  | _ => false
theorem len4 {α : Type} {xs : List α} (h : ((xs.length : Int) == 4) = true) : ∃ a b c d, xs = [a, b, c, d] := by
  have : xs.length = 4 := by
    have h2 : (xs.length : Int) = 4 := by simpa using h
    omega
  match xs, this with
  | [a, b, c, d], _ => exact ⟨a, b, c, d, rfl⟩
theorem rowD_no {ts : List T} {ds : List D} (h : ((ds.length : Int) == 4) = false) : rowD ts (.tup ds) = false := by
  unfold rowD
  split
  · rename_i heq
    cases heq
    simp at h
  · rfl
theorem len_guard {s : String} {n k : Nat} (h : s = "tuple") : (!isTy s "tuple" || if true = true then !deq (.int (n : Nat)) (.int k) else deq (.int (n : Nat)) (.int k)) = !((n : Int) == k) := by
  subst h
  simp [isTy, deq]
theorem f_is_row (ts : List T) (d : D) (st : Sto) (ok : okD d = true) : F__is_row [.p (.tup (ts.map .str)), .p d] st = .ok (yes (rowD ts d)) st := by
  cases d with
  | tup ds =>
    refine f_rt ?_
    refine (es_guard (n0 := st.length) rfl (et_or (et_not (et_truth (ev_isi rfl rfl))) fun _ => et_val (ev_2 (ev_call (a1 rfl) rfl) rfl rfl)) (sr := .rt (yes (rowD ts (.tup ds))) st) fun hg => ?_).trans ?_
    · have hl : ((ds.length : Int) == 4) = true := by
        have := (len_guard (n := ds.length) (k := 4) (rfl : "tuple" = "tuple")).symm.trans hg
        simpa using this
      obtain ⟨n, t, k, b, rfl⟩ := len4 hl
      have hok := (okD_tup ok).2
      have okn := hok n (by simp)
      have okt := hok t (by simp)
      have okk := hok k (by simp)
      refine es_asg rfl rfl ?_
      refine (es_guard (n0 := st.length) (b := !nameD n || (hasT ts n || !termsD ts t)) rfl (et_or (et_not (et_truth (ev_app (a1 rfl) rfl (f_is_name n st)))) fun _ => et_or (et_val (ev_2 rfl rfl (in_tup (neg := false) (ok_noDct okn)))) fun _ => et_not (et_truth (ev_app (a2 rfl rfl) rfl (f_is_terms ts t st okt)))) (sr := .rt (yes (kindD k && betw (-9999) 9999 b)) st) fun _ => ?_).trans ?_
      · exact es_ret rfl (ev_and (ev_2 rfl rfl (in_tup (neg := false) (ts := [['m', 'o', 's', 't'], ['j', 'u', 's', 't']]) (ok_noDct okk))) fun _ => ev_app (a3 rfl (neg_c rfl) rfl) rfl (f_is_between b (-9999) 9999 st))
      · show (bif _ then _ else _) = SR.rt (yes (nameD n && (!hasT ts n && (termsD ts t && (kindD k && betw (-9999) 9999 b))))) st
        cases nameD n <;> cases hasT ts n <;> cases termsD ts t <;> rfl
    · have e := len_guard (n := ds.length) (k := 4) (rfl : "tuple" = "tuple")
      cases hl : ((ds.length : Int) == 4) with
      | true =>
        have e2 : (!((ds.length : Int) == (4 : Nat))) = false := by simpa using hl
        refine (congrArg (fun z => bif z then SR.rt (Val.p (D.bl false)) st else SR.rt (yes (rowD ts (.tup ds))) st) (e.trans e2)).trans rfl
      | false =>
        have e2 : (!((ds.length : Int) == (4 : Nat))) = true := by simpa using hl
        refine (congrArg (fun z => bif z then SR.rt (Val.p (D.bl false)) st else SR.rt (yes (rowD ts (.tup ds))) st) (e.trans e2)).trans ?_
        rw [rowD_no hl]
        rfl
  | _ => simp [F__is_row, B__is_row, bodyF, sSeq, sNil, sRet, sRetK, sIf, sAsg, sExpr, sSub, sBrk, sCt, sParN, R.then, R.bind, R.lift, R.noExc, mVar, mD, mTup, mLst, mAndV, mOrV, mNotV, mIf, mNeg, mIsi, mApp, mCall, mMeth, mMeth0, mChain, m2, mSlice, oNone, oSome, aNil, aCons, tVal, tTruth, tAndM, tOrM, tNotM, tmYes, gN, gT, gsGo, setAll, List.length_cons, List.length_nil, List.map_cons, List.map_nil, List.cons_append, List.nil_append, List.replicate, List.getElem?_cons_zero, List.getElem?_cons_succ, List.set_cons_zero, List.set_cons_succ, Nat.sub_self, Nat.zero_add, Nat.add_zero, Nat.reduceAdd, Nat.reduceSub, Nat.reduceEqDiff, if_true, if_false, if_pos, reduceIte, reduceCtorEq, Bool.not_true, Bool.not_false, truth, tyName, isTy, rowD]
end K02
end
section
set_option Elab.async false
set_option linter.all false
set_option maxRecDepth 100000
set_option maxHeartbeats 2000000
namespace K02
open PySem PySem.Spec L2 Sl PyProof.Rows
def tsOf : D → List T
  | .tup ds => ds.map strOf
  | _ => []
theorem names_form {d : D} (h : namesD d = true) : d = .tup ((tsOf d).map .str) ∧ ∀ t ∈ tsOf d, nameT t = true := by
  cases d with
  | tup ds =>
    simp only [namesD, Bool.and_eq_true] at h
    refine ⟨congrArg _ (all_str (all_imp (fun d _ => nameD_str) h.2.1)), fun t ht => ?_⟩
    obtain ⟨d, hd, rfl⟩ := List.mem_map.mp ht
    have := List.all_eq_true.mp h.2.1 d hd
    cases d <;> simp_all [nameD, strOf]
  | _ => cases h
def isW (d : D) : Bool := deq d (.str ['r', 'o', 'w', 's'])
def rows2 (ts : List T) : D → Bool
  | .tup ds => decide (ds.length ≤ 20) && (ds.all (rowD ts) && ascT (ds.map fst0))
  | _ => false
def rowsD : D → Bool
  | .tup [h, ns, rs] => isW h && (namesD ns && rows2 (tsOf ns) rs)
  | _ => false
theorem rowD_form {ts : List T} {d : D} (h : rowD ts d = true) : ∃ n r, d = .tup (n :: r) ∧ isStr n = true := by
  unfold rowD at h
  split at h
  · simp only [Bool.and_eq_true] at h
    exact ⟨_, _, rfl, nameD_str h.1⟩
  · cases h
theorem len3 {α : Type} {xs : List α} (h : ((xs.length : Int) == 3) = true) : ∃ a b c, xs = [a, b, c] := by
  have : xs.length = 3 := by
    have h2 : (xs.length : Int) = 3 := by simpa using h
    omega
  match xs, this with
  | [a, b, c], _ => exact ⟨a, b, c, rfl⟩
theorem rowsD_no {ds : List D} (h : ((ds.length : Int) == 3) = false) : rowsD (.tup ds) = false := by
  unfold rowsD
  split
  · rename_i heq
    cases heq
    simp at h
  · rfl
/-- a guard that is not passed, in part -/
theorem isTy_tup : isTy "tuple" "tuple" = true := rfl
theorem f_is_rows (d : D) (st : Sto) (ok : okD d = true) : F_is_rows [.p d] st = .ok (yes (rowsD d)) st := by
  cases d with
  | tup ds =>
    by_cases hl : ((ds.length : Int) == 3) = true
    · obtain ⟨w, ns, rs, rfl⟩ := len3 hl
      have hok := (okD_tup ok).2
      have okw := hok w (by simp)
      have okn := hok ns (by simp)
      have okr := hok rs (by simp)
      have ew : fEq true (.p w) (.p (.str ['r', 'o', 'w', 's'])) st = some (yes (!isW w), st) := by
        have : eqOk w (.str ['r', 'o', 'w', 's']) = true := by simp [eqOk, ok_noDct okw, noDct, dep]
        simp [fEq, viewD, this, isW]
      refine f_rt ?_
      refine (es_guard (n0 := st.length) (b := !isW w || !namesD ns) rfl (et_or (a := false) (et_not (et_truth (ev_isi (s := "tuple") rfl rfl))) fun _ => et_or (a := false) (et_val (ev_2 (ev_call (a1 rfl) rfl) rfl rfl)) fun _ => et_or (et_val (ev_2 (ev_2 (x := .p (.tup [w, ns, rs])) (y := pI 0) rfl rfl rfl) rfl ew)) fun _ => et_not (et_truth (ev_app (a1 (ev_2 (x := .p (.tup [w, ns, rs])) (y := pI 1) rfl rfl rfl)) rfl (f_is_names ns st okn)))) (sr := .rt (yes (rows2 (tsOf ns) rs)) st) fun hg => ?_).trans ?_
      · have hn : namesD ns = true := by
          cases q : namesD ns with
          | true => rfl
          | false => simp [q] at hg
        obtain ⟨en, _⟩ := names_form hn
        have eT : tNotM (tTruth (mIsi "tuple" (m2 fIx (mVar 0) (mD (.int 2))))) [some (.p (.tup [w, ns, rs])), none] st = .ok (!isTup rs) st := et_not (et_truth (ev_isTup (ev_2 (x := .p (.tup [w, ns, rs])) (y := pI 2) rfl rfl rfl)))
        cases rs with
        | tup rs =>
          refine (es_guard (n0 := st.length) (b := decide ((20 : Int) < (rs.length : Nat))) rfl (et_or (a := false) (et_not (et_truth (ev_isi (s := "tuple") (ev_2 (x := .p (.tup [w, ns, .tup rs])) (y := pI 2) rfl rfl rfl) rfl))) fun _ => et_val (ev_2 (ev_call (a1 (ev_2 (x := .p (.tup [w, ns, .tup rs])) (y := pI 2) rfl rfl rfl)) rfl) rfl rfl)) (sr := .rt (yes (rs.all (rowD (tsOf ns)) && ascT (rs.map fst0))) st) fun hg2 => ?_).trans ?_
          · have hl2 : rs.length ≤ 20 := by
              simp at hg2
              omega
            have hokr := (okD_tup okr).2
            refine es_ret rfl (ev_and (ev_all (src := none) (rowD (tsOf ns)) (iter_tupD (ev_2 (x := .p (.tup [w, ns, .tup rs])) (y := pI 2) rfl rfl rfl)) rfl (by omega) fun r hr => ⟨_, rfl, ?_⟩) fun hr => ?_)
            · refine ev_app (a2 (ev_2 (x := .p (.tup [w, ns, .tup rs])) (y := pI 1) (v := .p (.tup ((tsOf ns).map .str))) rfl rfl ?_) rfl) rfl (f_is_row (tsOf ns) r st (hokr r hr))
              rw [← en]
              rfl
            · exact ev_app (a1 (firsts (iter_tupD (ev_2 (x := .p (.tup [w, ns, .tup rs])) (y := pI 2) rfl rfl rfl)) rfl (by omega) (fun x => rfl) fun r h2 => rowD_form (List.all_eq_true.mp hr r h2))) rfl (f_is_ascending false (rs.map fst0) st (by simp; omega))
          · have e : decide ((20 : Int) < (rs.length : Nat)) = !decide (rs.length ≤ 20) := by
              by_cases q : rs.length ≤ 20
              · simp [q]; omega
              · simp [q]; omega
            rw [e, show rows2 (tsOf ns) (.tup rs) = (decide (rs.length ≤ 20) && (rs.all (rowD (tsOf ns)) && ascT (rs.map fst0))) from rfl]
            cases decide (rs.length ≤ 20) <;> rfl
        | _ => exact es_out rfl (et_orT eT)
      · rw [show rowsD (.tup [w, ns, rs]) = (isW w && (namesD ns && rows2 (tsOf ns) rs)) from rfl]
        cases isW w <;> cases namesD ns <;> rfl
    · have hl' : ((ds.length : Int) == 3) = false := by simpa using hl
      rw [rowsD_no hl']
      refine f_rt (es_out rfl (et_orF (et_not (et_truth (ev_isi (s := "tuple") rfl rfl))) (et_orT (et_val (ev_2 (ev_call (a1 rfl) rfl) rfl ?_)))))
      show some (yes (!((ds.length : Int) == 3)), st) = _
      rw [hl']
      rfl
  | _ => simp [F_is_rows, B_is_rows, bodyF, sSeq, sNil, sRet, sRetK, sIf, sAsg, sExpr, sSub, sBrk, sCt, sParN, R.then, R.bind, R.lift, R.noExc, mVar, mD, mTup, mLst, mAndV, mOrV, mNotV, mIf, mNeg, mIsi, mApp, mCall, mMeth, mMeth0, mChain, m2, mSlice, oNone, oSome, aNil, aCons, tVal, tTruth, tAndM, tOrM, tNotM, tmYes, gN, gT, gsGo, setAll, List.length_cons, List.length_nil, List.map_cons, List.map_nil, List.cons_append, List.nil_append, List.replicate, List.getElem?_cons_zero, List.getElem?_cons_succ, List.set_cons_zero, List.set_cons_succ, Nat.sub_self, Nat.zero_add, Nat.add_zero, Nat.reduceAdd, Nat.reduceSub, Nat.reduceEqDiff, if_true, if_false, if_pos, reduceIte, reduceCtorEq, Bool.not_true, Bool.not_false, truth, tyName, isTy, rowsD]
end K02
end
section
set_option Elab.async false
set_option linter.all false
set_option maxRecDepth 100000
set_option maxHeartbeats 2000000
namespace K02
open PySem PySem.Spec L2 Sl PyProof.Rows
/-! shares, points, factors -/
def sharesD : D → Bool
  | .tup ds => ds.all (pairD fun x _ => isStr x) && (ds.all (pairD fun _ y => fracD y) && ascT (ds.map fst0))
  | _ => false
theorem f_is_shares (d : D) (st : Sto) (ok : okD d = true) : F_is_shares [.p d] st = .ok (yes (sharesD d)) st := by
  cases d with
  | tup ds =>
    have hl := (okD_tup ok).1
    have h1 := ev_all (ow := [1]) (mi := mIter (mVar 0)) (gm := gN 1) (m := mAndV (mApp 1 F_is_pair (aCons (mVar 1) aNil)) (mIsi "str" (m2 fIx (mVar 1) (mD (.int 0))))) (src := none) (st := st) (env := [some (.p (.tup ds)), none]) (ds := ds) (pairD fun x _ => isStr x) (iter_tupD rfl) rfl (by omega) fun d hd => by
      refine ⟨_, rfl, ?_⟩
      by_cases hp : isPair d = true
      · obtain ⟨x, y, rfl⟩ := pair_of hp
        exact ev_and (a := true) (b := isStr x) (ev_app (a1 rfl) rfl (f_is_pair _ st)) fun _ => ev_isStr (ev_2 (x := .p (.tup [x, y])) (y := pI 0) rfl rfl rfl)
      · have e : isPair d = false := by simpa using hp
        have e2 : pairD (fun x _ => isStr x) d = false := by
          unfold pairD
          unfold isPair at e
          split at e <;> simp_all
        have := ev_and (a := false) (b := true) (mb := mIsi "str" (m2 fIx (mVar 1) (mD (.int 0)))) (env := [some (.p (.tup ds)), some (.p d)]) (ma := mApp 1 F_is_pair (aCons (mVar 1) aNil)) (ev_app (a1 rfl) rfl (e ▸ f_is_pair d st)) fun q => nomatch q
        rw [e2]
        exact this
    refine f_rt ?_
    refine (es_guard (n0 := st.length) (b := !ds.all (pairD fun x _ => isStr x)) rfl (et_orF (et_not (et_truth (ev_isi (s := "tuple") rfl rfl))) (et_not (et_truth h1))) (sr := .rt (yes (ds.all (pairD fun _ y => fracD y) && ascT (ds.map fst0))) st) fun hg => ?_).trans ?_
    · have hp : ds.all (pairD fun x _ => isStr x) = true := by simpa using hg
      refine es_ret rfl (ev_and (ev_all (src := none) (pairD fun _ y => fracD y) (iter_tupD rfl) rfl (by omega) fun d hd => ?_) fun _ => ?_)
      · obtain ⟨x, y, rfl, _⟩ := pair_row hp d hd
        exact ⟨_, rfl, ev_app (a1 (ev_2 (x := .p (.tup [x, y])) (y := pI 1) rfl rfl rfl)) rfl (f_is_fraction y st)⟩
      · exact ev_app (a1 (firsts (iter_tupD rfl) rfl hl (fun x => rfl) fun d hd => by
          obtain ⟨x, y, rfl, hx⟩ := pair_row hp d hd
          exact ⟨x, [y], rfl, hx⟩)) rfl (f_is_ascending false (ds.map fst0) st (by simpa using hl))
    · rw [show sharesD (.tup ds) = (ds.all (pairD fun x _ => isStr x) && (ds.all (pairD fun _ y => fracD y) && ascT (ds.map fst0))) from rfl]
      cases ds.all (pairD fun x _ => isStr x) <;> rfl
  | _ => simp [F_is_shares, B_is_shares, bodyF, sSeq, sNil, sRet, sRetK, sIf, sAsg, sExpr, sSub, sBrk, sCt, sParN, R.then, R.bind, R.lift, R.noExc, mVar, mD, mTup, mLst, mAndV, mOrV, mNotV, mIf, mNeg, mIsi, mApp, mCall, mMeth, mMeth0, mChain, m2, mSlice, oNone, oSome, aNil, aCons, tVal, tTruth, tAndM, tOrM, tNotM, tmYes, gN, gT, gsGo, setAll, List.length_cons, List.length_nil, List.map_cons, List.map_nil, List.cons_append, List.nil_append, List.replicate, List.getElem?_cons_zero, List.getElem?_cons_succ, List.set_cons_zero, List.set_cons_succ, Nat.sub_self, Nat.zero_add, Nat.add_zero, Nat.reduceAdd, Nat.reduceSub, Nat.reduceEqDiff, if_true, if_false, if_pos, reduceIte, reduceCtorEq, Bool.not_true, Bool.not_false, truth, tyName, isTy, sharesD]
theorem shares_rows {ds : List D} (h : sharesD (.tup ds) = true) : ∀ d ∈ ds, ∃ t a b, d = .tup [.str t, .tup [.int a, .int b]] := fun d hd => by
  simp only [sharesD, Bool.and_eq_true] at h
  obtain ⟨x, y, rfl, hx⟩ := pair_row h.1 d hd
  have h2 := List.all_eq_true.mp h.2.1 _ hd
  have h3 : fracD y = true := h2
  have h4 : ∃ t, x = .str t := by
    cases x with
    | str t => exact ⟨t, rfl⟩
    | _ => cases hx
  obtain ⟨t, rfl⟩ := h4
  have h5 : ∃ a b, y = .tup [.int a, .int b] := by
    unfold fracD at h3
    split at h3
    · exact ⟨_, _, rfl⟩
    · cases h3
  obtain ⟨a, b, rfl⟩ := h5
  exact ⟨_, _, _, rfl⟩
theorem deq_strs : ∀ (xs ys : List T), deqL (xs.map .str) (ys.map .str) = decide (xs = ys)
  | [], [] => rfl
  | [], _ :: _ => rfl
  | _ :: _, [] => rfl
  | x :: xs, y :: ys => by
    simp only [List.map_cons, deqL, deq, deq_strs xs ys]
    by_cases q : x = y
    · subst q; simp
    · simp [q]
theorem eq_strs (xs ys : List T) (st : Sto) (hl : xs.length ≤ 1000) : fEq false (.p (.lst (xs.map .str))) (.p (.lst (ys.map .str))) st = some (yes (decide (xs = ys)), st) := by
  have : eqOk (.lst (xs.map .str)) (.lst (ys.map .str)) = true := by
    have hm : min (dep (.lst (xs.map .str))) (dep (.lst (ys.map .str))) ≤ 64 := by
      simp only [dep, dep_strs]
      omega
    simp [eqOk, noDct, noDct_strs, hm]
  simp [fEq, viewD, this, deq, deq_strs]
def namesAre (ts : List T) : D → Bool
  | .tup ds => decide (ds.map fst0 = ts)
  | _ => false
theorem f_is_point (ts : List T) (d : D) (st : Sto) (ok : okD d = true) (ht : ts.length ≤ 1000) : F_is_point [.p (.tup (ts.map .str)), .p d] st = .ok (yes (sharesD d && namesAre ts d)) st := by
  refine f_rt (es_ret rfl (ev_and (ev_app (a1 rfl) rfl (f_is_shares d st ok)) fun hs => ?_))
  cases d with
  | tup ds =>
    have hl := (okD_tup ok).1
    refine ev_2 (firsts (iter_tupD rfl) rfl hl (fun x => rfl) fun d hd => ?_) (ev_call (a1 rfl) (v := .p (.lst (ts.map .str))) ?_) (eq_strs _ _ st (by simpa using hl))
    · obtain ⟨t, a, b, rfl⟩ := shares_rows hs d hd
      exact ⟨_, _, rfl, rfl⟩
    · have h2 : (ts.map D.str).length ≤ sizeLine := by rw [List.length_map, sizeLine_eq]; omega
      simp only [fList, newLst, pureL_map, h2, if_true]
  | _ => cases hs
end K02
end
section
set_option Elab.async false
set_option linter.all false
set_option maxRecDepth 100000
set_option maxHeartbeats 2000000
namespace K02
open PySem PySem.Spec L2 Sl PyProof.Rows
/-! factors: the rows are right ones -/
def most : T := ['m', 'o', 's', 't']
def just : T := ['j', 'u', 's', 't']
/-- a row as drawn -/
structure Row where
  name : T
  terms : D
  kind : T
  bound : Int
def Row.d (r : Row) : D := .tup [.str r.name, r.terms, .str r.kind, .int r.bound]
def rowsOf (names : List T) (rs : List Row) : D := .tup [.str ['r', 'o', 'w', 's'], .tup (names.map .str), .tup (rs.map Row.d)]
def kdk (rs : List Row) : List DK × List D := mergeDD (rs.map fun r => ((Sum.inr r.name : DK), D.str r.kind)) [] []
theorem kdk_ok {rs : List Row} (h : ∀ r ∈ rs, r.kind = most ∨ r.kind = just) {t : T} (ht : hasK (.inr t) (kdk rs).1 = true) : ∃ k, (k = most ∨ k = just) ∧ dfind (.inr t) (kdk rs).1 (kdk rs).2 = some (.str k) := by
  obtain ⟨h1, h2⟩ := mergeDD_ok (S := fun d => ∃ k, (k = most ∨ k = just) ∧ d = .str k) (rs.map fun r => ((Sum.inr r.name : DK), D.str r.kind)) [] [] rfl (fun d hd => nomatch hd) fun p hp => by
    obtain ⟨r, hr, rfl⟩ := List.mem_map.mp hp
    exact ⟨r.kind, h r hr, rfl⟩
  obtain ⟨x, e, k, hk, rfl⟩ := dfind_has h1 h2 ht
  exact ⟨k, hk, e⟩
def factOk (rs : List Row) : D → Bool
  | .tup [.str t, .tup [.int a, .int b]] => hasK (.inr t) (kdk rs).1 && (decide (0 < a) || (decide (a < 0) && (match dfind (.inr t) (kdk rs).1 (kdk rs).2 with
    | some d => deq d (.str just)
    | none => false)))
  | _ => false
def inK (rs : List Row) : D → Bool
  | .tup (.str t :: _) => hasK (.inr t) (kdk rs).1
  | _ => false
def signOk (rs : List Row) : D → Bool
  | .tup [.str t, .tup (.int a :: _)] => decide (0 < a) || (decide (a < 0) && (match dfind (.inr t) (kdk rs).1 (kdk rs).2 with
    | some d => deq d (.str just)
    | none => false))
  | _ => false
def factorsD (rs : List Row) (d : D) : Bool := sharesD d && (match d with
  | .tup ds => ds.all (inK rs) && ds.all (signOk rs)
  | _ => false)
def all2 (p : D → Bool) : D → Bool
  | .tup ds => ds.all p
  | _ => false
theorem f_is_factors (names : List T) (rs : List Row) (d : D) (st : Sto) (ok : okD d = true) (hr : ∀ r ∈ rs, r.kind = most ∨ r.kind = just) (hl : rs.length ≤ 1000) :
    F_is_factors [.p (rowsOf names rs), .p d] st = .ok (yes (sharesD d && (all2 (inK rs) d && all2 (signOk rs) d))) st := by
  refine f_rt ?_
  have ek := dcomp_D (ow := [3]) (mi := mIter (m2 fIx (mVar 0) (mD (.int 2)))) (gm := gN 3) (mk := m2 fIx (mVar 3) (mD (.int 0))) (me := m2 fIx (mVar 3) (mD (.int 2))) (env := [some (.p (rowsOf names rs)), some (.p d), none, none, none, none]) (st := st) (src := none) (ds := rs.map Row.d)
    (fun d => match d with | .tup (.str t :: _) => .inr t | _ => .inl 0) (fun d => match d with | .tup (x :: _) => x | _ => .non) (fun d => match d with | .tup [_, _, k, _] => k | _ => .non) (iter_tupD (ev_2 (x := .p (rowsOf names rs)) (y := pI 2) rfl rfl rfl)) rfl (by simpa using hl) fun d hd => by
      obtain ⟨r, _, rfl⟩ := List.mem_map.mp hd
      exact ⟨_, rfl, ev_2 (x := .p r.d) (y := pI 0) rfl rfl rfl, rfl, ev_2 (x := .p r.d) (y := pI 2) rfl rfl rfl⟩
  rw [List.map_map] at ek
  refine es_asg (v := .p (.dct (kdk rs).1 (kdk rs).2)) ek rfl ?_
  cases d with
  | tup ds =>
    have hld := (okD_tup ok).1
    have h1 : sharesD (.tup ds) = true → mCall (fAll false) (aCons (mComp false [4, 5] (mIter (mVar 1)) (gT [(gN 4), (gN 5)]) tmYes (m2 (fInX false) (mVar 4) (mVar 2))) aNil) [some (.p (rowsOf names rs)), some (.p (.tup ds)), some (.p (.dct (kdk rs).1 (kdk rs).2)), none, none, none] st = .ok (yes (ds.all (inK rs))) st := fun hs =>
      ev_all (src := none) (inK rs) (iter_tupD rfl) rfl (by omega) fun d hd => by
        obtain ⟨t, a, b, rfl⟩ := shares_rows hs d hd
        exact ⟨_, rfl, ev_2 (x := .p (.str t)) (y := .p (.dct (kdk rs).1 (kdk rs).2)) rfl rfl (in_dct (neg := false))⟩
    refine (es_guard (n0 := st.length) (b := !sharesD (.tup ds) || !ds.all (inK rs)) rfl (et_or (et_not (et_truth (ev_app (a1 rfl) rfl (f_is_shares _ st ok)))) fun hs => et_not (et_truth (h1 (by simpa using hs)))) (sr := .rt (yes (ds.all (signOk rs))) st) fun hg => ?_).trans ?_
    · have hs : sharesD (.tup ds) = true := by
        cases q : sharesD (.tup ds) with
        | true => rfl
        | false => simp [q] at hg
      have hk : ds.all (inK rs) = true := by
        cases q : ds.all (inK rs) with
        | true => rfl
        | false => simp [q] at hg
      refine es_ret rfl (ev_all (src := none) (signOk rs) (iter_tupD rfl) rfl (by omega) fun d hd => ?_)
      obtain ⟨t, a, b, rfl⟩ := shares_rows hs d hd
      have ht : hasK (.inr t) (kdk rs).1 = true := List.all_eq_true.mp hk _ hd
      obtain ⟨k, hk2, ef⟩ := kdk_ok hr ht
      refine ⟨_, rfl, ?_⟩
      have e := ev_or (ma := m2 fGt (m2 fIx (mVar 5) (mD (.int 0))) (mD (.int 0))) (mb := mAndV (m2 fLt (m2 fIx (mVar 5) (mD (.int 0))) (mD (.int 0))) (m2 (fEq false) (m2 fIx (mVar 2) (mVar 4)) (mD (.str ['j', 'u', 's', 't'])))) (st := st)
        (env := [some (.p (rowsOf names rs)), some (.p (.tup ds)), some (.p (.dct (kdk rs).1 (kdk rs).2)), none, some (.p (.str t)), some (.p (.tup [.int a, .int b]))]) (ev_2 (ev_2 (x := .p (.tup [.int a, .int b])) (y := pI 0) (v := pI a) rfl rfl rfl) rfl rfl) fun _ =>
        ev_and (ev_2 (ev_2 (x := .p (.tup [.int a, .int b])) (y := pI 0) (v := pI a) rfl rfl rfl) rfl rfl) fun _ => ev_2 (x := .p (.str k)) (ev_2 (x := .p (.dct (kdk rs).1 (kdk rs).2)) (y := .p (.str t)) rfl rfl (ix_dct ef)) rfl (v := yes (deq (.str k) (.str just))) rfl
      refine e.trans ?_
      simp only [signOk, ef]
    · rw [show all2 (inK rs) (.tup ds) = ds.all (inK rs) from rfl, show all2 (signOk rs) (.tup ds) = ds.all (signOk rs) from rfl]
      cases sharesD (.tup ds) <;> cases ds.all (inK rs) <;> rfl
  | _ =>
    exact es_out rfl (et_orT (et_not (et_truth (ev_app (a1 rfl) rfl (f_is_shares _ st ok)))))
end K02
end
section
set_option Elab.async false
set_option linter.all false
set_option maxRecDepth 100000
set_option maxHeartbeats 2000000
namespace K02
open PySem PySem.Spec L2 Sl PyProof.Rows
/-! the law's own judges -/
theorem filt (S t : T) : List.filter (fun d => match d with | .str [c] => !S.contains c | _ => true) (t.map fun c => D.str [c]) = (t.filter fun c => !S.contains c).map fun c => D.str [c] := by
  rw [List.filter_map]
  rfl
theorem noDct_ones (t : T) : noDctL (t.map fun c => D.str [c]) = true := by
  induction t with
  | nil => rfl
  | cons c t ih => simp [noDctL, noDct, ih]
theorem f_law_is_name (t : T) (st : Sto) : F__law_is_name [.p (.str t)] st = .ok (yes (nameT t)) st := by
  refine f_rt ?_
  match t with
  | [] => exact es_out rfl (et_orT (et_not (et_val (ev_chain (a := false) (b := false) rfl (ev_call (a1 rfl) rfl) rfl fun z => nomatch z))))
  | c :: cs =>
    have hi : fIx (.p (.str (c :: cs))) (pI 0) st = some (.p (.str [c]), st) := by simp [fIx, atI, ixN]
    refine (es_guard (n0 := st.length) (b := !decide ((c :: cs).length ≤ 10) || !LET.contains c) rfl (et_or (et_not (et_val (ev_chain (a := true) rfl (ev_call (a1 rfl) (v := pI (cs.length + 1 : Nat)) rfl) (by
      have : decide ((1 : Int) ≤ ((cs.length + 1 : Nat) : Int)) = true := by simp; omega
      exact congrArg (fun b => some (yes b, st)) this) fun _ => ⟨_, rfl, by
      have : decide (((cs.length + 1 : Nat) : Int) ≤ 10) = decide ((c :: cs).length ≤ 10) := by
        simp only [List.length_cons]
        by_cases q : cs.length + 1 ≤ 10
        · rw [decide_eq_true q]; exact decide_eq_true (by omega)
        · rw [decide_eq_false q]; exact decide_eq_false (by omega)
      exact congrArg (fun b => some (yes b, st)) this⟩))) fun _ => et_val (ev_2 (ev_2 rfl rfl hi) rfl rfl)) (sr := .rt (yes (onlyT (LET ++ DIG) (c :: cs))) st) fun hg => ?_).trans ?_
    · have hl : (c :: cs).length ≤ 10 := by
        have h2 : (!decide ((c :: cs).length ≤ 10)) = false := by
          cases q : decide ((c :: cs).length ≤ 10) with
          | true => rfl
          | false => rw [q] at hg; cases hg
        simpa using h2
      have e := comp_D (ow := [1]) (mi := mIter (mVar 0)) (gm := gN 1) (mt := tVal (m2 (fInX true) (mVar 1) (mD (.str (LET ++ DIG))))) (me := mVar 1) (env := [some (.p (.str (c :: cs))), none]) (st := st) (src := none) (ds := (c :: cs).map fun c => .str [c]) (fun d => match d with | .str [c] => !(LET ++ DIG).contains c | _ => true) (fun d => d) (iter_strD rfl) rfl (by rw [List.length_map, sizeLine_eq]; omega) fun d hd => by
        obtain ⟨c, _, rfl⟩ := List.mem_map.mp hd
        exact ⟨_, rfl, et_val (ev_2 rfl rfl rfl), fun _ => rfl⟩
      refine es_ret rfl (ev_2 e (ev_lst (ds := []) rfl (by simp)) ?_)
      rw [List.map_id', filt, eq_nil (noDct_ones _)]
      generalize c :: cs = t
      simp only [Bool.false_eq_true, if_false, onlyT]
      congr 3
      generalize (LET ++ DIG) = S
      induction t with
      | nil => rfl
      | cons a t ih =>
        simp only [List.filter_cons, List.all_cons]
        cases S.contains a
        · rfl
        · simpa using ih
    · simp only [nameT]
      cases decide ((c :: cs).length ≤ 10) <;> cases LET.contains c <;> rfl
theorem f_law_named (d : D) (st : Sto) : F__law_named [.p d] st = .ok (yes (nameD d)) st := by
  refine f_rt (es_ret rfl ?_)
  have e := ev_and (ma := mIsi "str" (mVar 0)) (mb := mApp 1 F__law_is_name (aCons (mVar 0) aNil)) (env := [some (.p d)]) (st := st) (b := nameD d) (ev_isStr rfl) fun hs => by
    cases d with
    | str t => exact ev_app (a1 rfl) rfl (f_law_is_name t st)
    | _ => cases hs
  refine e.trans ?_
  cases d <;> rfl
/-- a bound, or none -/
def bnd : Option Int → D
  | none => .non
  | some i => .int i
def whole (lo hi : Option Int) : D → Bool
  | .int i => (match lo with
    | none => true
    | some l => decide (l ≤ i)) && (match hi with
    | none => true
    | some h => decide (i ≤ h))
  | _ => false
theorem f_law_whole (d : D) (lo hi : Option Int) (st : Sto) : F__law_whole [.p d, .p (bnd lo), .p (bnd hi)] st = .ok (yes (whole lo hi d)) st := by
  cases d with
  | int i => cases lo <;> cases hi <;> simp [F__law_whole, B__law_whole, bodyF, sSeq, sNil, sRet, sRetK, sIf, sAsg, sExpr, sSub, sBrk, sCt, sParN, R.then, R.bind, R.lift, R.noExc, mVar, mD, mTup, mLst, mAndV, mOrV, mNotV, mIf, mNeg, mIsi, mApp, mCall, mMeth, mMeth0, mChain, m2, mSlice, oNone, oSome, aNil, aCons, tVal, tTruth, tAndM, tOrM, tNotM, tmYes, gN, gT, gsGo, setAll, List.length_cons, List.length_nil, List.map_cons, List.map_nil, List.cons_append, List.nil_append, List.replicate, List.getElem?_cons_zero, List.getElem?_cons_succ, List.set_cons_zero, List.set_cons_succ, Nat.sub_self, Nat.zero_add, Nat.add_zero, Nat.reduceAdd, Nat.reduceSub, Nat.reduceEqDiff, if_true, if_false, if_pos, reduceIte, reduceCtorEq, Bool.not_true, Bool.not_false, truth, tyName, isTy, bnd, whole, fIs, isD, fLe] <;> (first | done | (rename_i l; cases decide (l ≤ i) <;> simp) | (rename_i l h; cases decide (l ≤ i) <;> simp) | skip)
  | _ => simp [F__law_whole, B__law_whole, bodyF, sSeq, sNil, sRet, sRetK, sIf, sAsg, sExpr, sSub, sBrk, sCt, sParN, R.then, R.bind, R.lift, R.noExc, mVar, mD, mTup, mLst, mAndV, mOrV, mNotV, mIf, mNeg, mIsi, mApp, mCall, mMeth, mMeth0, mChain, m2, mSlice, oNone, oSome, aNil, aCons, tVal, tTruth, tAndM, tOrM, tNotM, tmYes, gN, gT, gsGo, setAll, List.length_cons, List.length_nil, List.map_cons, List.map_nil, List.cons_append, List.nil_append, List.replicate, List.getElem?_cons_zero, List.getElem?_cons_succ, List.set_cons_zero, List.set_cons_succ, Nat.sub_self, Nat.zero_add, Nat.add_zero, Nat.reduceAdd, Nat.reduceSub, Nat.reduceEqDiff, if_true, if_false, if_pos, reduceIte, reduceCtorEq, Bool.not_true, Bool.not_false, truth, tyName, isTy, whole]
end K02
end
section
set_option Elab.async false
set_option linter.all false
set_option maxRecDepth 100000
set_option maxHeartbeats 2000000
namespace K02
open PySem PySem.Spec L2 Sl PyProof.Rows
abbrev lowT : TM := tVal (m2 fGt (mVar 3) (mD (.int 0)))
abbrev lowB : SM := sSeq (sParN [2, 3] (aCons (mVar 3) (aCons (m2 fMod (mVar 2) (mVar 3)) aNil))) sNil
theorem low_loop (a b : Option Val) (st : Sto) : ∀ (two one : Nat), ∃ n, whGo lowT lowB n [a, b, some (pI one), some (pI two)] st = .nx [a, b, some (pI (Nat.gcd one two)), some (pI 0)] st := fun two => by
  induction two using Nat.strongRecOn with
  | _ two ih =>
    intro one
    by_cases h : two = 0
    · subst h
      exact ⟨1, by simp [whGo, bodyF, sSeq, sNil, sRet, sRetK, sIf, sAsg, sExpr, sSub, sBrk, sCt, sParN, R.then, R.bind, R.lift, R.noExc, mVar, mD, mTup, mLst, mAndV, mOrV, mNotV, mIf, mNeg, mIsi, mApp, mCall, mMeth, mMeth0, mChain, m2, mSlice, oNone, oSome, aNil, aCons, tVal, tTruth, tAndM, tOrM, tNotM, tmYes, gN, gT, gsGo, setAll, List.length_cons, List.length_nil, List.map_cons, List.map_nil, List.cons_append, List.nil_append, List.replicate, List.getElem?_cons_zero, List.getElem?_cons_succ, List.set_cons_zero, List.set_cons_succ, Nat.sub_self, Nat.zero_add, Nat.add_zero, Nat.reduceAdd, Nat.reduceSub, Nat.reduceEqDiff, if_true, if_false, if_pos, reduceIte, reduceCtorEq, Bool.not_true, Bool.not_false, truth, tyName, isTy, fGt]⟩
    · obtain ⟨n, e⟩ := ih (one % two) (Nat.mod_lt _ (by omega)) two
      have hf : ((one : Int).fmod (two : Int)) = ((one % two : Nat) : Int) := by
        rw [Int.fmod_eq_emod_of_nonneg _ (by omega)]
        simp
      have hb : lowB [a, b, some (pI one), some (pI two)] st = .nx [a, b, some (pI two), some (pI ((one % two : Nat) : Int))] st := by
        simp [bodyF, sSeq, sNil, sRet, sRetK, sIf, sAsg, sExpr, sSub, sBrk, sCt, sParN, R.then, R.bind, R.lift, R.noExc, mVar, mD, mTup, mLst, mAndV, mOrV, mNotV, mIf, mNeg, mIsi, mApp, mCall, mMeth, mMeth0, mChain, m2, mSlice, oNone, oSome, aNil, aCons, tVal, tTruth, tAndM, tOrM, tNotM, tmYes, gN, gT, gsGo, setAll, List.length_cons, List.length_nil, List.map_cons, List.map_nil, List.cons_append, List.nil_append, List.replicate, List.getElem?_cons_zero, List.getElem?_cons_succ, List.set_cons_zero, List.set_cons_succ, Nat.sub_self, Nat.zero_add, Nat.add_zero, Nat.reduceAdd, Nat.reduceSub, Nat.reduceEqDiff, if_true, if_false, if_pos, reduceIte, reduceCtorEq, Bool.not_true, Bool.not_false, truth, tyName, isTy, fMod, fI, h, hf]
      refine ⟨n + 1, ?_⟩
      unfold whGo
      have ht : lowT [a, b, some (pI one), some (pI two)] st = .ok true st := by
        have : 0 < two := by omega
        simp [bodyF, sSeq, sNil, sRet, sRetK, sIf, sAsg, sExpr, sSub, sBrk, sCt, sParN, R.then, R.bind, R.lift, R.noExc, mVar, mD, mTup, mLst, mAndV, mOrV, mNotV, mIf, mNeg, mIsi, mApp, mCall, mMeth, mMeth0, mChain, m2, mSlice, oNone, oSome, aNil, aCons, tVal, tTruth, tAndM, tOrM, tNotM, tmYes, gN, gT, gsGo, setAll, List.length_cons, List.length_nil, List.map_cons, List.map_nil, List.cons_append, List.nil_append, List.replicate, List.getElem?_cons_zero, List.getElem?_cons_succ, List.set_cons_zero, List.set_cons_succ, Nat.sub_self, Nat.zero_add, Nat.add_zero, Nat.reduceAdd, Nat.reduceSub, Nat.reduceEqDiff, if_true, if_false, if_pos, reduceIte, reduceCtorEq, Bool.not_true, Bool.not_false, truth, tyName, isTy, fGt, this]
      rw [ht]
      simp only [R.then]
      rw [hb]
      dsimp only
      rw [e]
      congr 4
      rw [Nat.gcd_comm one two, Nat.gcd_rec two one, Nat.gcd_comm]
theorem f_law_low (n : Int) (b : Int) (st : Sto) (hb : 1 ≤ b) (hb2 : b.natAbs < 1000000000000) : F__law_low [pI n, pI b] st = .ok (.p (.tup [.int (n.fdiv (Int.gcd n b)), .int (b.fdiv (Int.gcd n b))])) st := by
  refine f_rt ?_
  have habs : fAbs [pI n] st = some (pI (n.natAbs : Nat), st) := by
    simp only [fAbs]
    have : (if n < 0 then -n else n) = (n.natAbs : Int) := by split <;> omega
    rw [this]
  have hg : 0 < Int.gcd n b := by
    refine Nat.pos_of_ne_zero fun z => ?_
    have := Int.gcd_eq_zero_iff.mp z
    omega
  have hgb : Int.gcd n b ≤ b.natAbs := Nat.le_of_dvd (by omega) (Nat.gcd_dvd_right _ _)
  have hdv : ∀ z, divOk z (Int.gcd n b : Nat) = true := fun z => divOk_pos (by omega) (by omega)
  rw [show B__law_low st.length = sSeq (sParN [2, 3] (aCons (mCall fAbs (aCons (mVar 0) aNil)) (aCons (mVar 1) aNil))) (sSeq (sWhile lowT lowB) (sSeq (sRet st.length (mTup (aCons (m2 fFdiv (mVar 0) (mVar 2)) (aCons (m2 fFdiv (mVar 1) (mVar 2)) aNil)))) sNil)) from rfl]
  rw [seq_nx (env' := [some (pI n), some (pI b), some (pI (n.natAbs : Nat)), some (pI (b.natAbs : Nat))]) (st' := st) (by
    have : (b.natAbs : Int) = b := by omega
    simp [bodyF, sSeq, sNil, sRet, sRetK, sIf, sAsg, sExpr, sSub, sBrk, sCt, sParN, R.then, R.bind, R.lift, R.noExc, mVar, mD, mTup, mLst, mAndV, mOrV, mNotV, mIf, mNeg, mIsi, mApp, mCall, mMeth, mMeth0, mChain, m2, mSlice, oNone, oSome, aNil, aCons, tVal, tTruth, tAndM, tOrM, tNotM, tmYes, gN, gT, gsGo, setAll, List.length_cons, List.length_nil, List.map_cons, List.map_nil, List.cons_append, List.nil_append, List.replicate, List.getElem?_cons_zero, List.getElem?_cons_succ, List.set_cons_zero, List.set_cons_succ, Nat.sub_self, Nat.zero_add, Nat.add_zero, Nat.reduceAdd, Nat.reduceSub, Nat.reduceEqDiff, if_true, if_false, if_pos, reduceIte, reduceCtorEq, Bool.not_true, Bool.not_false, truth, tyName, isTy, habs, this])]
  obtain ⟨f, e⟩ := low_loop (some (pI n)) (some (pI b)) st b.natAbs n.natAbs
  rw [seq_nx (sWhile_of f e (by intro z; cases z))]
  refine es_ret rfl (ev_tup (ds := [.int (n.fdiv (Int.gcd n b)), .int (b.fdiv (Int.gcd n b))]) (a2 (ev_2 rfl rfl ?_) (ev_2 rfl rfl ?_)) (by simp))
  · simp only [fFdiv, fI]
    exact if_pos (hdv n)
  · simp only [fFdiv, fI]
    exact if_pos (hdv b)
theorem low_same (n b : Int) (hb : 1 ≤ b) : deq (.tup [.int (n.fdiv (Int.gcd n b)), .int (b.fdiv (Int.gcd n b))]) (.tup [.int n, .int b]) = decide (Int.gcd n b = 1) := by
  simp only [deq, deqL, Bool.and_true]
  by_cases h : Int.gcd n b = 1
  · rw [h]
    simp
  · have hg : 0 < Int.gcd n b := by
      refine Nat.pos_of_ne_zero fun z => ?_
      have := Int.gcd_eq_zero_iff.mp z
      omega
    have h2 : b.fdiv (Int.gcd n b) ≠ b := fun z => by
      rw [Int.fdiv_eq_ediv_of_nonneg _ (by omega)] at z
      have h3 : b / (Int.gcd n b : Int) < b := by
        refine Int.ediv_lt_self_of_pos_of_ne_one (by omega) ?_ <;> omega
      omega
    simp [h, h2]
theorem isTup_len {d : D} : isTup d = true → ∃ ds, d = .tup ds := fun h => by
  cases d with
  | tup ds => exact ⟨ds, rfl⟩
  | _ => cases h
theorem fracD_no {ds : List D} (h : ((ds.length : Int) == 2) = false) : fracD (.tup ds) = false := by
  unfold fracD
  split
  · rename_i heq
    cases heq
    simp at h
  · rfl
theorem f_law_is_fraction (d : D) (st : Sto) (ok : okD d = true) : F__law_is_fraction [.p d] st = .ok (yes (fracD d)) st := by
  have eT : tNotM (tTruth (mIsi "tuple" (mVar 0))) [some (.p d)] st = .ok (!isTup d) st := et_not (et_truth (ev_isTup rfl))
  refine f_rt ?_
  cases d with
  | tup ds =>
    by_cases hl : ((ds.length : Int) == 2) = true
    · obtain ⟨x, y, rfl⟩ := len2 hl
      have e1 := f_law_whole x none none st
      have e2 := f_law_whole y (some 1) none st
      refine (es_guard (n0 := st.length) (b := !whole none none x || !whole (some 1) none y) rfl (et_orF eT (et_orF (et_val (ev_2 (v := yes false) (ev_call (a1 rfl) (v := pI 2) rfl) rfl rfl)) (et_or (et_not (et_truth (ev_app (a3 (ev_2 (x := .p (.tup [x, y])) (y := pI 0) rfl rfl rfl) rfl rfl) rfl e1))) fun _ => et_not (et_truth (ev_app (a3 (ev_2 (x := .p (.tup [x, y])) (y := pI 1) rfl rfl rfl) rfl rfl) rfl e2))))) (sr := .rt (yes (fracD (.tup [x, y]))) st) fun hg => ?_).trans ?_
      · cases x with
        | int n =>
          cases y with
          | int b =>
            have hb : 1 ≤ b := by simpa [whole] using hg
            have okb : b.natAbs < 1000000000000 := by simpa [okD] using (okD_tup ok).2 (.int b) (by simp)
            refine es_ret rfl (ev_2 (ev_app (a2 (ev_2 (x := .p (.tup [.int n, .int b])) (y := pI 0) rfl rfl rfl) (ev_2 (x := .p (.tup [.int n, .int b])) (y := pI 1) rfl rfl rfl)) rfl (f_law_low n b st hb okb)) rfl ?_)
            have ho : eqOk (.tup [.int (n.fdiv (Int.gcd n b)), .int (b.fdiv (Int.gcd n b))]) (.tup [.int n, .int b]) = true := rfl
            simp only [fEq, viewD, ho, if_true, low_same n b hb]
            simp [fracD, hb]
          | _ => simp [whole] at hg
        | _ => simp [whole] at hg
      · cases x <;> cases y <;> simp [whole, fracD]
        rename_i n b
        by_cases q : 1 ≤ b <;> simp [q]
    · have hl' : ((ds.length : Int) == 2) = false := by simpa using hl
      rw [fracD_no hl']
      refine es_out rfl (et_orF eT (et_orT (et_val (ev_2 (ev_call (a1 rfl) rfl) rfl ?_))))
      show some (yes (!((ds.length : Int) == 2)), st) = _
      rw [hl']
      rfl
  | _ => exact es_out rfl (et_orT eT)
end K02
end
section
set_option Elab.async false
set_option linter.all false
set_option maxRecDepth 100000
set_option maxHeartbeats 2000000
namespace K02
open PySem PySem.Spec L2 Sl PyProof.Rows
/-- not isinstance(row, tuple) or len(row) != 2 or .. -/
theorem row_test {j : Nat} {u : TM} {env : Slots} {st : Sto} {r : D} (p : D → D → Bool) (hj : mVar j env st = .ok (.p r) st) (hu : ∀ x y, r = .tup [x, y] → u env st = .ok (!p x y) st) :
    tOrM (tNotM (tTruth (mIsi "tuple" (mVar j)))) (tOrM (tVal (m2 (fEq true) (mCall fLen (aCons (mVar j) aNil)) (mD (.int 2)))) u) env st = .ok (!pairD p r) st := by
  have eT : tNotM (tTruth (mIsi "tuple" (mVar j))) env st = .ok (!isTup r) st := et_not (et_truth (ev_isTup hj))
  cases r with
  | tup ds =>
    refine et_orF eT ?_
    by_cases hl : ((ds.length : Int) == 2) = true
    · obtain ⟨x, y, rfl⟩ := len2 hl
      exact et_orF (et_val (ev_2 (v := yes false) (ev_call (a1 hj) (v := pI 2) rfl) rfl rfl)) (hu x y rfl)
    · have hl' : ((ds.length : Int) == 2) = false := by simpa using hl
      have e : pairD p (.tup ds) = false := by
        unfold pairD
        split
        · rename_i heq
          cases heq
          simp at hl
        · rfl
      rw [e]
      refine et_orT (et_val (ev_2 (ev_call (a1 hj) rfl) rfl ?_))
      show some (yes (!((ds.length : Int) == 2)), st) = _
      rw [hl']
      rfl
  | _ => exact et_orT eT
theorem not_any {ds : List D} (p : D → Bool) : (!ds.any fun d => !p d) = ds.all p := by
  induction ds with
  | nil => rfl
  | cons d ds ih => simp only [List.any_cons, List.all_cons, Bool.not_or, Bool.not_not, ih]
theorem pair_rowT {ds : List D} {p : D → D → Bool} (h : (ds.any fun d => !pairD p d) = false) : ds.all (pairD p) = true := by
  rw [← not_any, h]
  rfl
theorem hasT_str {ts : List T} {d : D} (h : hasT ts d = true) : isStr d = true := by cases d <;> simp_all [hasT, isStr]
theorem f_law_is_terms (ts : List T) (d : D) (st : Sto) (ok : okD d = true) (ht : ∀ t ∈ ts, nameT t = true) : F__law_is_terms [.p (.tup (ts.map .str)), .p d] st = .ok (yes (termsD ts d)) st := by
  have eT : tNotM (tTruth (mIsi "tuple" (mVar 1))) [some (.p (.tup (ts.map .str))), some (.p d), none] st = .ok (!isTup d) st := et_not (et_truth (ev_isTup rfl))
  refine f_rt ?_
  cases d with
  | tup ds =>
    have hl := (okD_tup ok).1
    have hok := (okD_tup ok).2
    have h1 := ev_none (neg := true) (ow := [2]) (mi := mIter (mVar 1)) (gm := gN 2) (i := 1) (t := tOrM (tNotM (tTruth (mIsi "tuple" (mVar 2)))) (tOrM (tVal (m2 (fEq true) (mCall fLen (aCons (mVar 2) aNil)) (mD (.int 2)))) (tOrM (tNotM (tTruth (mIsi "str" (m2 fIx (mVar 2) (mD (.int 0)))))) (tVal (m2 (fInX true) (m2 fIx (mVar 2) (mD (.int 0))) (mVar 0))))))
      (src := none) (st := st) (env := [some (.p (.tup (ts.map .str))), some (.p (.tup ds)), none]) (ds := ds) (fun r => !pairD (fun x _ => hasT ts x) r) (iter_tupD rfl) rfl (by omega) fun r hr => by
        refine ⟨_, rfl, row_test _ rfl fun x y e => ?_⟩
        subst e
        have okx := (okD_tup (hok _ hr)).2 x (by simp)
        have e1 := et_or (t := tNotM (tTruth (mIsi "str" (m2 fIx (mVar 2) (mD (.int 0)))))) (u := tVal (m2 (fInX true) (m2 fIx (mVar 2) (mD (.int 0))) (mVar 0))) (st := st) (env := [some (.p (.tup (ts.map .str))), some (.p (.tup ds)), some (.p (.tup [x, y]))]) (b := !hasT ts x)
          (et_not (et_truth (ev_isStr (ev_2 (x := .p (.tup [x, y])) (y := pI 0) rfl rfl rfl)))) fun _ => et_val (ev_2 (ev_2 (x := .p (.tup [x, y])) (y := pI 0) rfl rfl rfl) rfl (in_tup (neg := true) (ok_noDct okx)))
        refine e1.trans ?_
        cases x <;> simp [isStr, hasT]
    refine (es_guard (n0 := st.length) rfl (et_orF eT (et_val h1)) (sr := .rt (yes (ds.all (pairD fun _ y => betw (-99) 99 y && !deq y (.int 0)) && ascT (ds.map fst0))) st) fun hg => ?_).trans ?_
    · have hp := pair_rowT (by simpa using hg : (ds.any fun d => !pairD (fun x _ => hasT ts x) d) = false)
      have h2 := ev_none (neg := false) (ow := [2]) (mi := mIter (mVar 1)) (gm := gN 2) (i := 1) (t := tOrM (tNotM (tTruth (mApp 3 F__law_whole (aCons (m2 fIx (mVar 2) (mD (.int 1))) (aCons (mNeg (mD (.int 99))) (aCons (mD (.int 99)) aNil)))))) (tVal (m2 (fEq false) (m2 fIx (mVar 2) (mD (.int 1))) (mD (.int 0)))))
        (src := none) (st := st) (env := [some (.p (.tup (ts.map .str))), some (.p (.tup ds)), none]) (ds := ds) (fun r => !pairD (fun _ y => betw (-99) 99 y && !deq y (.int 0)) r) (iter_tupD rfl) rfl (by omega) fun r hr => by
          obtain ⟨x, y, rfl, _⟩ := pair_row hp r hr
          have oky := (okD_tup (hok _ hr)).2 y (by simp)
          have e1 := et_or (t := tNotM (tTruth (mApp 3 F__law_whole (aCons (m2 fIx (mVar 2) (mD (.int 1))) (aCons (mNeg (mD (.int 99))) (aCons (mD (.int 99)) aNil)))))) (u := tVal (m2 (fEq false) (m2 fIx (mVar 2) (mD (.int 1))) (mD (.int 0)))) (st := st)
            (env := [some (.p (.tup (ts.map .str))), some (.p (.tup ds)), some (.p (.tup [x, y]))]) (b := deq y (.int 0)) (et_not (et_truth (ev_app (a3 (ev_2 (x := .p (.tup [x, y])) (y := pI 1) rfl rfl rfl) rfl rfl) rfl (f_law_whole y (some (-99)) (some 99) st)))) fun hw => by
              cases y with
              | int i => exact et_val (ev_2 (ev_2 (x := .p (.tup [x, .int i])) (y := pI 1) rfl rfl rfl) rfl rfl)
              | _ => cases hw
          refine ⟨_, rfl, e1.trans ?_⟩
          cases y <;> simp [whole, pairD, betw]
      have h3 := ev_and (b := ascT (ds.map fst0)) (mb := mApp 1 F__law_ascending (aCons (mComp false [2] (mIter (mVar 1)) (gN 2) tmYes (m2 fIx (mVar 2) (mD (.int 0)))) aNil)) h2 fun _ => ev_app (a1 (firsts (iter_tupD rfl) rfl hl (fun x => rfl) fun d hd => by
          obtain ⟨x, y, rfl, hx⟩ := pair_row hp d hd
          exact ⟨x, [y], rfl, hasT_str hx⟩)) rfl (f_law_ascending false (ds.map fst0) st (by simpa using hl))
      refine es_ret rfl (h3.trans ?_)
      simp only [Bool.false_eq_true, if_false, not_any]
    · have key : termsD ts (.tup ds) = (ds.all (pairD fun x _ => hasT ts x) && (ds.all (pairD fun _ y => betw (-99) 99 y && !deq y (.int 0)) && ascT (ds.map fst0))) := by
        rw [Bool.eq_iff_iff]
        simp only [termsD, anyTermsD, allIn, Bool.and_eq_true]
        constructor
        · rintro ⟨⟨h1, h2, h3⟩, h4⟩
          refine ⟨List.all_eq_true.mpr fun r hr => ?_, h2, h3⟩
          obtain ⟨x, y, rfl, hx⟩ := pair_row h1 r hr
          have h5 := List.all_eq_true.mp h4 _ hr
          cases x with
          | str t => exact h5
          | _ => cases hx
        · rintro ⟨h1, h2, h3⟩
          refine ⟨⟨List.all_eq_true.mpr fun r hr => ?_, h2, h3⟩, List.all_eq_true.mpr fun r hr => ?_⟩
          · obtain ⟨x, y, rfl, hx⟩ := pair_row h1 r hr
            cases x with
            | str t => exact ht t (List.contains_iff_mem.mp hx)
            | _ => cases hx
          · obtain ⟨x, y, rfl, hx⟩ := pair_row h1 r hr
            cases x with
            | str t => exact hx
            | _ => cases hx
      rw [key]
      have e : (if true = true then ds.any fun r => !pairD (fun x _ => hasT ts x) r else !ds.any fun r => !pairD (fun x _ => hasT ts x) r) = !ds.all (pairD fun x _ => hasT ts x) := by
        rw [← not_any, Bool.not_not]
        rfl
      rw [e]
      cases ds.all (pairD fun x _ => hasT ts x) <;> rfl
  | _ => exact es_out rfl (et_orT eT)
end K02
end
section
set_option Elab.async false
set_option linter.all false
set_option maxRecDepth 100000
set_option maxHeartbeats 2000000
namespace K02
open PySem PySem.Spec L2 Sl PyProof.Rows
theorem f_law_fractions (d : D) (st : Sto) (ok : okD d = true) : F__law_fractions [.p d] st = .ok (yes (sharesD d)) st := by
  have eT : tNotM (tTruth (mIsi "tuple" (mVar 0))) [some (.p d), none] st = .ok (!isTup d) st := et_not (et_truth (ev_isTup rfl))
  refine f_rt ?_
  cases d with
  | tup ds =>
    have hl := (okD_tup ok).1
    have hok := (okD_tup ok).2
    have h1 := ev_none (neg := true) (ow := [1]) (mi := mIter (mVar 0)) (gm := gN 1) (i := 1) (t := tOrM (tNotM (tTruth (mIsi "tuple" (mVar 1)))) (tOrM (tVal (m2 (fEq true) (mCall fLen (aCons (mVar 1) aNil)) (mD (.int 2)))) (tOrM (tNotM (tTruth (mIsi "str" (m2 fIx (mVar 1) (mD (.int 0)))))) (tNotM (tTruth (mApp 1 F__law_is_fraction (aCons (m2 fIx (mVar 1) (mD (.int 1))) aNil)))))))
      (src := none) (st := st) (env := [some (.p (.tup ds)), none]) (ds := ds) (fun r => !pairD (fun x y => isStr x && fracD y) r) (iter_tupD rfl) rfl (by omega) fun r hr => by
        refine ⟨_, rfl, row_test _ rfl fun x y e => ?_⟩
        subst e
        have oky := (okD_tup (hok _ hr)).2 y (by simp)
        have e1 := et_or (t := tNotM (tTruth (mIsi "str" (m2 fIx (mVar 1) (mD (.int 0)))))) (u := tNotM (tTruth (mApp 1 F__law_is_fraction (aCons (m2 fIx (mVar 1) (mD (.int 1))) aNil)))) (st := st) (env := [some (.p (.tup ds)), some (.p (.tup [x, y]))]) (b := !fracD y)
          (et_not (et_truth (ev_isStr (ev_2 (x := .p (.tup [x, y])) (y := pI 0) rfl rfl rfl)))) fun _ => et_not (et_truth (ev_app (a1 (ev_2 (x := .p (.tup [x, y])) (y := pI 1) rfl rfl rfl)) rfl (f_law_is_fraction y st oky)))
        refine e1.trans ?_
        simp
    refine (es_guard (n0 := st.length) rfl (et_orF eT (et_val h1)) (sr := .rt (yes (ascT (ds.map fst0))) st) fun hg => ?_).trans ?_
    · have hp := pair_rowT (by simpa using hg : (ds.any fun d => !pairD (fun x y => isStr x && fracD y) d) = false)
      exact es_ret rfl (ev_app (a1 (firsts (iter_tupD rfl) rfl hl (fun x => rfl) fun d hd => by
          obtain ⟨x, y, rfl, hx⟩ := pair_row hp d hd
          simp only [Bool.and_eq_true] at hx
          exact ⟨x, [y], rfl, hx.1⟩)) rfl (f_law_ascending false (ds.map fst0) st (by simpa using hl)))
    · have key : sharesD (.tup ds) = (ds.all (pairD fun x y => isStr x && fracD y) && ascT (ds.map fst0)) := by
        rw [Bool.eq_iff_iff]
        simp only [sharesD, Bool.and_eq_true]
        constructor
        · rintro ⟨h1, h2, h3⟩
          refine ⟨List.all_eq_true.mpr fun r hr => ?_, h3⟩
          obtain ⟨x, y, rfl, hx⟩ := pair_row h1 r hr
          have h5 := List.all_eq_true.mp h2 _ hr
          simp only [pairD, Bool.and_eq_true]
          exact ⟨hx, h5⟩
        · rintro ⟨h1, h3⟩
          refine ⟨List.all_eq_true.mpr fun r hr => ?_, List.all_eq_true.mpr fun r hr => ?_, h3⟩
          · obtain ⟨x, y, rfl, hx⟩ := pair_row h1 r hr
            simp only [Bool.and_eq_true] at hx
            exact hx.1
          · obtain ⟨x, y, rfl, hx⟩ := pair_row h1 r hr
            simp only [Bool.and_eq_true] at hx
            exact hx.2
      rw [key]
      have e : (if true = true then ds.any fun r => !pairD (fun x y => isStr x && fracD y) r else !ds.any fun r => !pairD (fun x y => isStr x && fracD y) r) = !ds.all (pairD fun x y => isStr x && fracD y) := by
        rw [← not_any, Bool.not_not]
        rfl
      rw [e]
      cases ds.all (pairD fun x y => isStr x && fracD y) <;> rfl
  | _ => exact es_out rfl (et_orT eT)
theorem f_law_is_point (ts : List T) (d : D) (st : Sto) (ok : okD d = true) (ht : ts.length ≤ 1000) : F__law_is_point [.p (.tup (ts.map .str)), .p d] st = .ok (yes (sharesD d && namesAre ts d)) st := by
  refine f_rt (es_ret rfl (ev_and (ev_app (a1 rfl) rfl (f_law_fractions d st ok)) fun hs => ?_))
  cases d with
  | tup ds =>
    have hl := (okD_tup ok).1
    refine ev_2 (firsts (iter_tupD rfl) rfl hl (fun x => rfl) fun d hd => ?_) (ev_call (a1 rfl) (v := .p (.lst (ts.map .str))) ?_) (eq_strs _ _ st (by simpa using hl))
    · obtain ⟨t, a, b, rfl⟩ := shares_rows hs d hd
      exact ⟨_, _, rfl, rfl⟩
    · have h2 : (ts.map D.str).length ≤ sizeLine := by rw [List.length_map, sizeLine_eq]; omega
      simp only [fList, newLst, pureL_map, h2, if_true]
  | _ => cases hs
/-! likeness -/
theorem f_like_bl (n : Nat) (a b : Bool) (st : Sto) : F__law_like (n + 1) [yes a, yes b] st = .ok (yes (a == b)) st := by
  cases a <;> cases b <;> simp [F__law_like, B__law_like, bodyF, sSeq, sNil, sRet, sRetK, sIf, sAsg, sExpr, sSub, sBrk, sCt, sParN, R.then, R.bind, R.lift, R.noExc, mVar, mD, mTup, mLst, mAndV, mOrV, mNotV, mIf, mNeg, mIsi, mApp, mCall, mMeth, mMeth0, mChain, m2, mSlice, oNone, oSome, aNil, aCons, tVal, tTruth, tAndM, tOrM, tNotM, tmYes, gN, gT, gsGo, setAll, List.length_cons, List.length_nil, List.map_cons, List.map_nil, List.cons_append, List.nil_append, List.replicate, List.getElem?_cons_zero, List.getElem?_cons_succ, List.set_cons_zero, List.set_cons_succ, Nat.sub_self, Nat.zero_add, Nat.add_zero, Nat.reduceAdd, Nat.reduceSub, Nat.reduceEqDiff, if_true, if_false, if_pos, reduceIte, reduceCtorEq, Bool.not_true, Bool.not_false, truth, tyName, isTy, fIs, isD]
theorem join_one (t : T) (st : Sto) (h : t.length ≤ 100) : fJoin (.p (.str [])) [.p (.lst [.str t])] st = some (.p (.str t), st) := by
  have h2 : joinLen [] [t] ≤ tMax := by
    have : (100 : Nat) ≤ tMax := by decide
    simp [joinLen]
    omega
  simp [fJoin, viewS, viewT, viewL, strL, h2, joinT]
theorem f_like_str (n : Nat) (d : D) (t : T) (st : Sto) (ok : okD d = true) : F__law_like (n + 1) [.p d, .p (.str t)] st = .ok (yes (deq d (.str t))) st := by
  have e1 : ∀ b, fIs false (.p (.str t)) (.p b) st = (match b with | .non => some (yes false, st) | .bl _ => some (yes false, st) | _ => fIs false (.p (.str t)) (.p b) st) := fun b => by cases b <;> rfl
  cases d with
  | str u =>
    have hu : u.length ≤ 100 := by simpa [okD] using ok
    have e := join_one u st hu
    have h1 : 1 ≤ sizeLine := by rw [sizeLine_eq]; omega
    have ho : eqOk (.str u) (.str t) = true := rfl
    simp [F__law_like, B__law_like, bodyF, sSeq, sNil, sRet, sRetK, sIf, sAsg, sExpr, sSub, sBrk, sCt, sParN, R.then, R.bind, R.lift, R.noExc, mVar, mD, mTup, mLst, mAndV, mOrV, mNotV, mIf, mNeg, mIsi, mApp, mCall, mMeth, mMeth0, mChain, m2, mSlice, oNone, oSome, aNil, aCons, tVal, tTruth, tAndM, tOrM, tNotM, tmYes, gN, gT, gsGo, setAll, List.length_cons, List.length_nil, List.map_cons, List.map_nil, List.cons_append, List.nil_append, List.replicate, List.getElem?_cons_zero, List.getElem?_cons_succ, List.set_cons_zero, List.set_cons_succ, Nat.sub_self, Nat.zero_add, Nat.add_zero, Nat.reduceAdd, Nat.reduceSub, Nat.reduceEqDiff, if_true, if_false, if_pos, reduceIte, reduceCtorEq, Bool.not_true, Bool.not_false, truth, tyName, isTy, fIs, isD, isStrV, newLst, pureL, h1, e, fEq, viewD, ho, deq]
  | _ => simp [F__law_like, B__law_like, bodyF, sSeq, sNil, sRet, sRetK, sIf, sAsg, sExpr, sSub, sBrk, sCt, sParN, R.then, R.bind, R.lift, R.noExc, mVar, mD, mTup, mLst, mAndV, mOrV, mNotV, mIf, mNeg, mIsi, mApp, mCall, mMeth, mMeth0, mChain, m2, mSlice, oNone, oSome, aNil, aCons, tVal, tTruth, tAndM, tOrM, tNotM, tmYes, gN, gT, gsGo, setAll, List.length_cons, List.length_nil, List.map_cons, List.map_nil, List.cons_append, List.nil_append, List.replicate, List.getElem?_cons_zero, List.getElem?_cons_succ, List.set_cons_zero, List.set_cons_succ, Nat.sub_self, Nat.zero_add, Nat.add_zero, Nat.reduceAdd, Nat.reduceSub, Nat.reduceEqDiff, if_true, if_false, if_pos, reduceIte, reduceCtorEq, Bool.not_true, Bool.not_false, truth, tyName, isTy, fIs, isD, deq]
end K02
end
section
set_option Elab.async false
set_option linter.all false
set_option maxRecDepth 100000
set_option maxHeartbeats 2000000
namespace K02
open PySem PySem.Spec L2 Sl PyProof.Rows
noncomputable abbrev rowG1 : TM := (tOrM (tNotM (tTruth (mIsi "tuple" (mVar 1)))) (tOrM (tVal (m2 (fEq true) (mCall fLen (aCons (mVar 1) aNil)) (mD (.int 4)))) (tOrM (tNotM (tTruth (mApp 1 F__law_named (aCons (m2 fIx (mVar 1) (mD (.int 0))) aNil)))) (tOrM (tVal (m2 (fInX false) (m2 fIx (mVar 1) (mD (.int 0))) (m2 fIx (mVar 0) (mD (.int 1))))) (tNotM (tTruth (mApp 2 F__law_is_terms (aCons (m2 fIx (mVar 0) (mD (.int 1))) (aCons (m2 fIx (mVar 1) (mD (.int 1))) aNil)))))))))
noncomputable abbrev rowG2 : TM := (tOrM (tNotM (tTruth (mIsi "str" (m2 fIx (mVar 1) (mD (.int 2)))))) (tOrM (tVal (m2 (fInX true) (m2 fIx (mVar 1) (mD (.int 2))) (mTup (aCons (mD (.str ['m', 'o', 's', 't'])) (aCons (mD (.str ['j', 'u', 's', 't'])) aNil))))) (tNotM (tTruth (mApp 3 F__law_whole (aCons (m2 fIx (mVar 1) (mD (.int 3))) (aCons (mNeg (mD (.int 9999))) (aCons (mD (.int 9999)) aNil))))))))
noncomputable abbrev rowBody (n0 : Nat) : SM := sSeq (sIf rowG1 (sSeq (sRet n0 (mD (.bl false))) sNil) sNil) (sSeq (sIf rowG2 (sSeq (sRet n0 (mD (.bl false))) sNil) sNil) sNil)
theorem row_body (ts : List T) (w rs : D) (r : D) (st : Sto) (ok : okD r = true) (ht : ∀ t ∈ ts, nameT t = true) :
    rowBody st.length [some (.p (.tup [w, .tup (ts.map .str), rs])), some (.p r), none] st = bif rowD ts r then .nx [some (.p (.tup [w, .tup (ts.map .str), rs])), some (.p r), none] st else .rt (yes false) st := by
  have eT : tNotM (tTruth (mIsi "tuple" (mVar 1))) [some (.p (.tup [w, .tup (ts.map .str), rs])), some (.p r), none] st = .ok (!isTup r) st := et_not (et_truth (ev_isTup rfl))
  cases r with
  | tup ds =>
    by_cases hl : ((ds.length : Int) == 4) = true
    · obtain ⟨n, t, k, b, rfl⟩ := len4 hl
      have hok := (okD_tup ok).2
      have okn := hok n (by simp)
      have okt := hok t (by simp)
      have okk := hok k (by simp)
      have e0 : ∀ {env : Slots}, env = [some (.p (.tup [w, .tup (ts.map .str), rs])), some (.p (.tup [n, t, k, b])), none] → m2 fIx (mVar 1) (mD (.int 0)) env st = .ok (.p n) st := fun h => by
        subst h
        exact ev_2 (x := .p (.tup [n, t, k, b])) (y := pI 0) rfl rfl rfl
      have eN : m2 fIx (mVar 0) (mD (.int 1)) [some (.p (.tup [w, .tup (ts.map .str), rs])), some (.p (.tup [n, t, k, b])), none] st = .ok (.p (.tup (ts.map .str))) st := ev_2 (x := .p (.tup [w, .tup (ts.map .str), rs])) (y := pI 1) rfl rfl rfl
      have g1 : rowG1 [some (.p (.tup [w, .tup (ts.map .str), rs])), some (.p (.tup [n, t, k, b])), none] st = .ok (!nameD n || (hasT ts n || !termsD ts t)) st :=
        et_orF eT (et_orF (et_val (ev_2 (v := yes false) (ev_call (a1 rfl) (v := pI 4) rfl) rfl rfl)) (et_or (et_not (et_truth (ev_app (a1 (e0 rfl)) rfl (f_law_named n st)))) fun _ => et_or (et_val (ev_2 (e0 rfl) eN (in_tup (neg := false) (ok_noDct okn)))) fun _ => et_not (et_truth (ev_app (a2 eN (ev_2 (x := .p (.tup [n, t, k, b])) (y := pI 1) rfl rfl rfl)) rfl (f_law_is_terms ts t st okt ht)))))
      have g2 : rowG2 [some (.p (.tup [w, .tup (ts.map .str), rs])), some (.p (.tup [n, t, k, b])), none] st = .ok (!isStr k || (!hasT [most, just] k || !whole (some (-9999)) (some 9999) b)) st :=
        et_or (et_not (et_truth (ev_isStr (ev_2 (x := .p (.tup [n, t, k, b])) (y := pI 2) rfl rfl rfl)))) fun _ => et_or (et_val (ev_2 (ev_2 (x := .p (.tup [n, t, k, b])) (y := pI 2) rfl rfl rfl) (ev_tup (ds := [.str most, .str just]) rfl (by simp)) (in_tup (neg := true) (ts := [most, just]) (ok_noDct okk)))) fun _ =>
          et_not (et_truth (ev_app (a3 (ev_2 (x := .p (.tup [n, t, k, b])) (y := pI 3) rfl rfl rfl) rfl rfl) rfl (f_law_whole b (some (-9999)) (some 9999) st)))
      refine (es_guard (n0 := st.length) rfl g1 (sr := bif !isStr k || (!hasT [most, just] k || !whole (some (-9999)) (some 9999) b) then .rt (yes false) st else .nx [some (.p (.tup [w, .tup (ts.map .str), rs])), some (.p (.tup [n, t, k, b])), none] st) fun _ => es_guard rfl g2 fun _ => rfl).trans ?_
      have ew : whole (some (-9999)) (some 9999) b = betw (-9999) 9999 b := by cases b <;> rfl
      have ek : (isStr k && hasT [most, just] k) = kindD k := by cases k <;> rfl
      rw [ew, show rowD ts (.tup [n, t, k, b]) = (nameD n && (!hasT ts n && (termsD ts t && (kindD k && betw (-9999) 9999 b)))) from rfl, ← ek]
      cases nameD n <;> cases hasT ts n <;> cases termsD ts t <;> cases isStr k <;> cases hasT [most, just] k <;> cases betw (-9999) 9999 b <;> rfl
    · have hl' : ((ds.length : Int) == 4) = false := by simpa using hl
      rw [rowD_no hl']
      refine es_out rfl (et_orF eT (et_orT (et_val (ev_2 (ev_call (a1 rfl) rfl) rfl ?_))))
      show some (yes (!((ds.length : Int) == 4)), st) = _
      rw [hl']
      rfl
  | _ => exact es_out rfl (et_orT eT)
theorem row_loop (ts : List T) (w rs : D) (st : Sto) (ht : ∀ t ∈ ts, nameT t = true) (all : List Val) : ∀ (rest : List D) (e1 : Option Val), (∀ r ∈ rest, okD r = true) → ∃ e1', forGo none all (gN 1) (rowBody st.length) (rest.map .p) [some (.p (.tup [w, .tup (ts.map .str), rs])), e1, none] st =
    bif rest.all (rowD ts) then .nx [some (.p (.tup [w, .tup (ts.map .str), rs])), e1', none] st else .rt (yes false) st
  | [], e1, _ => ⟨e1, by simp [forGo, watch]⟩
  | r :: rest, e1, h => by
    obtain ⟨e1', e⟩ := row_loop ts w rs st ht all rest (some (.p r)) fun x hx => h x (List.mem_cons_of_mem _ hx)
    refine ⟨e1', ?_⟩
    simp only [List.map_cons, forGo, watch, if_true, gN, List.set_cons_succ, List.set_cons_zero]
    rw [row_body ts w rs r st (h r (List.mem_cons_self ..)) ht]
    simp only [List.all_cons]
    cases rowD ts r with
    | true => exact e
    | false => rfl
end K02
end
section
set_option Elab.async false
set_option linter.all false
set_option maxRecDepth 100000
set_option maxHeartbeats 2000000
namespace K02
open PySem PySem.Spec L2 Sl PyProof.Rows
theorem gt_len {n k : Nat} : decide ((k : Int) < (n : Int)) = !decide (n ≤ k) := by
  by_cases q : n ≤ k
  · rw [decide_eq_true q, decide_eq_false (by omega)]
    rfl
  · rw [decide_eq_false q, decide_eq_true (by omega)]
    rfl
theorem f_law_is_rows (d : D) (st : Sto) (ok : okD d = true) : F__law_is_rows [.p d] st = .ok (yes (rowsD d)) st := by
  have eT : tNotM (tTruth (mIsi "tuple" (mVar 0))) [some (.p d), none, none] st = .ok (!isTup d) st := et_not (et_truth (ev_isTup rfl))
  refine f_rt ?_
  cases d with
  | tup ds =>
    by_cases hl : ((ds.length : Int) == 3) = true
    · obtain ⟨w, ns, rs, rfl⟩ := len3 hl
      have hok := (okD_tup ok).2
      have okw := hok w (by simp)
      have okn := hok ns (by simp)
      have okr := hok rs (by simp)
      have e0 : m2 fIx (mVar 0) (mD (.int 0)) [some (.p (.tup [w, ns, rs])), none, none] st = .ok (.p w) st := ev_2 (x := .p (.tup [w, ns, rs])) (y := pI 0) rfl rfl rfl
      have e1 : ∀ e, m2 fIx (mVar 0) (mD (.int 1)) [some (.p (.tup [w, ns, rs])), e, none] st = .ok (.p ns) st := fun e => ev_2 (x := .p (.tup [w, ns, rs])) (y := pI 1) rfl rfl rfl
      have e2 : ∀ e, m2 fIx (mVar 0) (mD (.int 2)) [some (.p (.tup [w, ns, rs])), e, none] st = .ok (.p rs) st := fun e => ev_2 (x := .p (.tup [w, ns, rs])) (y := pI 2) rfl rfl rfl
      refine (es_guard (n0 := st.length) (b := !isW w || (!isTup ns || !isTup rs)) rfl (et_orF eT (et_orF (et_val (ev_2 (v := yes false) (ev_call (a1 rfl) (v := pI 3) rfl) rfl rfl)) (et_or (et_not (et_truth (ev_app (a2 e0 rfl) rfl (f_like_str 19 w ['r', 'o', 'w', 's'] st okw)))) fun _ => et_or (et_not (et_truth (ev_isTup (e1 none)))) fun _ => et_not (et_truth (ev_isTup (e2 none)))))) (sr := .rt (yes (namesD ns && rows2 (tsOf ns) rs)) st) fun hg => ?_).trans ?_
      · have hn : isTup ns = true := by
          cases q : isTup ns with
          | true => rfl
          | false => simp [q] at hg
        have hr : isTup rs = true := by
          cases q : isTup rs with
          | true => rfl
          | false => simp [q] at hg
        obtain ⟨nds, rfl⟩ := isTup_len hn
        obtain ⟨rds, rfl⟩ := isTup_len hr
        have hnl := (okD_tup okn).1
        have hrl := (okD_tup okr).1
        have hrok := (okD_tup okr).2
        have hnone := ev_none (neg := true) (ow := [2]) (mi := mIter (m2 fIx (mVar 0) (mD (.int 1)))) (gm := gN 2) (i := 1) (t := tNotM (tTruth (mApp 1 F__law_named (aCons (mVar 2) aNil)))) (src := none) (st := st) (env := [some (.p (.tup [w, .tup nds, .tup rds])), none, none]) (ds := nds) (fun r => !nameD r) (iter_tupD (e1 none)) rfl (by omega) fun r hr => ⟨_, rfl, et_not (et_truth (ev_app (a1 rfl) rfl (f_law_named r st)))⟩
        have hany : (if true = true then nds.any fun r => !nameD r else !nds.any fun r => !nameD r) = !nds.all nameD := by
          rw [← not_any, Bool.not_not]
          rfl
        rw [hany] at hnone
        refine (es_guard (n0 := st.length) (b := decide (((8 : Nat) : Int) < (nds.length : Nat)) || (decide (((20 : Nat) : Int) < (rds.length : Nat)) || (!nds.all nameD || !ascT (nds.map strOf)))) rfl (et_or (et_val (ev_2 (ev_call (a1 (e1 none)) (v := pI nds.length) rfl) rfl rfl)) fun _ => et_or (et_val (ev_2 (ev_call (a1 (e2 none)) (v := pI rds.length) rfl) rfl rfl)) fun _ => et_or (et_val hnone) fun ha => et_not (et_truth (ev_app (a1 (e1 none)) rfl (by
            have hall : nds.all nameD = true := by simpa using ha
            have e := all_str (all_imp (fun d _ => nameD_str) hall)
            have := f_law_ascending true (nds.map strOf) st (by simpa using hnl)
            rw [← e] at this
            exact this)))) (sr := .rt (yes (rds.all (rowD (nds.map strOf)) && ascT (rds.map fst0))) st) fun hg2 => ?_).trans ?_
        · rw [gt_len, gt_len] at hg2
          have hall : nds.all nameD = true := by
            cases q : nds.all nameD with
            | true => rfl
            | false =>
              rw [q] at hg2
              have := (Bool.or_eq_false_iff.mp (Bool.or_eq_false_iff.mp (Bool.or_eq_false_iff.mp hg2).2).2).1
              cases this
          have en := all_str (all_imp (fun d _ => nameD_str) hall)
          have ht : ∀ t ∈ nds.map strOf, nameT t = true := fun t htm => by
            obtain ⟨d, hd, rfl⟩ := List.mem_map.mp htm
            have := List.all_eq_true.mp hall d hd
            cases d with
            | str t => exact this
            | _ => cases this
          obtain ⟨e1', el⟩ := row_loop (nds.map strOf) w (.tup rds) st ht (rds.map .p) rds none hrok
          rw [← en] at el
          have ef : sFor (mIter (m2 fIx (mVar 0) (mD (.int 2)))) (gN 1) (rowBody st.length) [some (.p (.tup [w, .tup nds, .tup rds])), none, none] st = bif rds.all (rowD (nds.map strOf)) then .nx [some (.p (.tup [w, .tup nds, .tup rds])), e1', none] st else .rt (yes false) st := by
            unfold sFor
            rw [iter_tupD (e2 none)]
            exact el
          cases hall2 : rds.all (rowD (nds.map strOf)) with
          | false =>
            rw [hall2] at ef
            exact seq_rt ef
          | true =>
            rw [hall2] at ef
            refine (seq_nx ef).trans ?_
            exact es_ret rfl (ev_app (a1 (firsts (iter_tupD (e2 e1')) rfl hrl (fun x => rfl) fun r h2 => rowD_form (List.all_eq_true.mp hall2 r h2))) rfl (f_law_ascending false (rds.map fst0) st (by simpa using hrl)))
        · rw [gt_len, gt_len]
          show _ = SR.rt (yes ((decide (nds.length ≤ 8) && (nds.all nameD && ascT (nds.map strOf))) && (decide (rds.length ≤ 20) && (rds.all (rowD (nds.map strOf)) && ascT (rds.map fst0))))) st
          cases decide (nds.length ≤ 8) <;> cases decide (rds.length ≤ 20) <;> cases nds.all nameD <;> cases ascT (nds.map strOf) <;> rfl
      · have key : rowsD (.tup [w, ns, rs]) = (isW w && (namesD ns && rows2 (tsOf ns) rs)) := rfl
        rw [key]
        have k1 : isTup ns = false → namesD ns = false := fun h => by cases ns <;> first | rfl | cases h
        have k2 : isTup rs = false → rows2 (tsOf ns) rs = false := fun h => by cases rs <;> first | rfl | cases h
        cases isW w
        · rfl
        · cases h1 : isTup ns
          · rw [k1 h1]; rfl
          · cases h2 : isTup rs
            · rw [k2 h2, Bool.and_false]; rfl
            · rfl
    · have hl' : ((ds.length : Int) == 3) = false := by simpa using hl
      rw [rowsD_no hl']
      refine es_out rfl (et_orF eT (et_orT (et_val (ev_2 (ev_call (a1 rfl) rfl) rfl ?_))))
      show some (yes (!((ds.length : Int) == 3)), st) = _
      rw [hl']
      rfl
  | _ => exact es_out rfl (et_orT eT)
end K02
end
section
set_option Elab.async false
set_option linter.all false
set_option maxRecDepth 100000
set_option maxHeartbeats 2000000
namespace K02
open PySem PySem.Spec L2 Sl PyProof.Rows
/-- there, and not 0 -/
def inK0 (rs : List Row) : D → Bool
  | .tup [.str t, .tup (.int a :: _)] => hasK (.inr t) (kdk rs).1 && !deq (.int a) (.int 0)
  | _ => false
def badSign (rs : List Row) : D → Bool
  | .tup [.str t, .tup (.int a :: _)] => decide (a < 0) && (match dfind (.inr t) (kdk rs).1 (kdk rs).2 with
    | some d => deq d (.str most)
    | none => false)
  | _ => false
theorem sign_same {rs : List Row} (hr : ∀ r ∈ rs, r.kind = most ∨ r.kind = just) {ds : List D} (hs : sharesD (.tup ds) = true) : (ds.all (inK0 rs) && !ds.any (badSign rs)) = (ds.all (inK rs) && ds.all (signOk rs)) := by
  have hb : (!ds.any (badSign rs)) = ds.all fun d => !badSign rs d := by
    rw [← not_any]
    simp
  rw [hb, Bool.eq_iff_iff]
  simp only [Bool.and_eq_true, List.all_eq_true]
  have mj : deq (.str just) (.str just) = true := by decide
  have mm : deq (.str most) (.str most) = true := by decide
  have m1 : deq (.str most) (.str just) = false := by decide
  have m2 : deq (.str just) (.str most) = false := by decide
  have row : ∀ d ∈ ds, (inK0 rs d = true ∧ (!badSign rs d) = true) ↔ (inK rs d = true ∧ signOk rs d = true) := fun d hd => by
    obtain ⟨t, a, b, rfl⟩ := shares_rows hs d hd
    simp only [inK0, inK, badSign, signOk]
    cases hk : hasK (.inr t) (kdk rs).1 with
    | false => simp
    | true =>
      obtain ⟨k, hk2, ef⟩ := kdk_ok hr hk
      rw [ef]
      have e0 : deq (.int a) (.int 0) = decide (a = 0) := by
        by_cases h : a = 0
        · subst h; rfl
        · rw [decide_eq_false h]; simpa [deq] using h
      have tri : (a < 0 ∧ ¬ a = 0 ∧ ¬ 0 < a) ∨ (¬ a < 0 ∧ a = 0 ∧ ¬ 0 < a) ∨ (¬ a < 0 ∧ ¬ a = 0 ∧ 0 < a) := by omega
      rcases hk2 with rfl | rfl
      · simp only [mm, m1, e0]
        rcases tri with ⟨t1, t2, t3⟩ | ⟨t1, t2, t3⟩ | ⟨t1, t2, t3⟩ <;> simp only [t1, t2, t3] <;> simp
      · simp only [mj, m2, e0]
        rcases tri with ⟨t1, t2, t3⟩ | ⟨t1, t2, t3⟩ | ⟨t1, t2, t3⟩ <;> simp only [t1, t2, t3] <;> simp
  constructor
  · rintro ⟨h1, h2⟩
    exact ⟨fun d hd => ((row d hd).mp ⟨h1 d hd, h2 d hd⟩).1, fun d hd => ((row d hd).mp ⟨h1 d hd, h2 d hd⟩).2⟩
  · rintro ⟨h1, h2⟩
    exact ⟨fun d hd => ((row d hd).mpr ⟨h1 d hd, h2 d hd⟩).1, fun d hd => ((row d hd).mpr ⟨h1 d hd, h2 d hd⟩).2⟩
theorem f_law_is_factors (names : List T) (rs : List Row) (d : D) (st : Sto) (ok : okD d = true) (hr : ∀ r ∈ rs, r.kind = most ∨ r.kind = just) (hl : rs.length ≤ 1000) :
    F__law_is_factors [.p (rowsOf names rs), .p d] st = .ok (yes (sharesD d && (all2 (inK rs) d && all2 (signOk rs) d))) st := by
  refine f_rt ?_
  have ep := comp_D (ow := [3]) (mi := mIter (m2 fIx (mVar 0) (mD (.int 2)))) (gm := gN 3) (mt := tmYes) (me := mTup (aCons (m2 fIx (mVar 3) (mD (.int 0))) (aCons (m2 fIx (mVar 3) (mD (.int 2))) aNil))) (env := [some (.p (rowsOf names rs)), some (.p d), none, none]) (st := st) (src := none) (ds := rs.map Row.d)
    (fun _ => true) (fun d => .tup [(match d with | .tup (x :: _) => x | _ => .non), (match d with | .tup [_, _, k, _] => k | _ => .non)]) (iter_tupD (ev_2 (x := .p (rowsOf names rs)) (y := pI 2) rfl rfl rfl)) rfl (by rw [List.length_map, sizeLine_eq]; omega) fun d hd => by
      obtain ⟨r, _, rfl⟩ := List.mem_map.mp hd
      exact ⟨_, rfl, rfl, fun _ => ev_tup (ds := [.str r.name, .str r.kind]) (a2 (ev_2 (x := .p r.d) (y := pI 0) rfl rfl rfl) (ev_2 (x := .p r.d) (y := pI 2) rfl rfl rfl)) (by simp)⟩
  rw [filter_yes, List.map_map] at ep
  have ed := fDict_D (st := st) (ds := rs.map fun r => D.tup [.str r.name, .str r.kind]) (fun d => match d with | .tup (.str t :: _) => .inr t | _ => .inl 0) (fun d => match d with | .tup (x :: _) => x | _ => .non) (fun d => match d with | .tup [_, k] => k | _ => .non) fun d hd => by
    obtain ⟨r, _, rfl⟩ := List.mem_map.mp hd
    rfl
  rw [List.map_map, List.map_map] at ed
  refine es_asg (v := .p (.dct (kdk rs).1 (kdk rs).2)) (ev_call (a1 ep) ed) rfl ?_
  cases d with
  | tup ds =>
    have hld := (okD_tup ok).1
    have h1 : sharesD (.tup ds) = true → m2 (fEq true) (mComp false [3] (mIter (mVar 1)) (gN 3) (tOrM (tVal (m2 (fInX true) (m2 fIx (mVar 3) (mD (.int 0))) (mVar 2))) (tVal (m2 (fEq false) (m2 fIx (m2 fIx (mVar 3) (mD (.int 1))) (mD (.int 0))) (mD (.int 0))))) (mD (.int 1))) (mLst false aNil)
        [some (.p (rowsOf names rs)), some (.p (.tup ds)), some (.p (.dct (kdk rs).1 (kdk rs).2)), none] st = .ok (yes (!ds.all (inK0 rs))) st := fun hs => by
      have e := ev_none (neg := true) (ow := [3]) (mi := mIter (mVar 1)) (gm := gN 3) (i := 1) (t := tOrM (tVal (m2 (fInX true) (m2 fIx (mVar 3) (mD (.int 0))) (mVar 2))) (tVal (m2 (fEq false) (m2 fIx (m2 fIx (mVar 3) (mD (.int 1))) (mD (.int 0))) (mD (.int 0))))) (src := none) (st := st)
        (env := [some (.p (rowsOf names rs)), some (.p (.tup ds)), some (.p (.dct (kdk rs).1 (kdk rs).2)), none]) (ds := ds) (fun r => !inK0 rs r) (iter_tupD rfl) rfl (by omega) fun d hd => by
          obtain ⟨t, a, b, rfl⟩ := shares_rows hs d hd
          refine ⟨_, rfl, (et_or (et_val (ev_2 (x := .p (.str t)) (y := .p (.dct (kdk rs).1 (kdk rs).2)) (ev_2 (x := .p (.tup [.str t, .tup [.int a, .int b]])) (y := pI 0) rfl rfl rfl) rfl (in_dct (neg := true)))) fun _ => et_val (ev_2 (x := pI a) (ev_2 (x := .p (.tup [.int a, .int b])) (y := pI 0) (ev_2 (x := .p (.tup [.str t, .tup [.int a, .int b]])) (y := pI 1) rfl rfl rfl) rfl rfl) rfl rfl)).trans ?_⟩
          simp [inK0]
      refine e.trans ?_
      have : (if true = true then ds.any fun r => !inK0 rs r else !ds.any fun r => !inK0 rs r) = !ds.all (inK0 rs) := by
        rw [← not_any, Bool.not_not]
        rfl
      rw [this]
    refine (es_guard (n0 := st.length) (b := !sharesD (.tup ds) || !ds.all (inK0 rs)) rfl (et_or (et_not (et_truth (ev_app (a1 rfl) rfl (f_law_fractions _ st ok)))) fun hs => et_val (h1 (by simpa using hs))) (sr := .rt (yes (!ds.any (badSign rs))) st) fun hg => ?_).trans ?_
    · have hs : sharesD (.tup ds) = true := by
        cases q : sharesD (.tup ds) with
        | true => rfl
        | false => simp [q] at hg
      have hk : ds.all (inK0 rs) = true := by
        cases q : ds.all (inK0 rs) with
        | true => rfl
        | false => rw [q] at hg; simp at hg
      refine es_ret rfl ?_
      have e := ev_none (neg := false) (ow := [3]) (mi := mIter (mVar 1)) (gm := gN 3) (i := 1) (t := tAndM (tVal (m2 fLt (m2 fIx (m2 fIx (mVar 3) (mD (.int 1))) (mD (.int 0))) (mD (.int 0)))) (tVal (m2 (fEq false) (m2 fIx (mVar 2) (m2 fIx (mVar 3) (mD (.int 0)))) (mD (.str most))))) (src := none) (st := st)
        (env := [some (.p (rowsOf names rs)), some (.p (.tup ds)), some (.p (.dct (kdk rs).1 (kdk rs).2)), none]) (ds := ds) (badSign rs) (iter_tupD rfl) rfl (by omega) fun d hd => by
          obtain ⟨t, a, b, rfl⟩ := shares_rows hs d hd
          have h0 := List.all_eq_true.mp hk _ hd
          simp only [inK0, Bool.and_eq_true] at h0
          obtain ⟨k, hk2, ef⟩ := kdk_ok hr h0.1
          refine ⟨_, rfl, (et_and (et_val (ev_2 (x := pI a) (ev_2 (x := .p (.tup [.int a, .int b])) (y := pI 0) (ev_2 (x := .p (.tup [.str t, .tup [.int a, .int b]])) (y := pI 1) rfl rfl rfl) rfl rfl) rfl rfl)) fun _ => et_val (ev_2 (x := .p (.str k)) (ev_2 (x := .p (.dct (kdk rs).1 (kdk rs).2)) (y := .p (.str t)) rfl (ev_2 (x := .p (.tup [.str t, .tup [.int a, .int b]])) (y := pI 0) rfl rfl rfl) (ix_dct ef)) rfl (v := yes (deq (.str k) (.str most))) rfl)).trans ?_⟩
          simp only [badSign, ef]
      exact e
    · rw [show all2 (inK rs) (.tup ds) = ds.all (inK rs) from rfl, show all2 (signOk rs) (.tup ds) = ds.all (signOk rs) from rfl]
      cases hs : sharesD (.tup ds) with
      | false => rfl
      | true =>
        rw [← sign_same hr hs]
        cases ds.all (inK0 rs) <;> rfl
  | _ =>
    exact es_out rfl (et_orT (et_not (et_truth (ev_app (a1 rfl) rfl (f_law_fractions _ st ok)))))
end K02
end
section
set_option Elab.async false
set_option linter.all false
set_option maxRecDepth 100000
set_option maxHeartbeats 2000000
namespace K02
open PySem PySem.Spec L2 Sl PyProof.Rows
/-! ### draws in sequence: the store is o, the box, the rest -/
/-- r gives v, a value with P, after at most c draws -/
def Dw (c : Nat) (o : SObj) (ds : List Int) (k : Nat) (rest : Sto) (P : Val → Prop) (r : R Val) : Prop := ∃ v j, j ≤ c ∧ r = .ok v (o :: Bx ds (k + j) :: rest) ∧ P v
/-- [.. for x in xs if ..] with draws -/
theorem comp_draw {ow : List Nat} {mi : IM} {gm : GM} {mt : TM} {me : EM} {env : Slots} {o : SObj} {ds : List Int} {k : Nat} {rest : Sto} {xs : List D} (c : Nat) (P : D → Prop) (hi : mi env (o :: Bx ds k :: rest) = .ok (xs.map .p, none) (o :: Bx ds k :: rest)) (hl : xs.length ≤ 1000)
    (h : ∀ x ∈ xs, ∀ j, j + c ≤ c * xs.length → ∃ env1, gm (.p x) (wipeE env ow) = some env1 ∧ ∃ b j1, j1 ≤ c ∧ mt env1 (o :: Bx ds (k + j) :: rest) = .ok b (o :: Bx ds (k + j + j1) :: rest) ∧
      (b = true → ∃ y j2, j1 + j2 ≤ c ∧ me env1 (o :: Bx ds (k + j + j1) :: rest) = .ok (.p y) (o :: Bx ds (k + j + j1 + j2) :: rest) ∧ P y)) :
    ∃ ys j, j ≤ c * xs.length ∧ mComp false ow mi gm mt me env (o :: Bx ds k :: rest) = .ok (.p (.lst ys)) (o :: Bx ds (k + j) :: rest) ∧ ys.length ≤ xs.length ∧ ∀ y ∈ ys, P y := by
  obtain ⟨ys, st', e, j, ys', hj, e1, e2, hlen, hP⟩ := lcGo_inv (src := none) (all := xs.map .p) (gm := gm) (mt := mt) (me := me) (env := wipeE env ow) (st := o :: Bx ds k :: rest)
    (fun i acc st => ∃ j ys, j ≤ c * i ∧ st = o :: Bx ds (k + j) :: rest ∧ acc = ys.map .p ∧ ys.length ≤ i ∧ ∀ y ∈ ys, P y) ⟨0, [], by omega, rfl, rfl, Nat.le_refl _, fun y hy => nomatch hy⟩ (fun i x acc st hx ⟨j, ys, hj, e1, e2, hlen, hP⟩ => by
      subst e1 e2
      have hi2 : i < xs.length := by
        have := (List.getElem?_eq_some_iff.mp hx).1
        simpa using this
      have hxm : ∃ d ∈ xs, x = .p d := by
        have := List.mem_of_getElem? hx
        obtain ⟨d, hd, rfl⟩ := List.mem_map.mp this
        exact ⟨d, hd, rfl⟩
      obtain ⟨d, hd, rfl⟩ := hxm
      have hbud : j + c ≤ c * xs.length := by
        have : c * (i + 1) ≤ c * xs.length := Nat.mul_le_mul_left c hi2
        rw [Nat.mul_succ] at this
        omega
      obtain ⟨env1, hg, b, j1, hj1, ht, hb⟩ := h d hd j hbud
      refine ⟨rfl, env1, hg, b, _, ht, fun _ => ⟨j + j1, ys, by rw [Nat.mul_succ]; omega, by rw [Nat.add_assoc], rfl, by omega, hP⟩, fun hbt => ?_⟩
      obtain ⟨y, j2, hj2, he, hy⟩ := hb hbt
      refine ⟨.p y, _, he, j + j1 + j2, ys ++ [y], by rw [Nat.mul_succ]; omega, by rw [Nat.add_assoc, Nat.add_assoc, Nat.add_assoc], by simp, by simp; omega, fun z hz => ?_⟩
      rcases List.mem_append.mp hz with hz | hz
      · exact hP z hz
      · rw [List.mem_singleton.mp hz]; exact hy) fun acc st _ => rfl
  subst e1 e2
  refine ⟨ys', j, by simpa using hj, ?_, by simpa using hlen, hP⟩
  unfold mComp
  rw [hi]
  simp only [R.bind]
  rw [e]
  simp only [R.noExc, newLst, pureL_map]
  rw [if_pos (Nat.le_trans (by simpa using hlen : ys'.length ≤ xs.length) (Nat.le_trans hl (by rw [sizeLine_eq]; omega)))]
  rfl
end K02
end
section
set_option Elab.async false
set_option linter.all false
set_option maxRecDepth 100000
set_option maxHeartbeats 2000000
namespace K02
open PySem PySem.Spec L2 Sl PyProof.Rows
/-- a pair of a name and a number -/
def TermP (ts : List T) (m : Nat) (y : D) : Prop := ∃ t i, y = .tup [.str t, .int i] ∧ t ∈ ts ∧ i.natAbs ≤ m
theorem f_terms (o : SObj) (ds : List Int) (hd : Dg ds) (rest : Sto) (k : Nat) (ts : List T) (m : Nat) (hm : m ≤ 1000) (hl : ts.length ≤ 100) (hk : k + 1000 < 1000000000) :
    Dw 100 o ds k rest (fun v => ∃ ys, v = .p (.tup ys) ∧ ys.length ≤ ts.length ∧ ∀ y ∈ ys, TermP ts m y) (F__law_terms [.r 1, .p (.tup (ts.map .str)), pI m] (o :: Bx ds k :: rest)) := by
  obtain ⟨ys, j, hj, e, hlen, hP⟩ := comp_draw (ow := [4]) (mi := mIter (mVar 1)) (gm := gN 4) (mt := tmYes) (me := mTup (aCons (mVar 4) (aCons (m2 fSub (mApp 2 F__law_draw (aCons (mVar 0) (aCons (m2 (fAdd false) (m2 (fMul false) (mD (.int 2)) (mVar 2)) (mD (.int 1))) aNil))) (mVar 2)) aNil)))
    (env := [some (.r 1), some (.p (.tup (ts.map .str))), some (pI m), none, none, none]) (o := o) (ds := ds) (k := k) (rest := rest) (xs := ts.map .str) 1 (TermP ts m) (iter_tupD rfl) (by simpa using Nat.le_trans hl (by omega)) fun x hx j hj => by
      obtain ⟨t, ht, rfl⟩ := List.mem_map.mp hx
      rw [List.length_map] at hj
      obtain ⟨v, hv, ed⟩ := f_draw o ds hd rest (k + j) (2 * m + 1) (by omega) (by omega)
      refine ⟨_, rfl, true, 0, by omega, rfl, fun _ => ⟨.tup [.str t, .int ((v : Int) - m)], 1, by omega, ?_, t, _, rfl, ht, by omega⟩⟩
      have hmul : mulOk 2 (m : Int) = true := mulOk_small (by decide) (by omega)
      have ha : aCons (mVar 0) (aCons (m2 (fAdd false) (m2 (fMul false) (mD (.int 2)) (mVar 2)) (mD (.int 1))) aNil) [some (.r 1), some (.p (.tup (ts.map .str))), some (pI m), none, some (.p (.str t)), none] (o :: Bx ds (k + j) :: rest) = .ok [.r 1, pI (2 * m + 1 : Nat)] (o :: Bx ds (k + j) :: rest) :=
        a2 rfl (ev_2 (x := pI (2 * m)) (y := pI 1) (ev_2 (x := pI 2) (y := pI m) rfl rfl (by simp [fMul, hmul])) rfl (by simp [fAdd]))
      exact sv_tup (ds := [.str t, .int ((v : Int) - m)]) (sa rfl (sa (sv_2 (sv_app ha rfl ed) rfl rfl) rfl)) (by simp)
  rw [List.length_map] at hj hlen
  have e2 := comp_D (ow := [5]) (mi := mIter (mVar 3)) (gm := gN 5) (mt := tVal (m2 (fEq true) (m2 fIx (mVar 5) (mD (.int 1))) (mD (.int 0)))) (me := mVar 5) (env := [some (.r 1), some (.p (.tup (ts.map .str))), some (pI m), some (.p (.lst ys)), none, none]) (st := o :: Bx ds (k + j) :: rest) (src := none) (ds := ys)
    (fun d => match d with | .tup [_, y] => !deq y (.int 0) | _ => false) (fun d => d) (iter_lstD rfl) rfl (by rw [sizeLine_eq]; omega) fun d hd2 => by
      obtain ⟨t, i, rfl, _⟩ := hP d hd2
      exact ⟨_, rfl, et_val (ev_2 (ev_2 (x := .p (.tup [.str t, .int i])) (y := pI 1) rfl rfl rfl) rfl rfl), fun _ => rfl⟩
  rw [List.map_id'] at e2
  refine ⟨.p (.tup (ys.filter fun d => match d with | .tup [_, y] => !deq y (.int 0) | _ => false)), j, by omega, ?_, _, rfl, Nat.le_trans (List.length_filter_le _ _) hlen, fun y hy => hP y (List.mem_filter.mp hy).1⟩
  have hfl : (ys.filter fun d => match d with | .tup [_, y] => !deq y (.int 0) | _ => false).length ≤ sizeLine := Nat.le_trans (List.length_filter_le _ _) (by rw [sizeLine_eq]; omega)
  refine f_rt (es_asg e rfl (es_ret (by simp) (ev_call (a1 e2) ?_)))
  simp only [fTuple, viewL, newTup, pureL_map]
  rw [if_pos hfl]
end K02
end
section
set_option Elab.async false
set_option linter.all false
set_option maxRecDepth 100000
set_option maxHeartbeats 2000000
namespace K02
open PySem PySem.Spec L2 Sl PyProof.Rows
def PointP (ts : List T) (y : D) : Prop := ∃ t a b, y = .tup [.str t, .tup [.int a, .int b]] ∧ t ∈ ts ∧ a.natAbs ≤ 1000 ∧ b.natAbs ≤ 1000
theorem fdiv_le (n : Int) (g : Nat) : (n.fdiv g).natAbs ≤ n.natAbs := by
  rw [Int.fdiv_eq_ediv_of_nonneg _ (by omega)]
  exact Int.natAbs_ediv_le_natAbs _ _
theorem f_point (o : SObj) (ds : List Int) (hd : Dg ds) (rest : Sto) (k : Nat) (ts : List T) (hl : ts.length ≤ 100) (hk : k + 1000 < 1000000000) :
    Dw 200 o ds k rest (fun v => ∃ ys, v = .p (.tup ys) ∧ ys.length ≤ ts.length ∧ ∀ y ∈ ys, PointP ts y) (F__law_drawn_point [.r 1, .p (.tup (ts.map .str))] (o :: Bx ds k :: rest)) := by
  obtain ⟨ys, j, hj, e, hlen, hP⟩ := comp_draw (ow := [2]) (mi := mIter (mVar 1)) (gm := gN 2) (mt := tmYes) (me := mTup (aCons (mVar 2) (aCons (mApp 2 F__law_low (aCons (m2 fSub (mApp 2 F__law_draw (aCons (mVar 0) (aCons (mD (.int 13)) aNil))) (mD (.int 5))) (aCons (m2 (fAdd false) (mD (.int 1)) (mApp 2 F__law_draw (aCons (mVar 0) (aCons (mD (.int 3)) aNil)))) aNil))) aNil)))
    (env := [some (.r 1), some (.p (.tup (ts.map .str))), none]) (o := o) (ds := ds) (k := k) (rest := rest) (xs := ts.map .str) 2 (PointP ts) (iter_tupD rfl) (by simpa using Nat.le_trans hl (by omega)) fun x hx j hj => by
      obtain ⟨t, ht, rfl⟩ := List.mem_map.mp hx
      rw [List.length_map] at hj
      obtain ⟨v, hv, ed⟩ := f_draw o ds hd rest (k + j) 13 (by omega) (by omega)
      obtain ⟨u, hu, ed2⟩ := f_draw o ds hd rest (k + j + 1) 3 (by omega) (by omega)
      refine ⟨_, rfl, true, 0, by omega, rfl, fun _ => ⟨_, 2, by omega, ?_, t, _, _, rfl, ht, Nat.le_trans (fdiv_le ((v : Int) - 5) (Int.gcd ((v : Int) - 5) (1 + u))) (by omega), Nat.le_trans (fdiv_le (1 + (u : Int)) (Int.gcd ((v : Int) - 5) (1 + u))) (by omega)⟩⟩
      exact sv_tup (ds := [.str t, .tup [.int (((v : Int) - 5).fdiv (Int.gcd ((v : Int) - 5) (1 + u))), .int ((1 + (u : Int)).fdiv (Int.gcd ((v : Int) - 5) (1 + u)))]]) (sa rfl (sa (sv_app (sa (sv_2 (sv_app (a2 rfl rfl) rfl ed) rfl rfl) (sa (sv_2 rfl (sv_app (a2 rfl rfl) rfl ed2) rfl) rfl)) rfl (f_law_low ((v : Int) - 5) (1 + (u : Int)) _ (by omega) (by omega))) rfl)) (by simp)
  rw [List.length_map] at hj hlen
  refine ⟨.p (.tup ys), j, by omega, ?_, ys, rfl, hlen, hP⟩
  refine f_rt (es_ret (by simp) (sv_call (a1' e) ?_))
  simp only [fTuple, viewL, newTup, pureL_map]
  rw [if_pos (by rw [sizeLine_eq]; omega)]
where a1' {m : EM} {env : Slots} {st st1 : Sto} {x : Val} (h : m env st = .ok x st1) : aCons m aNil env st = .ok [x] st1 := sa h rfl
/-- the names of the unknowns -/
def xs (many : Nat) : List T := (List.range many).map fun k : Nat => 'x' :: decT (k : Int)
theorem xs_name {many : Nat} (h : many < 6) : ∀ t ∈ xs many, nameT t = true := fun t ht => by
  obtain ⟨k, hk, rfl⟩ := List.mem_map.mp ht
  have hk2 : k < 5 := by
    have := List.mem_range.mp hk
    omega
  match k, hk2 with
  | 0, _ => decide
  | 1, _ => decide
  | 2, _ => decide
  | 3, _ => decide
  | 4, _ => decide
/-- a drawn row -/
def RowP (ts : List T) (r : Row) : Prop := r.name.length ≤ 10 ∧ (r.kind = most ∨ r.kind = just) ∧ r.bound.natAbs ≤ 1000 ∧ ∃ ys, r.terms = .tup ys ∧ ys.length ≤ ts.length ∧ ∀ y ∈ ys, TermP ts 1000 y
theorem alike_terms : ∀ {ys zs : List D} {ts : List T}, (∀ y ∈ ys, TermP ts 1000 y) → (∀ y ∈ zs, TermP ts 1000 y) → PySem.W.alikeAll (toPyL ys) (toPyL zs) = true
  | [], _, _, _, _ => by simp [toPyL, PySem.W.alikeAll]
  | _ :: _, [], _, _, _ => by simp [toPyL, PySem.W.alikeAll]
  | y :: ys, z :: zs, ts, h1, h2 => by
    obtain ⟨t, i, rfl, _⟩ := h1 y (List.mem_cons_self ..)
    obtain ⟨u, j, rfl, _⟩ := h2 z (List.mem_cons_self ..)
    have ih := alike_terms (fun y hy => h1 y (List.mem_cons_of_mem _ hy)) (fun y hy => h2 y (List.mem_cons_of_mem _ hy))
    simp [toPyL, toPy, PySem.W.alikeAll, PySem.W.alike, ih]
theorem alike_rows {ts : List T} {r q : Row} (h1 : RowP ts r) (h2 : RowP ts q) : PySem.W.alike (toPy r.d) (toPy q.d) = true := by
  obtain ⟨_, _, _, ys, e1, _, p1⟩ := h1
  obtain ⟨_, _, _, zs, e2, _, p2⟩ := h2
  simp [Row.d, e1, e2, toPy, toPyL, PySem.W.alike, PySem.W.alikeAll, alike_terms p1 p2]
end K02
end
section
set_option Elab.async false
set_option linter.all false
set_option maxRecDepth 100000
set_option maxHeartbeats 2000000
namespace K02
open PySem PySem.Spec L2 Sl PyProof.Rows
theorem noDct_terms : ∀ {ys : List D} {ts : List T}, (∀ y ∈ ys, TermP ts 1000 y) → noDctL ys = true ∧ depL ys ≤ 1
  | [], _, _ => ⟨rfl, by simp [depL]⟩
  | y :: ys, ts, h => by
    obtain ⟨t, i, rfl, _⟩ := h y (List.mem_cons_self ..)
    obtain ⟨h1, h2⟩ := noDct_terms fun y hy => h y (List.mem_cons_of_mem _ hy)
    refine ⟨by simp [noDctL, noDct, h1], ?_⟩
    simp [depL, dep]
    omega
theorem noDct_rows : ∀ {rs : List Row} {ts : List T}, (∀ r ∈ rs, RowP ts r) → noDctL (rs.map Row.d) = true ∧ depL (rs.map Row.d) ≤ 3
  | [], _, _ => ⟨rfl, by simp [depL]⟩
  | r :: rs, ts, h => by
    obtain ⟨_, _, _, ys, e, _, hy⟩ := h r (List.mem_cons_self ..)
    obtain ⟨h1, h2⟩ := noDct_rows fun y hy => h y (List.mem_cons_of_mem _ hy)
    obtain ⟨h3, h4⟩ := noDct_terms hy
    refine ⟨by simp [noDctL, noDct, Row.d, e, h1, h3], ?_⟩
    simp [depL, dep, Row.d, e]
    omega
theorem sort_rows {rs : List Row} {ts : List T} (h : ∀ r ∈ rs, RowP ts r) (hl : rs.length ≤ 100) : sortOk (rs.map Row.d) = true ∧ ∃ rs' : List Row, sortD (rs.map Row.d) = rs'.map Row.d ∧ rs'.length = rs.length ∧ ∀ r ∈ rs', RowP ts r := by
  constructor
  · obtain ⟨h1, h2⟩ := noDct_rows h
    have h3 : alikeB (rs.map Row.d) = true := List.all_eq_true.mpr fun d hd => List.all_eq_true.mpr fun e he => by
      obtain ⟨r, hr, rfl⟩ := List.mem_map.mp hd
      obtain ⟨q, hq, rfl⟩ := List.mem_map.mp he
      exact alike_rows (h r hr) (h q hq)
    have h4 : (rs.map Row.d).all isTup1 = true := List.all_eq_true.mpr fun d hd => by
      obtain ⟨r, hr, rfl⟩ := List.mem_map.mp hd
      rfl
    have h5 : (rs.map Row.d).length ≤ sizeLine := by rw [List.length_map, sizeLine_eq]; omega
    simp only [sortOk, h1, h3, h4, Bool.true_and, Bool.true_or, Bool.and_true, Bool.and_eq_true, decide_eq_true_eq]
    exact ⟨by omega, h5⟩
  · have hp : (sortD (rs.map Row.d)).Perm (rs.map Row.d) := List.mergeSort_perm _ _
    have key : ∀ L : List D, (∀ d ∈ L, ∃ r, d = Row.d r ∧ RowP ts r) → ∃ rs' : List Row, L = rs'.map Row.d ∧ ∀ r ∈ rs', RowP ts r := fun L => by
      induction L with
      | nil => exact fun _ => ⟨[], rfl, fun r hr => nomatch hr⟩
      | cons d L ih =>
        intro hL
        obtain ⟨r, rfl, hr⟩ := hL d (List.mem_cons_self ..)
        obtain ⟨rs', rfl, hr'⟩ := ih fun e he => hL e (List.mem_cons_of_mem _ he)
        refine ⟨r :: rs', rfl, fun q hq => ?_⟩
        rcases List.mem_cons.mp hq with rfl | hq
        · exact hr
        · exact hr' q hq
    obtain ⟨rs', e, hr'⟩ := key (sortD (rs.map Row.d)) fun d hd => by
      obtain ⟨r, hr, rfl⟩ := List.mem_map.mp (hp.mem_iff.mp hd)
      exact ⟨r, rfl, h r hr⟩
    refine ⟨rs', e, ?_, hr'⟩
    have := hp.length_eq
    rw [e, List.length_map, List.length_map] at this
    exact this
theorem str_small {k : Nat} (h : k < 1000) : fStr [pI k] = fun st => some (.p (.str (decT k)), st) := by
  have : k.log2 < 1920 := by
    have := log_small (i := (k : Int)) (n := 64) (by omega) (by omega)
    simp at this
    omega
  funext st
  simp [fStr, Sl.strOf, this]
theorem dec_len {k : Nat} (h : k < 7) : (decT k).length ≤ 9 := by
  match k, h with
  | 0, _ => decide
  | 1, _ => decide
  | 2, _ => decide
  | 3, _ => decide
  | 4, _ => decide
  | 5, _ => decide
  | 6, _ => decide
theorem rows_loop (ns ds : List Int) (hd : Dg ds) (many : Nat) (hm : many < 6) (n : Nat) (hn : n < 7) (k : Nat) (hk : k + 100000 < 1000000000) (body : SM)
    (hb : body = sSeq (sAsg (mIf (tVal (m2 (fEq false) (mApp 2 F__law_draw (aCons (mVar 0) (aCons (mD (.int 6)) aNil))) (mD (.int 0)))) (mD (.str ['j', 'u', 's', 't'])) (mD (.str ['m', 'o', 's', 't']))) (gN 6)) (sSeq (sExpr (mMeth isLstV fApp (mVar 4) (aCons (mTup (aCons (m2 (fAdd false) (mD (.str ['r'])) (mCall fStr (aCons (mVar 5) aNil))) (aCons (mApp 3 F__law_terms (aCons (mVar 0) (aCons (mVar 3) (aCons (mD (.int 3)) aNil)))) (aCons (mVar 6) (aCons (m2 fSub (mApp 2 F__law_draw (aCons (mVar 0) (aCons (mD (.int 14)) aNil))) (mD (.int 4))) aNil))))) aNil))) sNil)) :
    ∃ (j : Nat) (rs : List Row) (e5 e6 : Option Val), j ≤ 1000 ∧ rs.length ≤ 7 ∧ (∀ r ∈ rs, RowP (xs many) r) ∧ forGo none (rngItems 0 n) (gN 5) body (rngItems 0 n) [some (.r 1), some (pI many), some (pI 6), some (.p (.tup ((xs many).map .str))), some (.r 2), none, none] [.scr ns, Bx ds k, .lst []] =
      .nx [some (.r 1), some (pI many), some (pI 6), some (.p (.tup ((xs many).map .str))), some (.r 2), e5, e6] [.scr ns, Bx ds (k + j), .lst ((rs.map Row.d).map .p)] ∧ (∀ v, e5 = some v → ∃ d, v = .p d) ∧ (∀ v, e6 = some v → ∃ d, v = .p d) := by
  have hxl : (xs many).length = many := by simp [xs]
  refine forGo_post (Post := fun r => ∃ (j : Nat) (rs : List Row) (e5 e6 : Option Val), j ≤ 1000 ∧ rs.length ≤ 7 ∧ (∀ r ∈ rs, RowP (xs many) r) ∧ r = .nx [some (.r 1), some (pI many), some (pI 6), some (.p (.tup ((xs many).map .str))), some (.r 2), e5, e6] [.scr ns, Bx ds (k + j), .lst ((rs.map Row.d).map .p)] ∧ (∀ v, e5 = some v → ∃ d, v = .p d) ∧ (∀ v, e6 = some v → ∃ d, v = .p d))
    (fun i env st => ∃ (j : Nat) (rs : List Row) (e5 e6 : Option Val), j ≤ 110 * i ∧ rs.length ≤ i ∧ (∀ r ∈ rs, RowP (xs many) r) ∧ env = [some (.r 1), some (pI many), some (pI 6), some (.p (.tup ((xs many).map .str))), some (.r 2), e5, e6] ∧ st = [.scr ns, Bx ds (k + j), .lst ((rs.map Row.d).map .p)] ∧ (∀ v, e5 = some v → ∃ d, v = .p d) ∧ (∀ v, e6 = some v → ∃ d, v = .p d))
    ⟨0, [], none, none, by omega, Nat.le_refl _, fun r hr => (nomatch hr), rfl, rfl, fun v h => (nomatch h), fun v h => (nomatch h)⟩ ?_ ?_
  · rintro i x env st hx ⟨j, rs, e5, e6, hj, hrl, hr, rfl, rfl, h5, h6⟩
    have hi : i < n := by
      have := (List.getElem?_eq_some_iff.mp hx).1
      simpa [rngItems] using this
    have ex : x = pI i := by
      simp only [rngItems, List.getElem?_map] at hx
      rw [List.getElem?_range (by simpa using hi)] at hx
      simp at hx
      exact hx.symm
    subst ex
    refine ⟨rfl, [some (.r 1), some (pI many), some (pI 6), some (.p (.tup ((xs many).map .str))), some (.r 2), some (pI i), e6], rfl, ?_⟩
    subst hb
    obtain ⟨v, hv, ed⟩ := f_draw (.scr ns) ds hd [.lst ((rs.map Row.d).map .p)] (k + j) 6 (by omega) (by omega)
    have hkind : ∃ kd, (kd = most ∨ kd = just) ∧ mIf (tVal (m2 (fEq false) (mApp 2 F__law_draw (aCons (mVar 0) (aCons (mD (.int 6)) aNil))) (mD (.int 0)))) (mD (.str ['j', 'u', 's', 't'])) (mD (.str ['m', 'o', 's', 't'])) [some (.r 1), some (pI many), some (pI 6), some (.p (.tup ((xs many).map .str))), some (.r 2), some (pI i), e6] [.scr ns, Bx ds (k + j), .lst ((rs.map Row.d).map .p)] = .ok (.p (.str kd)) [.scr ns, Bx ds (k + j + 1), .lst ((rs.map Row.d).map .p)] := by
      have ht : tVal (m2 (fEq false) (mApp 2 F__law_draw (aCons (mVar 0) (aCons (mD (.int 6)) aNil))) (mD (.int 0))) [some (.r 1), some (pI many), some (pI 6), some (.p (.tup ((xs many).map .str))), some (.r 2), some (pI i), e6] [.scr ns, Bx ds (k + j), .lst ((rs.map Row.d).map .p)] = .ok (deq (.int v) (.int 0)) [.scr ns, Bx ds (k + j + 1), .lst ((rs.map Row.d).map .p)] :=
        st_val (sv_2 (sv_app (a2 rfl rfl) rfl ed) rfl rfl)
      cases hq : deq (.int (v : Nat)) (.int 0) with
      | true => exact ⟨just, .inr rfl, sv_if ht (fun _ => rfl) fun z => by rw [hq] at z; cases z⟩
      | false => exact ⟨most, .inl rfl, sv_if ht (fun z => by rw [hq] at z; cases z) fun _ => rfl⟩
    obtain ⟨kd, hkd, ek⟩ := hkind
    obtain ⟨tv, j2, hj2, et, ys, rfl, hyl, hys⟩ := f_terms (.scr ns) ds hd [.lst ((rs.map Row.d).map .p)] (k + j + 1) (xs many) 3 (by omega) (by rw [hxl]; omega) (by omega)
    obtain ⟨u, hu, ed2⟩ := f_draw (.scr ns) ds hd [.lst ((rs.map Row.d).map .p)] (k + j + 1 + j2) 14 (by omega) (by omega)
    have hstr : m2 (fAdd false) (mD (.str ['r'])) (mCall fStr (aCons (mVar 5) aNil)) [some (.r 1), some (pI many), some (pI 6), some (.p (.tup ((xs many).map .str))), some (.r 2), some (pI i), some (.p (.str kd))] [.scr ns, Bx ds (k + j + 1), .lst ((rs.map Row.d).map .p)] = .ok (.p (.str ('r' :: decT i))) [.scr ns, Bx ds (k + j + 1), .lst ((rs.map Row.d).map .p)] := by
      refine sv_2 rfl (sv_call (a1 rfl) (v := .p (.str (decT i))) (congrFun (str_small (by omega)) _)) ?_
      have hle : ['r'].length + (decT (i : Int)).length ≤ tMax := by
        have h1 := dec_len (k := i) (by omega)
        have h2 : (10 : Nat) ≤ tMax := by decide
        simp only [List.length_cons, List.length_nil]
        omega
      simp only [fAdd]
      rw [if_pos hle]
      rfl
    have hrow : mTup (aCons (m2 (fAdd false) (mD (.str ['r'])) (mCall fStr (aCons (mVar 5) aNil))) (aCons (mApp 3 F__law_terms (aCons (mVar 0) (aCons (mVar 3) (aCons (mD (.int 3)) aNil)))) (aCons (mVar 6) (aCons (m2 fSub (mApp 2 F__law_draw (aCons (mVar 0) (aCons (mD (.int 14)) aNil))) (mD (.int 4))) aNil))))
        [some (.r 1), some (pI many), some (pI 6), some (.p (.tup ((xs many).map .str))), some (.r 2), some (pI i), some (.p (.str kd))] [.scr ns, Bx ds (k + j + 1), .lst ((rs.map Row.d).map .p)] = .ok (.p (.tup [.str ('r' :: decT i), .tup ys, .str kd, .int ((u : Int) - 4)])) [.scr ns, Bx ds (k + j + 1 + j2 + 1), .lst ((rs.map Row.d).map .p)] := sv_tup (ds := [.str ('r' :: decT i), .tup ys, .str kd, .int ((u : Int) - 4)]) (sa hstr (sa (sv_app (a3 rfl rfl rfl) rfl et) (sa (st1 := [.scr ns, Bx ds (k + j + 1 + j2), .lst ((rs.map Row.d).map .p)]) rfl (sa (sv_2 (sv_app (a2 rfl rfl) rfl ed2) rfl rfl) rfl)))) (by simp)
    have happ : fApp (.r 2) [.p (.tup [.str ('r' :: decT i), .tup ys, .str kd, .int ((u : Int) - 4)])] [.scr ns, Bx ds (k + j + 1 + j2 + 1), .lst ((rs.map Row.d).map .p)] = some (.p .non, [.scr ns, Bx ds (k + j + 1 + j2 + 1), .lst (((rs ++ [Row.mk ('r' :: decT i) (.tup ys) kd ((u : Int) - 4)]).map Row.d).map .p)]) := by
      simp only [fApp, List.getElem?_cons_zero, List.getElem?_cons_succ, List.length_map]
      rw [if_pos (by rw [sizeLine_eq]; omega)]
      simp [Row.d]
    have hexp : sExpr (mMeth isLstV fApp (mVar 4) (aCons (mTup (aCons (m2 (fAdd false) (mD (.str ['r'])) (mCall fStr (aCons (mVar 5) aNil))) (aCons (mApp 3 F__law_terms (aCons (mVar 0) (aCons (mVar 3) (aCons (mD (.int 3)) aNil)))) (aCons (mVar 6) (aCons (m2 fSub (mApp 2 F__law_draw (aCons (mVar 0) (aCons (mD (.int 14)) aNil))) (mD (.int 4))) aNil))))) aNil))
        [some (.r 1), some (pI many), some (pI 6), some (.p (.tup ((xs many).map .str))), some (.r 2), some (pI i), some (.p (.str kd))] [.scr ns, Bx ds (k + j + 1), .lst ((rs.map Row.d).map .p)] = .nx [some (.r 1), some (pI many), some (pI 6), some (.p (.tup ((xs many).map .str))), some (.r 2), some (pI i), some (.p (.str kd))] [.scr ns, Bx ds (k + j + 1 + j2 + 1), .lst (((rs ++ [Row.mk ('r' :: decT i) (.tup ys) kd ((u : Int) - 4)]).map Row.d).map .p)] := by
      have ea := sa (am := aNil) (xs := []) hrow rfl
      unfold sExpr mMeth
      simp only [mVar, R.bind, isLstV, List.getElem?_cons_zero, List.getElem?_cons_succ]
      rw [ea]
      simp only [R.bind]
      rw [happ]
      rfl
    rw [es_asg (sr := .nx [some (.r 1), some (pI many), some (pI 6), some (.p (.tup ((xs many).map .str))), some (.r 2), some (pI i), some (.p (.str kd))] [.scr ns, Bx ds (k + j + 1 + j2 + 1), .lst (((rs ++ [Row.mk ('r' :: decT i) (.tup ys) kd ((u : Int) - 4)]).map Row.d).map .p)]) ek rfl (by rw [seq_end]; exact hexp)]
    refine ⟨j + 1 + j2 + 1, rs ++ [Row.mk ('r' :: decT i) (.tup ys) kd ((u : Int) - 4)], some (pI i), some (.p (.str kd)), by omega, by rw [List.length_append]; simp only [List.length_cons, List.length_nil]; omega, fun r hr2 => ?_, rfl, by simp only [Nat.add_assoc], fun v h => ?_, fun v h => ?_⟩
    · rcases List.mem_append.mp hr2 with h | h
      · exact hr r h
      · rw [List.mem_singleton.mp h]
        have h1 := dec_len (k := i) (by omega)
        refine ⟨by simp only [List.length_cons]; omega, hkd, by simp only; omega, ys, rfl, hyl, fun y hy => ?_⟩
        obtain ⟨t, z, e, ht, hz⟩ := hys y hy
        exact ⟨t, z, e, ht, by omega⟩
    · cases h
      exact ⟨_, rfl⟩
    · cases h
      exact ⟨_, rfl⟩
  · rintro env st ⟨j, rs, e5, e6, hj, hrl, hr, rfl, rfl, h5, h6⟩
    have hln : (rngItems 0 n).length = n := by simp [rngItems]
    rw [hln] at hj hrl
    exact ⟨rfl, j, rs, e5, e6, by omega, by omega, hr, rfl, h5, h6⟩
end K02
end
section
set_option Elab.async false
set_option linter.all false
set_option maxRecDepth 100000
set_option maxHeartbeats 2000000
namespace K02
open PySem PySem.Spec L2 Sl PyProof.Rows
theorem frz_opt {st : Sto} {e : Option Val} (h : ∀ v, e = some v → ∃ d, v = .p d) : frzS 2 st e = e := by
  cases e with
  | none => rfl
  | some v =>
    obtain ⟨d, rfl⟩ := h v rfl
    rfl
noncomputable abbrev rowsB : SM := sSeq (sAsg (mIf (tVal (m2 (fEq false) (mApp 2 F__law_draw (aCons (mVar 0) (aCons (mD (.int 6)) aNil))) (mD (.int 0)))) (mD (.str ['j', 'u', 's', 't'])) (mD (.str ['m', 'o', 's', 't']))) (gN 6)) (sSeq (sExpr (mMeth isLstV fApp (mVar 4) (aCons (mTup (aCons (m2 (fAdd false) (mD (.str ['r'])) (mCall fStr (aCons (mVar 5) aNil))) (aCons (mApp 3 F__law_terms (aCons (mVar 0) (aCons (mVar 3) (aCons (mD (.int 3)) aNil)))) (aCons (mVar 6) (aCons (m2 fSub (mApp 2 F__law_draw (aCons (mVar 0) (aCons (mD (.int 14)) aNil))) (mD (.int 4))) aNil))))) aNil))) sNil)
theorem f_rows (ns ds : List Int) (hd : Dg ds) (many : Nat) (hm : many < 6) (k : Nat) (hk : k + 200000 < 1000000000) :
    ∃ j rs, j ≤ 1100 ∧ rs.length ≤ 7 ∧ (∀ r ∈ rs, RowP (xs many) r) ∧ F__law_rows [.r 1, pI many, pI 6] [.scr ns, Bx ds k] = .ok (.p (rowsOf (xs many) rs)) [.scr ns, Bx ds (k + j)] := by
  have hxl : (xs many).length = many := by simp [xs]
  have e1 := comp_D (ow := [5]) (mi := mRng1 (aCons (mVar 1) aNil)) (gm := gN 5) (mt := tmYes) (me := m2 (fAdd false) (mD (.str ['x'])) (mCall fStr (aCons (mVar 5) aNil))) (env := [some (.r 1), some (pI many), some (pI 6), none, none, none, none]) (st := [.scr ns, Bx ds k]) (src := none) (ds := (List.range ((many : Int)).toNat).map fun i : Nat => D.int i)
    (fun _ => true) (fun d => match d with | .int i => .str ('x' :: decT i) | _ => .non) (rng1_D (a1 rfl) (by omega)) rfl (by simp [sizeLine_eq]; omega) fun d hd2 => by
      obtain ⟨i, hi, rfl⟩ := List.mem_map.mp hd2
      have hi2 : i < many := by simpa using List.mem_range.mp hi
      refine ⟨_, rfl, rfl, fun _ => sv_2 rfl (sv_call (a1 rfl) (v := .p (.str (decT i))) (congrFun (str_small (by omega)) _)) ?_⟩
      have hle : ['x'].length + (decT (i : Int)).length ≤ tMax := by
        have h1 := dec_len (k := i) (by omega)
        have h2 : (10 : Nat) ≤ tMax := by decide
        simp only [List.length_cons, List.length_nil]
        omega
      simp only [fAdd]
      rw [if_pos hle]
      rfl
  rw [filter_yes, List.map_map] at e1
  have e1b : ((List.range ((many : Int)).toNat).map ((fun d => match d with | .int i => D.str ('x' :: decT i) | _ => .non) ∘ fun i : Nat => D.int i)) = (xs many).map .str := by
    rw [show ((many : Int)).toNat = many from by omega]
    simp only [xs, List.map_map]
    rfl
  rw [e1b] at e1
  have e2 : mCall fTuple (aCons (mComp false [5] (mRng1 (aCons (mVar 1) aNil)) (gN 5) tmYes (m2 (fAdd false) (mD (.str ['x'])) (mCall fStr (aCons (mVar 5) aNil)))) aNil) [some (.r 1), some (pI many), some (pI 6), none, none, none, none] [.scr ns, Bx ds k] = .ok (.p (.tup ((xs many).map .str))) [.scr ns, Bx ds k] := by
    refine ev_call (a1 e1) ?_
    simp only [fTuple, viewL, newTup, pureL_map]
    rw [if_pos (by rw [List.length_map, hxl, sizeLine_eq]; omega)]
  obtain ⟨n, hn, ed⟩ := f_draw (.scr ns) ds hd [.lst []] k 7 (by omega) (by omega)
  obtain ⟨j, rs, e5, e6, hj, hrl, hr, el, h5, h6⟩ := rows_loop ns ds hd many hm n hn (k + 1) (by omega) rowsB rfl
  obtain ⟨so, rs', es, hl', hr'⟩ := sort_rows hr (by omega)
  refine ⟨j + 1, rs', by omega, by omega, hr', f_rt ?_⟩
  refine es_asg (env' := [some (.r 1), some (pI many), some (pI 6), some (.p (.tup ((xs many).map .str))), none, none, none]) e2 rfl ?_
  refine es_asg (v := .r 2) (st' := [.scr ns, Bx ds k, .lst []]) (env' := [some (.r 1), some (pI many), some (pI 6), some (.p (.tup ((xs many).map .str))), some (.r 2), none, none]) (by simp [mLst, aNil, R.bind, newLst, R.lift]) rfl ?_
  have hrng : mRng1 (aCons (mApp 2 F__law_draw (aCons (mVar 0) (aCons (m2 (fAdd false) (mVar 2) (mD (.int 1))) aNil))) aNil) [some (.r 1), some (pI many), some (pI 6), some (.p (.tup ((xs many).map .str))), some (.r 2), none, none] [.scr ns, Bx ds k, .lst []] = .ok (rngItems 0 n, none) [.scr ns, Bx ds (k + 1), .lst []] := by
    have ha : aCons (mApp 2 F__law_draw (aCons (mVar 0) (aCons (m2 (fAdd false) (mVar 2) (mD (.int 1))) aNil))) aNil [some (.r 1), some (pI many), some (pI 6), some (.p (.tup ((xs many).map .str))), some (.r 2), none, none] [.scr ns, Bx ds k, .lst []] = .ok [pI n] [.scr ns, Bx ds (k + 1), .lst []] :=
      sa (sv_app (a2 rfl (sv_2 (v := pI 7) rfl rfl rfl)) rfl ed) rfl
    exact srng1 ha (by omega)
  have hfor : sFor (mRng1 (aCons (mApp 2 F__law_draw (aCons (mVar 0) (aCons (m2 (fAdd false) (mVar 2) (mD (.int 1))) aNil))) aNil)) (gN 5) rowsB [some (.r 1), some (pI many), some (pI 6), some (.p (.tup ((xs many).map .str))), some (.r 2), none, none] [.scr ns, Bx ds k, .lst []] =
      .nx [some (.r 1), some (pI many), some (pI 6), some (.p (.tup ((xs many).map .str))), some (.r 2), e5, e6] [.scr ns, Bx ds (k + 1 + j), .lst ((rs.map Row.d).map .p)] := by
    unfold sFor
    rw [hrng]
    exact el
  refine (seq_nx hfor).trans ?_
  rw [seq_end]
  have hcl : ([SObj.scr ns, Bx ds (k + 1 + j), .lst ((rs.map Row.d).map .p)].take 2).all (closedO 2) = true := rfl
  have hset : Sl.settle 2 [some (.r 1), some (pI many), some (pI 6), some (.p (.tup ((xs many).map .str))), some (.r 2), e5, e6] [.scr ns, Bx ds (k + 1 + j), .lst ((rs.map Row.d).map .p)] =
      some ([some (.r 1), some (pI many), some (pI 6), some (.p (.tup ((xs many).map .str))), some (.p (.lst (rs.map Row.d))), e5, e6], [.scr ns, Bx ds (k + 1 + j)]) := by
    unfold Sl.settle
    rw [if_neg (by simp), if_pos hcl]
    have h2 : frzS 2 [SObj.scr ns, Bx ds (k + 1 + j), .lst ((rs.map Row.d).map .p)] (some (.r 2)) = some (.p (.lst (rs.map Row.d))) := by
      simp only [frzS]
      rw [if_neg (by omega)]
      unfold frzV
      rw [if_neg (by omega)]
      simp only [List.getElem?_cons_succ, List.getElem?_cons_zero]
      rw [frzL_data]
    simp only [List.map_cons, List.map_nil, h2, frz_opt h5, frz_opt h6]
    rfl
  have hm3 : mTup (aCons (mD (.str ['r', 'o', 'w', 's'])) (aCons (mVar 3) (aCons (mCall fTuple (aCons (mCall (fSorted false) (aCons (mVar 4) aNil)) aNil)) aNil))) [some (.r 1), some (pI many), some (pI 6), some (.p (.tup ((xs many).map .str))), some (.p (.lst (rs.map Row.d))), e5, e6] [.scr ns, Bx ds (k + 1 + j)] = .ok (.p (rowsOf (xs many) rs')) [.scr ns, Bx ds (k + 1 + j)] := by
    refine sv_tup (ds := [.str ['r', 'o', 'w', 's'], .tup ((xs many).map .str), .tup (rs'.map Row.d)]) (sa rfl (sa rfl (sa (sv_call (st1 := [.scr ns, Bx ds (k + 1 + j)]) (sa (sv_call (a1 rfl) (v := .p (.lst (rs'.map Row.d))) ?_) rfl) ?_) rfl))) (by simp)
    · simp only [fSorted, viewL, pureL_map, so, if_true, newLst, es]
      rw [if_pos (by rw [List.length_map, sizeLine_eq]; omega)]
    · simp only [fTuple, viewL, newTup, pureL_map]
      rw [if_pos (by rw [List.length_map, sizeLine_eq]; omega)]
  show sRet 2 _ _ _ = _
  unfold sRet
  rw [if_neg (by simp), hset]
  simp only
  rw [hm3]
  simp only [Nat.add_assoc, Nat.add_comm 1 j]
end K02
end
section
set_option Elab.async false
set_option linter.all false
set_option maxRecDepth 100000
set_option maxHeartbeats 2000000
namespace K02
open PySem PySem.Spec L2 Sl PyProof.Rows
/-! what is changed -/
/-- data as drawn: tuples, texts, numbers -/
def orig : D → Bool
  | .tup ds => decide (ds.length ≤ 100) && origL ds
  | .str t => decide (t.length ≤ 50)
  | .int i => decide (i.natAbs ≤ 1000000)
  | _ => false
where origL : List D → Bool
  | [] => true
  | d :: ds => orig d && origL ds
theorem origL_all : ∀ {ds : List D}, orig.origL ds = true ↔ ∀ d ∈ ds, orig d = true
  | [] => by simp [orig.origL]
  | d :: ds => by simp [orig.origL, origL_all (ds := ds)]
theorem okL_iff : ∀ {ds : List D}, okD.okL ds = true ↔ ∀ d ∈ ds, okD d = true
  | [] => by simp [okD.okL]
  | d :: ds => by simp [okD.okL, okL_iff (ds := ds)]
mutual
theorem orig_ok : ∀ {d : D}, orig d = true → okD d = true
  | .tup ds, h => by
    simp only [orig, Bool.and_eq_true, decide_eq_true_eq] at h
    simp only [okD, Bool.and_eq_true, decide_eq_true_eq]
    exact ⟨by omega, origL_ok h.2⟩
  | .str t, h => by
    simp only [orig, decide_eq_true_eq] at h
    simp only [okD, decide_eq_true_eq]
    omega
  | .int i, h => by
    simp only [orig, decide_eq_true_eq] at h
    simp only [okD, decide_eq_true_eq]
    omega
  | .non, h => by cases h
  | .bl _, h => by cases h
  | .lst _, h => by cases h
  | .dct _ _, h => by cases h
theorem origL_ok : ∀ {ds : List D}, orig.origL ds = true → okD.okL ds = true
  | [], _ => rfl
  | d :: ds, h => by
    simp only [orig.origL, Bool.and_eq_true] at h
    simp only [okD.okL, Bool.and_eq_true]
    exact ⟨orig_ok h.1, origL_ok h.2⟩
end
theorem okD_of {ds : List D} (h1 : ds.length ≤ 1000) (h2 : ∀ d ∈ ds, okD d = true) : okD (.tup ds) = true := by
  simp only [okD, Bool.and_eq_true, decide_eq_true_eq]
  exact ⟨h1, okL_iff.mpr h2⟩
/-- one of a list, by a draw -/
theorem pick {ma : EM} {env : Slots} (o : SObj) (ds : List Int) (hd : Dg ds) (rest : Sto) (k : Nat) (hk : k < 1000000000) {zs : List D} {i : Int} (m : Nat) (hm : m = zs.length) (hi : i = m) (h0 : 0 < m) (hl : ma env (o :: Bx ds k :: rest) = .ok (.p (.lst zs)) (o :: Bx ds k :: rest)) (hv : mVar 0 env (o :: Bx ds k :: rest) = .ok (.r 1) (o :: Bx ds k :: rest)) :
    ∃ z ∈ zs, m2 fIx ma (mApp 2 F__law_draw (aCons (mVar 0) (aCons (mD (.int i)) aNil))) env (o :: Bx ds k :: rest) = .ok (.p z) (o :: Bx ds (k + 1) :: rest) := by
  obtain ⟨v, hv2, ed⟩ := f_draw o ds hd rest k m hk h0
  have hlt : v < zs.length := by omega
  refine ⟨zs[v], List.getElem_mem hlt, sv_2 hl (sv_app (a2 hv rfl) rfl (by rw [hi]; exact ed)) ?_⟩
  simp [fIx, fIxO, viewL, atI_nat, hlt]
theorem cut_sub {α : Type} {xs : List α} {lo hi : Option Int} : (cutL xs lo hi).length ≤ xs.length ∧ ∀ x ∈ cutL xs lo hi, x ∈ xs := by
  unfold cutL
  constructor
  · simp
    omega
  · intro x hx
    exact List.mem_of_mem_drop (List.mem_of_mem_take hx)
theorem f_other (o : SObj) (ds : List Int) (hd : Dg ds) (rest : Sto) (k : Nat) (d : D) (ok : orig d = true) (hk : k + 10 < 1000000000) :
    Dw 1 o ds k rest (fun v => ∃ z, v = .p z ∧ okD z = true) (F__law_other [.r 1, .p d] (o :: Bx ds k :: rest)) := by
  have eT : tTruth (mIsi "tuple" (mVar 1)) [some (.r 1), some (.p d), none, none] (o :: Bx ds k :: rest) = .ok (isTup d) (o :: Bx ds k :: rest) := et_truth (ev_isTup rfl)
  have eS : tTruth (mIsi "str" (mVar 1)) [some (.r 1), some (.p d), none, none] (o :: Bx ds k :: rest) = .ok (isStr d) (o :: Bx ds k :: rest) := et_truth (ev_isStr rfl)
  have eN : tVal (m2 (fIs false) (mVar 1) (mD .non)) [some (.r 1), some (.p d), none, none] (o :: Bx ds k :: rest) = .ok false (o :: Bx ds k :: rest) := et_val (ev_2 rfl rfl (by cases d <;> first | rfl | cases ok))
  have hln : (o :: Bx ds k :: rest).length = (o :: Bx ds (k + 1) :: rest).length := by simp
  cases d with
  | int i =>
    have hi : i.natAbs ≤ 1000000 := by simpa [orig] using ok
    obtain ⟨z, hz, e⟩ := pick (ma := mLst false (aCons (m2 (fAdd false) (mVar 1) (mD (.int 1))) (aCons (m2 fSub (mVar 1) (mD (.int 1))) (aCons (m2 fSub (mD (.int 0)) (mVar 1)) (aCons (mD (.bl true)) (aCons (mD .non) (aCons (mD (.int 0)) (aCons (mD (.int 100)) aNil)))))))) (env := [some (.r 1), some (pI i), none, none]) o ds hd rest k (by omega) (zs := [.int (i + 1), .int (i - 1), .int (0 - i), .bl true, .non, .int 0, .int 100]) 7 rfl rfl (by omega)
      (ev_lst (ds := [.int (i + 1), .int (i - 1), .int (0 - i), .bl true, .non, .int 0, .int 100]) rfl (by simp)) rfl
    refine ⟨.p z, 1, by omega, f_rt ((ss_no eT).trans ((ss_no eS).trans ((ss_no eN).trans (es_ret rfl e)))), z, rfl, ?_⟩
    simp only [List.mem_cons, List.not_mem_nil, or_false] at hz
    rcases hz with rfl | rfl | rfl | rfl | rfl | rfl | rfl <;> simp [okD] <;> omega
  | str t =>
    obtain ⟨z, hz, e⟩ := pick (ma := mLst false (aCons (mD (.str ['x', '0'])) (aCons (mD (.str ['x', '1'])) (aCons (mD (.str ['r', '0'])) (aCons (mD (.str ['r', '1'])) (aCons (mD (.str ['r', 'o', 'w', 's'])) (aCons (mD (.str ['m', 'o', 's', 't'])) (aCons (mD (.str ['j', 'u', 's', 't'])) (aCons (mD (.str ['s', 'u', 'm'])) (aCons (mD (.str ['A'])) (aCons (mD (.str [])) (aCons (mD (.str ['x', ' ', 'y'])) (aCons (mD .non) aNil)))))))))))))
      (env := [some (.r 1), some (.p (.str t)), none, none]) o ds hd rest k (by omega) (zs := [.str ['x', '0'], .str ['x', '1'], .str ['r', '0'], .str ['r', '1'], .str ['r', 'o', 'w', 's'], .str ['m', 'o', 's', 't'], .str ['j', 'u', 's', 't'], .str ['s', 'u', 'm'], .str ['A'], .str [], .str ['x', ' ', 'y'], .non]) 12 rfl rfl (by omega)
      (ev_lst (ds := [.str ['x', '0'], .str ['x', '1'], .str ['r', '0'], .str ['r', '1'], .str ['r', 'o', 'w', 's'], .str ['m', 'o', 's', 't'], .str ['j', 'u', 's', 't'], .str ['s', 'u', 'm'], .str ['A'], .str [], .str ['x', ' ', 'y'], .non]) rfl (by simp)) rfl
    refine ⟨.p z, 1, by omega, f_rt ((ss_no eT).trans (ss_out rfl eS rfl e)), z, rfl, ?_⟩
    have : ([.str ['x', '0'], .str ['x', '1'], .str ['r', '0'], .str ['r', '1'], .str ['r', 'o', 'w', 's'], .str ['m', 'o', 's', 't'], .str ['j', 'u', 's', 't'], .str ['s', 'u', 'm'], .str ['A'], .str [], .str ['x', ' ', 'y'], .non] : List D).all okD = true := by decide
    exact List.all_eq_true.mp this z hz
  | tup xs =>
    simp only [orig, Bool.and_eq_true, decide_eq_true_eq] at ok
    have hok : ∀ x ∈ xs, okD x = true := fun x hx => orig_ok (origL_all.mp ok.2 x hx)
    have hl := ok.1
    have eb := comp_D (ow := [3]) (mi := mRng1 (aCons (mCall fLen (aCons (mVar 1) aNil)) aNil)) (gm := gN 3) (mt := tmYes) (me := m2 fIx (mVar 1) (m2 fSub (m2 fSub (mCall fLen (aCons (mVar 1) aNil)) (mD (.int 1))) (mVar 3))) (env := [some (.r 1), some (.p (.tup xs)), none, none]) (st := o :: Bx ds k :: rest) (src := none) (ds := (List.range ((xs.length : Int)).toNat).map fun i : Nat => D.int i)
      (fun _ => true) (fun d => match d with | .int i => xs.getD (xs.length - 1 - i.toNat) .non | _ => .non) (rng1_D (a1 (ev_call (a1 rfl) rfl)) (by omega)) rfl (by simp [sizeLine_eq]; omega) fun d hd2 => by
        obtain ⟨i, hi, rfl⟩ := List.mem_map.mp hd2
        have hi2 : i < xs.length := by simpa using List.mem_range.mp hi
        have hq : xs.length - 1 - i < xs.length := by omega
        refine ⟨_, rfl, rfl, fun _ => ev_2 (x := .p (.tup xs)) (y := pI (xs.length - 1 - i : Nat)) rfl (ev_2 (x := pI ((xs.length : Int) - 1)) (y := pI i) (ev_2 (ev_call (a1 rfl) rfl) rfl rfl) rfl ?_) ?_⟩
        · show some (pI (((xs.length : Int) - 1) - i), _) = _
          rw [show ((xs.length : Int) - 1) - i = ((xs.length - 1 - i : Nat) : Int) from by omega]
        · simp [fIx, atI_nat, hq]
    rw [filter_yes, List.map_map] at eb
    generalize hbe : (List.range ((xs.length : Int)).toNat).map ((fun d => match d with | .int i => xs.getD (xs.length - 1 - i.toNat) .non | _ => .non) ∘ fun i : Nat => D.int i) = beh at eb
    have hbl : beh.length = xs.length := by rw [← hbe]; simp
    have hbo : ∀ b ∈ beh, okD b = true := fun b hb => by
      rw [← hbe] at hb
      obtain ⟨i, hi, rfl⟩ := List.mem_map.mp hb
      have hi2 : i < xs.length := by simpa using List.mem_range.mp hi
      have hq : xs.length - 1 - i < xs.length := by omega
      show okD (xs.getD (xs.length - 1 - (i : Int).toNat) .non) = true
      rw [Int.toNat_natCast, List.getD_eq_getElem?_getD, List.getElem?_eq_getElem hq]
      exact hok _ (List.getElem_mem hq)
    have et : mCall fTuple (aCons (mComp false [3] (mRng1 (aCons (mCall fLen (aCons (mVar 1) aNil)) aNil)) (gN 3) tmYes (m2 fIx (mVar 1) (m2 fSub (m2 fSub (mCall fLen (aCons (mVar 1) aNil)) (mD (.int 1))) (mVar 3)))) aNil) [some (.r 1), some (.p (.tup xs)), none, none] (o :: Bx ds k :: rest) = .ok (.p (.tup beh)) (o :: Bx ds k :: rest) := by
      refine ev_call (a1 eb) ?_
      simp only [fTuple, viewL, newTup, pureL_map]
      rw [if_pos (by rw [hbl, sizeLine_eq]; omega)]
    have c1 := cut_sub (xs := xs) (lo := none) (hi := some 1)
    have c2 := cut_sub (xs := xs) (lo := some 1) (hi := none)
    have hsum : xs.length + (cutL xs none (some 1)).length ≤ sizeLine := by rw [sizeLine_eq]; omega
    obtain ⟨z, hz, e⟩ := pick (ma := mLst false (aCons (mCall (fList false) (aCons (mVar 1) aNil)) (aCons (m2 (fAdd false) (mVar 1) (mSlice (fSl false) (mVar 1) oNone (oSome (mD (.int 1))))) (aCons (mSlice (fSl false) (mVar 1) (oSome (mD (.int 1))) oNone) (aCons (mD .non) (aCons (mTup aNil) (aCons (mVar 2) aNil)))))))
      (env := [some (.r 1), some (.p (.tup xs)), some (.p (.tup beh)), none]) o ds hd rest k (by omega) (zs := [.lst xs, .tup (xs ++ cutL xs none (some 1)), .tup (cutL xs (some 1) none), .non, .tup [], .tup beh]) 6 rfl rfl (by omega)
      (ev_lst (ds := [.lst xs, .tup (xs ++ cutL xs none (some 1)), .tup (cutL xs (some 1) none), .non, .tup [], .tup beh]) (a_cons (ev_call (a1 rfl) (by
        simp only [fList, newLst, pureL_map]
        rw [if_pos (by rw [sizeLine_eq]; omega)])) (a_cons (ev_2 (x := .p (.tup xs)) (y := .p (.tup (cutL xs none (some 1)))) rfl rfl (by
        simp only [fAdd]
        rw [if_pos hsum])) (a_cons rfl (a_cons rfl (a_cons (ev_tup (ds := []) rfl (by simp)) (a_cons rfl rfl)))))) (by simp)) rfl
    refine ⟨.p z, 1, by omega, f_rt (ss_yes eT (es_asg et rfl (es_ret rfl e))), z, rfl, ?_⟩
    simp only [List.mem_cons, List.not_mem_nil, or_false] at hz
    rcases hz with rfl | rfl | rfl | rfl | rfl | rfl
    · simp only [okD, Bool.and_eq_true, decide_eq_true_eq]
      exact ⟨by omega, okL_iff.mpr hok⟩
    · refine okD_of (by rw [List.length_append]; omega) fun x hx => ?_
      rcases List.mem_append.mp hx with hx | hx
      · exact hok x hx
      · exact hok x (c1.2 x hx)
    · exact okD_of (by omega) fun x hx => hok x (c2.2 x hx)
    · rfl
    · rfl
    · exact okD_of (by omega) hbo
  | _ => cases ok
end K02
end
section
set_option Elab.async false
set_option linter.all false
set_option maxRecDepth 100000
set_option maxHeartbeats 2000000
namespace K02
open PySem PySem.Spec L2 Sl PyProof.Rows
theorem f_changed (o : SObj) (ds : List Int) (hd : Dg ds) (rest : Sto) : ∀ (n : Nat) (k : Nat) (d : D), dep d < n → orig d = true → k + 100 * n < 1000000000 → Dw (3 * n) o ds k rest (fun v => ∃ z, v = .p z ∧ okD z = true) (F__law_changed n [.r 1, .p d] (o :: Bx ds k :: rest))
  | 0, _, _, h, _, _ => absurd h (by omega)
  | n + 1, k, d, hn, ok, hk => by
    have eT : tNotM (tTruth (mIsi "tuple" (mVar 1))) [some (.r 1), some (.p d), none] (o :: Bx ds k :: rest) = .ok (!isTup d) (o :: Bx ds k :: rest) := et_not (et_truth (ev_isTup rfl))
    cases d with
    | tup xs =>
      have ok0 := ok
      simp only [orig, Bool.and_eq_true, decide_eq_true_eq] at ok
      have hl := ok.1
      have hor := origL_all.mp ok.2
      have hE : m2 (fEq false) (mVar 1) (mTup aNil) [some (.r 1), some (.p (.tup xs)), none] (o :: Bx ds k :: rest) = .ok (yes (deq (.tup xs) (.tup []))) (o :: Bx ds k :: rest) := by
        refine ev_2 rfl (ev_tup (ds := []) rfl (by simp)) ?_
        have : eqOk (.tup xs) (.tup []) = true := by
          have hm : min (dep (.tup xs)) (dep (.tup [])) ≤ 64 := by
            simp only [dep, depL]
            omega
          simp [eqOk, okL_noDct (origL_ok ok.2), noDct, noDctL, hm]
        simp [fEq, viewD, this]
      cases xs with
      | nil =>
        obtain ⟨v, j, hj, e, z, rfl, hz⟩ := f_other o ds hd rest k (.tup []) ok0 (by omega)
        exact ⟨.p z, j, by omega, f_rt (ss_yes (et_orF eT (et_orT (et_val hE))) (es_ret rfl (sv_app (a2 rfl rfl) rfl e))), z, rfl, hz⟩
      | cons x r =>
        obtain ⟨v, hv, ed⟩ := f_draw o ds hd rest k 9 (by omega) (by omega)
        have eD : tVal (m2 (fEq false) (mApp 2 F__law_draw (aCons (mVar 0) (aCons (mD (.int 9)) aNil))) (mD (.int 0))) [some (.r 1), some (.p (.tup (x :: r))), none] (o :: Bx ds k :: rest) = .ok (deq (.int v) (.int 0)) (o :: Bx ds (k + 1) :: rest) :=
          st_val (sv_2 (sv_app (a2 rfl rfl) rfl ed) rfl rfl)
        cases hq : deq (.int (v : Nat)) (.int 0) with
        | true =>
          rw [hq] at eD
          obtain ⟨w, j, hj, e, z, rfl, hz⟩ := f_other o ds hd rest (k + 1) (.tup (x :: r)) ok0 (by omega)
          refine ⟨.p z, 1 + j, by omega, f_rt (ss_yes (st_orF eT (st_orF (et_val hE) eD)) (es_ret (by simp only [List.length_cons]) (sv_app (a2 rfl rfl) rfl ?_))), z, rfl, hz⟩
          rw [← Nat.add_assoc]
          exact e
        | false =>
          rw [hq] at eD
          obtain ⟨u, hu, ed2⟩ := f_draw o ds hd rest (k + 1) 900 (by omega) (by omega)
          have hlen : (x :: r).length = r.length + 1 := rfl
          generalize hxs : x :: r = xs at *
          have hpos : 0 < xs.length := by omega
          have hi : u % xs.length < xs.length := Nat.mod_lt _ hpos
          have hmod : ((u : Int)).fmod (xs.length : Int) = ((u % xs.length : Nat) : Int) := by
            rw [Int.fmod_eq_emod_of_nonneg _ (by omega)]
            simp
          have eA : m2 fMod (mApp 2 F__law_draw (aCons (mVar 0) (aCons (mD (.int 900)) aNil))) (mCall fLen (aCons (mVar 1) aNil)) [some (.r 1), some (.p (.tup xs)), none] (o :: Bx ds (k + 1) :: rest) = .ok (pI (u % xs.length : Nat)) (o :: Bx ds (k + 2) :: rest) := by
            refine sv_2 (sv_app (a2 rfl rfl) rfl ed2) (ev_call (a1 rfl) (v := pI xs.length) rfl) ?_
            have : ¬ xs.length = 0 := by omega
            simp [fMod, fI, this, hmod]
          generalize hii : u % xs.length = i at *
          have hxi : orig xs[i] = true := hor _ (List.getElem_mem hi)
          have hdi : dep xs[i] < n := by
            have h1 := depL_all (Nat.le_refl _) xs[i] (List.getElem_mem hi)
            simp only [dep] at hn
            omega
          obtain ⟨w, j, hj, e, z, rfl, hz⟩ := f_changed o ds hd rest n (k + 2) xs[i] hdi hxi (by omega)
          have c1 := cut_sub (xs := xs) (lo := none) (hi := some (i : Int))
          have c2 := cut_sub (xs := xs) (lo := some ((i : Int) + 1)) (hi := none)
          have s1 : (cutL xs none (some (i : Int))).length + 1 ≤ sizeLine := by rw [sizeLine_eq]; omega
          have s2 : (cutL xs none (some (i : Int)) ++ [z]).length + (cutL xs (some ((i : Int) + 1)) none).length ≤ sizeLine := by rw [List.length_append, sizeLine_eq]; simp only [List.length_cons, List.length_nil]; omega
          have hix : fIx (.p (.tup xs)) (pI i) (o :: Bx ds (k + 2) :: rest) = some (.p xs[i], o :: Bx ds (k + 2) :: rest) := by simp [fIx, atI_nat, hi]
          have eF : m2 (fAdd false) (m2 (fAdd false) (mSlice (fSl false) (mVar 1) oNone (oSome (mVar 2))) (mTup (aCons (mApp 2 (F__law_changed n) (aCons (mVar 0) (aCons (m2 fIx (mVar 1) (mVar 2)) aNil))) aNil))) (mSlice (fSl false) (mVar 1) (oSome (m2 (fAdd false) (mVar 2) (mD (.int 1)))) oNone)
              [some (.r 1), some (.p (.tup xs)), some (pI i)] (o :: Bx ds (k + 2) :: rest) = .ok (.p (.tup (cutL xs none (some (i : Int)) ++ [z] ++ cutL xs (some ((i : Int) + 1)) none))) (o :: Bx ds (k + 2 + j) :: rest) := by
            refine sv_2 (st1 := o :: Bx ds (k + 2 + j) :: rest) (st2 := o :: Bx ds (k + 2 + j) :: rest) (x := .p (.tup (cutL xs none (some (i : Int)) ++ [z]))) (y := .p (.tup (cutL xs (some ((i : Int) + 1)) none))) (sv_2 (st1 := o :: Bx ds (k + 2) :: rest) (st2 := o :: Bx ds (k + 2 + j) :: rest) (x := .p (.tup (cutL xs none (some (i : Int))))) (y := .p (.tup [z])) rfl (sv_tup (ds := [z]) (sa (sv_app (a2 rfl (ev_2 rfl rfl hix)) rfl e) rfl) (by simp)) ?_) rfl ?_
            · simp only [fAdd]
              exact if_pos s1
            · simp only [fAdd]
              exact if_pos s2
          refine ⟨.p (.tup (cutL xs none (some (i : Int)) ++ [z] ++ cutL xs (some ((i : Int) + 1)) none)), 2 + j, by omega, f_rt ((ss_no (st_orF eT (st_orF (et_val (hE.trans (by rw [← hxs]; rfl))) eD))).trans (es_asg eA rfl (es_ret (by simp only [List.length_cons]) ?_))), _, rfl, ?_⟩
          · rw [← Nat.add_assoc]
            exact eF
          · refine okD_of (by rw [List.length_append, List.length_append]; simp only [List.length_cons, List.length_nil]; omega) fun y hy => ?_
            rcases List.mem_append.mp hy with hy | hy
            · rcases List.mem_append.mp hy with hy | hy
              · exact orig_ok (hor y (c1.2 y hy))
              · rw [List.mem_singleton.mp hy]; exact hz
            · exact orig_ok (hor y (c2.2 y hy))
    | int i =>
      obtain ⟨v, j, hj, e, z, rfl, hz⟩ := f_other o ds hd rest k (.int i) ok (by omega)
      exact ⟨.p z, j, by omega, f_rt (ss_yes (et_orT eT) (es_ret rfl (sv_app (a2 rfl rfl) rfl e))), z, rfl, hz⟩
    | str t =>
      obtain ⟨v, j, hj, e, z, rfl, hz⟩ := f_other o ds hd rest k (.str t) ok (by omega)
      exact ⟨.p z, j, by omega, f_rt (ss_yes (et_orT eT) (es_ret rfl (sv_app (a2 rfl rfl) rfl e))), z, rfl, hz⟩
    | _ => cases ok
end K02
end
section
set_option Elab.async false
set_option linter.all false
set_option maxRecDepth 100000
set_option maxHeartbeats 2000000
namespace K02
open PySem PySem.Spec L2 Sl PyProof.Rows
theorem like_guard {e1 e2 : EM} {env : Slots} {st : Sto} {b : Bool} (h1 : e1 env st = .ok (yes b) st) (h2 : e2 env st = .ok (yes b) st) : tNotM (tTruth (mApp 2 (F__law_like 20) (aCons e1 (aCons e2 aNil)))) env st = .ok false st := by
  have e := et_not (et_truth (ev_app (a2 h1 h2) (n := 2) rfl (f_like_bl 19 b b st)))
  cases b <;> exact e
/-- the thing of a step: as drawn, or changed -/
theorem step_thing (o : SObj) (ds : List Int) (hd : Dg ds) (rest : Sto) (k : Nat) (hk : k + 10000 < 1000000000) {env : Slots} {s : Nat} {d : D} {i : Nat} (h1 : ∀ st, mVar 1 env st = .ok (.r 1) st) (h7 : ∀ st, mVar 7 env st = .ok (pI i) st) (hs : ∀ st, mVar s env st = .ok (.p d) st) (ok : orig d = true) (hdp : dep d < 20) :
    ∃ z j, j ≤ 60 ∧ okD z = true ∧ mIf (tVal (m2 fGt (mVar 7) (mD (.int 0)))) (mApp 2 (F__law_changed 20) (aCons (mVar 1) (aCons (mVar s) aNil))) (mVar s) env (o :: Bx ds k :: rest) = .ok (.p z) (o :: Bx ds (k + j) :: rest) := by
  have ht : tVal (m2 fGt (mVar 7) (mD (.int 0))) env (o :: Bx ds k :: rest) = .ok (decide ((0 : Int) < i)) (o :: Bx ds k :: rest) := et_val (ev_2 (h7 _) rfl rfl)
  cases q : decide ((0 : Int) < i) with
  | true =>
    rw [q] at ht
    obtain ⟨v, j, hj, e, z, rfl, hz⟩ := f_changed o ds hd rest 20 k d hdp ok (by omega)
    exact ⟨z, j, by omega, hz, sv_if ht (fun _ => sv_app (a2 (h1 _) (hs _)) rfl e) fun z => nomatch z⟩
  | false =>
    rw [q] at ht
    exact ⟨d, 0, by omega, orig_ok ok, sv_if ht (fun z => nomatch z) fun _ => hs _⟩
end K02
end
section
set_option Elab.async false
set_option linter.all false
set_option maxRecDepth 100000
set_option maxHeartbeats 2000000
namespace K02
open PySem PySem.Spec L2 Sl PyProof.Rows
noncomputable abbrev stepB (n0 : Nat) : SM := (sSeq (sAsg (mIf (tVal (m2 fGt (mVar 7) (mD (.int 0)))) (mApp 2 (F__law_changed 20) (aCons (mVar 1) (aCons (mVar 3) aNil))) (mVar 3)) (gN 8)) (sSeq (sIf (tNotM (tTruth (mApp 2 (F__law_like 20) (aCons (mApp 1 F_is_rows (aCons (mVar 8) aNil)) (aCons (mApp 1 F__law_is_rows (aCons (mVar 8) aNil)) aNil))))) (sSeq (sRet n0 (mD (.bl false))) sNil) sNil) (sSeq (sAsg (mIf (tVal (m2 fGt (mVar 7) (mD (.int 0)))) (mApp 2 (F__law_changed 20) (aCons (mVar 1) (aCons (mVar 5) aNil))) (mVar 5)) (gN 8)) (sSeq (sIf (tNotM (tTruth (mApp 2 (F__law_like 20) (aCons (mApp 2 F_is_terms (aCons (m2 fIx (mVar 3) (mD (.int 1))) (aCons (mVar 8) aNil))) (aCons (mApp 2 F__law_is_terms (aCons (m2 fIx (mVar 3) (mD (.int 1))) (aCons (mVar 8) aNil))) aNil))))) (sSeq (sRet n0 (mD (.bl false))) sNil) sNil) (sSeq (sAsg (mIf (tVal (m2 fGt (mVar 7) (mD (.int 0)))) (mApp 2 (F__law_changed 20) (aCons (mVar 1) (aCons (mVar 4) aNil))) (mVar 4)) (gN 8)) (sSeq (sIf (tNotM (tTruth (mApp 2 (F__law_like 20) (aCons (mApp 2 F_is_point (aCons (m2 fIx (mVar 3) (mD (.int 1))) (aCons (mVar 8) aNil))) (aCons (mApp 2 F__law_is_point (aCons (m2 fIx (mVar 3) (mD (.int 1))) (aCons (mVar 8) aNil))) aNil))))) (sSeq (sRet n0 (mD (.bl false))) sNil) sNil) (sSeq (sAsg (mIf (tVal (m2 fGt (mVar 7) (mD (.int 0)))) (mApp 2 (F__law_changed 20) (aCons (mVar 1) (aCons (mVar 6) aNil))) (mVar 6)) (gN 8)) (sSeq (sIf (tNotM (tTruth (mApp 2 (F__law_like 20) (aCons (mApp 2 F_is_factors (aCons (mVar 3) (aCons (mVar 8) aNil))) (aCons (mApp 2 F__law_is_factors (aCons (mVar 3) (aCons (mVar 8) aNil))) aNil))))) (sSeq (sRet n0 (mD (.bl false))) sNil) sNil) sNil))))))))
noncomputable abbrev turnB (n0 : Nat) : SM := (sSeq (sAsg (mApp 3 F__law_rows (aCons (mVar 1) (aCons (mApp 2 F__law_draw (aCons (mVar 1) (aCons (mD (.int 5)) aNil))) (aCons (mD (.int 6)) aNil)))) (gN 3)) (sSeq (sParN [4, 5] (aCons (mApp 2 F__law_drawn_point (aCons (mVar 1) (aCons (m2 fIx (mVar 3) (mD (.int 1))) aNil))) (aCons (mApp 3 F__law_terms (aCons (mVar 1) (aCons (m2 fIx (mVar 3) (mD (.int 1))) (aCons (mD (.int 99)) aNil)))) aNil))) (sSeq (sAsg (mCall fTuple (aCons (mComp false [9] (mIter (m2 fIx (mVar 3) (mD (.int 2)))) (gN 9) (tVal (m2 fGt (mApp 2 F__law_draw (aCons (mVar 1) (aCons (mD (.int 3)) aNil))) (mD (.int 0)))) (mTup (aCons (m2 fIx (mVar 9) (mD (.int 0))) (aCons (mApp 2 F__law_low (aCons (m2 (fAdd false) (mD (.int 1)) (mApp 2 F__law_draw (aCons (mVar 1) (aCons (mD (.int 5)) aNil)))) (aCons (m2 (fAdd false) (mD (.int 1)) (mApp 2 F__law_draw (aCons (mVar 1) (aCons (mD (.int 3)) aNil)))) aNil))) aNil)))) aNil)) (gN 6)) (sSeq (sIf (tAndM (tVal (m2 (fEq true) (mVar 6) (mTup aNil))) (tVal (m2 (fEq false) (mApp 2 F__law_draw (aCons (mVar 1) (aCons (mD (.int 2)) aNil))) (mD (.int 0))))) (sSeq (sAsg (m2 (fAdd false) (mTup (aCons (mTup (aCons (m2 fIx (m2 fIx (mVar 6) (mD (.int 0))) (mD (.int 0))) (aCons (mApp 2 F__law_scaled (aCons (m2 fIx (m2 fIx (mVar 6) (mD (.int 0))) (mD (.int 1))) (aCons (mNeg (mD (.int 1))) aNil))) aNil))) aNil)) (mSlice (fSl false) (mVar 6) (oSome (mD (.int 1))) oNone)) (gN 6)) sNil) sNil) (sSeq (sFor (mRng1 (aCons (mD (.int 4)) aNil)) (gN 7) (stepB n0)) sNil)))))
theorem law_eq (n0 : Nat) : B_law n0 = (sSeq (sAsg (mLst true (aCons (mApp 3 F__law_digits (aCons (mVar 0) (aCons (mD (.int 0)) (aCons (mD (.int 63)) aNil)))) (aCons (mD (.int 0)) aNil))) (gN 1)) (sSeq (sFor (mRng1 (aCons (mD (.int 3)) aNil)) (gN 2) (turnB n0)) (sSeq (sRet n0 (mD (.bl true))) sNil))) := rfl
theorem step_body (ns ds : List Int) (hd : Dg ds) (k : Nat) (hk : k + 100000 < 1000000000) {a0 a2' e8 e9 : Option Val} {ts : List T} {rs : List Row} {pt tm fc : D} (i : Nat) (hts : ∀ t ∈ ts, nameT t = true) (htl : ts.length ≤ 100) (hrl : rs.length ≤ 100) (hrk : ∀ r ∈ rs, r.kind = most ∨ r.kind = just)
    (o1 : orig (rowsOf ts rs) = true) (o2 : orig pt = true) (o3 : orig tm = true) (o4 : orig fc = true) (d1 : dep (rowsOf ts rs) < 20) (d2 : dep pt < 20) (d3 : dep tm < 20) (d4 : dep fc < 20) :
    ∃ z j, j ≤ 240 ∧ stepB 1 [a0, some (.r 1), a2', some (.p (rowsOf ts rs)), some (.p pt), some (.p tm), some (.p fc), some (pI i), e8, e9] [.scr ns, Bx ds k] =
      .nx [a0, some (.r 1), a2', some (.p (rowsOf ts rs)), some (.p pt), some (.p tm), some (.p fc), some (pI i), some (.p z), e9] [.scr ns, Bx ds (k + j)] := by
  obtain ⟨z1, j1, hj1, hz1, e1⟩ := step_thing (.scr ns) ds hd [] k (by omega) (env := [a0, some (.r 1), a2', some (.p (rowsOf ts rs)), some (.p pt), some (.p tm), some (.p fc), some (pI i), e8, e9]) (s := 3) (d := rowsOf ts rs) (i := i) (fun _ => rfl) (fun _ => rfl) (fun _ => rfl) o1 d1
  obtain ⟨z2, j2, hj2, hz2, e2⟩ := step_thing (.scr ns) ds hd [] (k + j1) (by omega) (env := [a0, some (.r 1), a2', some (.p (rowsOf ts rs)), some (.p pt), some (.p tm), some (.p fc), some (pI i), some (.p z1), e9]) (s := 5) (d := tm) (i := i) (fun _ => rfl) (fun _ => rfl) (fun _ => rfl) o3 d3
  obtain ⟨z3, j3, hj3, hz3, e3⟩ := step_thing (.scr ns) ds hd [] (k + j1 + j2) (by omega) (env := [a0, some (.r 1), a2', some (.p (rowsOf ts rs)), some (.p pt), some (.p tm), some (.p fc), some (pI i), some (.p z2), e9]) (s := 4) (d := pt) (i := i) (fun _ => rfl) (fun _ => rfl) (fun _ => rfl) o2 d2
  obtain ⟨z4, j4, hj4, hz4, e4⟩ := step_thing (.scr ns) ds hd [] (k + j1 + j2 + j3) (by omega) (env := [a0, some (.r 1), a2', some (.p (rowsOf ts rs)), some (.p pt), some (.p tm), some (.p fc), some (pI i), some (.p z3), e9]) (s := 6) (d := fc) (i := i) (fun _ => rfl) (fun _ => rfl) (fun _ => rfl) o4 d4
  refine ⟨z4, j1 + j2 + j3 + j4, by omega, ?_⟩
  have hn : ∀ (e : Option Val) (st : Sto), m2 fIx (mVar 3) (mD (.int 1)) [a0, some (.r 1), a2', some (.p (rowsOf ts rs)), some (.p pt), some (.p tm), some (.p fc), some (pI i), e, e9] st = .ok (.p (.tup (ts.map .str))) st := fun e st => ev_2 (x := .p (rowsOf ts rs)) (y := pI 1) rfl rfl rfl
  refine es_asg e1 rfl ((ss_in (like_guard (ev_app (a1 rfl) rfl (f_is_rows z1 _ hz1)) (ev_app (a1 rfl) rfl (f_law_is_rows z1 _ hz1)))).trans ?_)
  refine es_asg e2 rfl ((ss_in (like_guard (ev_app (a2 (hn _ _) rfl) rfl (f_is_terms ts z2 _ hz2)) (ev_app (a2 (hn _ _) rfl) rfl (f_law_is_terms ts z2 _ hz2 hts)))).trans ?_)
  refine es_asg e3 rfl ((ss_in (like_guard (ev_app (a2 (hn _ _) rfl) rfl (f_is_point ts z3 _ hz3 (by omega))) (ev_app (a2 (hn _ _) rfl) rfl (f_law_is_point ts z3 _ hz3 (by omega))))).trans ?_)
  refine es_asg e4 rfl ((ss_in (like_guard (ev_app (a2 rfl rfl) rfl (f_is_factors ts rs z4 _ hz4 hrk (by omega))) (ev_app (a2 rfl rfl) rfl (f_law_is_factors ts rs z4 _ hz4 hrk (by omega))))).trans ?_)
  show SR.nx _ _ = SR.nx _ _
  simp only [Nat.add_assoc, List.set_cons_succ, List.set_cons_zero]
end K02
end
section
set_option Elab.async false
set_option linter.all false
set_option maxRecDepth 100000
set_option maxHeartbeats 2000000
namespace K02
open PySem PySem.Spec L2 Sl PyProof.Rows
theorem name_len {t : T} (h : nameT t = true) : t.length ≤ 10 := by
  cases t with
  | nil => simp
  | cons c cs =>
    simp only [nameT, Bool.and_eq_true, decide_eq_true_eq] at h
    exact h.1.1
/-- data as drawn, of small depth -/
def Drawn (n : Nat) (d : D) : Prop := orig d = true ∧ dep d ≤ n
theorem drawn_tup {n : Nat} {ds : List D} (hl : ds.length ≤ 100) (h : ∀ d ∈ ds, Drawn n d) : Drawn (n + 1) (.tup ds) := by
  have h2 : depL ds ≤ n := by
    induction ds with
    | nil => simp [depL]
    | cons d ds ih =>
      have h1 := (h d (List.mem_cons_self ..)).2
      have h2 := ih (by simp only [List.length_cons] at hl; omega) fun e he => h e (List.mem_cons_of_mem _ he)
      simp only [depL]
      omega
  refine ⟨?_, by simp only [dep]; omega⟩
  simp only [orig, Bool.and_eq_true, decide_eq_true_eq]
  exact ⟨hl, origL_all.mpr fun d hd => (h d hd).1⟩
theorem drawn_str {n : Nat} {t : T} (h : t.length ≤ 50) : Drawn n (.str t) := ⟨by simpa [orig] using h, by simp [dep]⟩
theorem drawn_int {n : Nat} {i : Int} (h : i.natAbs ≤ 1000000) : Drawn n (.int i) := ⟨by simpa [orig] using h, by simp [dep]⟩
theorem Drawn.up {n m : Nat} {d : D} (h : Drawn n d) (hm : n ≤ m) : Drawn m d := ⟨h.1, by have := h.2; omega⟩
theorem drawn_2 {n : Nat} {x y : D} (h1 : Drawn n x) (h2 : Drawn n y) : Drawn (n + 1) (.tup [x, y]) := drawn_tup (by simp) fun d hd => by
  simp only [List.mem_cons, List.not_mem_nil, or_false] at hd
  rcases hd with rfl | rfl
  · exact h1
  · exact h2
theorem drawn_term {ts : List T} {m : Nat} (hm : m ≤ 1000) (ht : ∀ t ∈ ts, nameT t = true) {y : D} (h : TermP ts m y) : Drawn 2 y := by
  obtain ⟨t, i, rfl, h1, h2⟩ := h
  exact drawn_2 (drawn_str (by have := name_len (ht t h1); omega)) (drawn_int (by omega))
theorem drawn_point {ts : List T} (ht : ∀ t ∈ ts, nameT t = true) {y : D} (h : PointP ts y) : Drawn 3 y := by
  obtain ⟨t, a, b, rfl, h1, h2, h3⟩ := h
  exact drawn_2 (drawn_str (by have := name_len (ht t h1); omega)) (drawn_2 (drawn_int (by omega)) (drawn_int (by omega)))
theorem drawn_row {ts : List T} (htl : ts.length ≤ 100) (ht : ∀ t ∈ ts, nameT t = true) {r : Row} (h : RowP ts r) : Drawn 4 r.d := by
  obtain ⟨h1, h2, h3, ys, e, hl, hy⟩ := h
  refine drawn_tup (by simp) fun d hd => ?_
  simp only [List.mem_cons, List.not_mem_nil, or_false] at hd
  rcases hd with rfl | rfl | rfl | rfl
  · exact drawn_str (by omega)
  · rw [e]
    exact drawn_tup (by omega) fun y hyy => drawn_term (by omega) ht (hy y hyy)
  · rcases h2 with e2 | e2 <;> rw [e2] <;> exact drawn_str (by decide)
  · exact drawn_int (by omega)
theorem drawn_rows {ts : List T} {rs : List Row} (htl : ts.length ≤ 100) (ht : ∀ t ∈ ts, nameT t = true) (hrl : rs.length ≤ 100) (h : ∀ r ∈ rs, RowP ts r) : Drawn 6 (rowsOf ts rs) := by
  refine drawn_tup (by simp) fun d hd => ?_
  simp only [List.mem_cons, List.not_mem_nil, or_false] at hd
  rcases hd with rfl | rfl | rfl
  · exact drawn_str (by decide)
  · exact (drawn_tup (n := 1) (by simpa using htl) fun d hd => by
      obtain ⟨t, h1, rfl⟩ := List.mem_map.mp hd
      exact drawn_str (by have := name_len (ht t h1); omega)).up (by omega)
  · exact drawn_tup (by simpa using hrl) fun d hd => by
      obtain ⟨r, h1, rfl⟩ := List.mem_map.mp hd
      exact drawn_row htl ht (h r h1)
/-- the steps of a turn -/
theorem steps (ns ds : List Int) (hd : Dg ds) (k : Nat) (hk : k + 200000 < 1000000000) {a0 a2' e7 e8 e9 : Option Val} {ts : List T} {rs : List Row} {pt tm fc : D} (hts : ∀ t ∈ ts, nameT t = true) (htl : ts.length ≤ 100) (hrl : rs.length ≤ 100) (hr : ∀ r ∈ rs, RowP ts r)
    (o2 : Drawn 10 pt) (o3 : Drawn 10 tm) (o4 : Drawn 10 fc) :
    ∃ e7' e8' j, j ≤ 960 ∧ sFor (mRng1 (aCons (mD (.int 4)) aNil)) (gN 7) (stepB 1) [a0, some (.r 1), a2', some (.p (rowsOf ts rs)), some (.p pt), some (.p tm), some (.p fc), e7, e8, e9] [.scr ns, Bx ds k] =
      .nx [a0, some (.r 1), a2', some (.p (rowsOf ts rs)), some (.p pt), some (.p tm), some (.p fc), e7', e8', e9] [.scr ns, Bx ds (k + j)] := by
  have o1 := drawn_rows htl hts hrl hr
  have hrk : ∀ r ∈ rs, r.kind = most ∨ r.kind = just := fun r h => (hr r h).2.1
  unfold sFor
  rw [srng1 (n := 4) (st1 := [.scr ns, Bx ds k]) rfl (by omega)]
  refine forGo_post (Post := fun r => ∃ e7' e8' j, j ≤ 960 ∧ r = .nx [a0, some (.r 1), a2', some (.p (rowsOf ts rs)), some (.p pt), some (.p tm), some (.p fc), e7', e8', e9] [.scr ns, Bx ds (k + j)])
    (fun i env st => ∃ (e7' e8' : Option Val) (j : Nat), j ≤ 240 * i ∧ env = [a0, some (.r 1), a2', some (.p (rowsOf ts rs)), some (.p pt), some (.p tm), some (.p fc), e7', e8', e9] ∧ st = [.scr ns, Bx ds (k + j)]) ⟨e7, e8, 0, by omega, rfl, rfl⟩ ?_ ?_
  · rintro i x env st hx ⟨e7', e8', j, hj, rfl, rfl⟩
    have hi : i < 4 := by
      have := (List.getElem?_eq_some_iff.mp hx).1
      simpa [rngItems] using this
    have ex : x = pI i := by
      simp only [rngItems, List.getElem?_map] at hx
      rw [List.getElem?_range (by simpa using hi)] at hx
      simp at hx
      exact hx.symm
    subst ex
    refine ⟨rfl, [a0, some (.r 1), a2', some (.p (rowsOf ts rs)), some (.p pt), some (.p tm), some (.p fc), some (pI i), e8', e9], rfl, ?_⟩
    obtain ⟨z, j2, hj2, e⟩ := step_body ns ds hd (k + j) (by omega) (a0 := a0) (a2' := a2') (e8 := e8') (e9 := e9) (pt := pt) (tm := tm) (fc := fc) i hts htl hrl hrk o1.1 o2.1 o3.1 o4.1 (by have := o1.2; omega) (by have := o2.2; omega) (by have := o3.2; omega) (by have := o4.2; omega)
    rw [e]
    exact ⟨_, _, j + j2, by omega, rfl, by simp only [Nat.add_assoc]⟩
  · rintro env st ⟨e7', e8', j, hj, rfl, rfl⟩
    have hj2 : j ≤ 240 * 4 := by simpa [rngItems] using hj
    exact ⟨rfl, e7', e8', j, by omega, rfl⟩
end K02
end
section
set_option Elab.async false
set_option linter.all false
set_option maxRecDepth 100000
set_option maxHeartbeats 2000000
namespace K02
open PySem PySem.Spec L2 Sl PyProof.Rows
def FacP (y : D) : Prop := ∃ t a b, y = .tup [.str t, .tup [.int a, .int b]] ∧ t.length ≤ 10 ∧ a.natAbs ≤ 1000 ∧ 1 ≤ b ∧ b.natAbs ≤ 1000
theorem drawn_fac {y : D} (h : FacP y) : Drawn 3 y := by
  obtain ⟨t, a, b, rfl, h1, h2, h3, h4⟩ := h
  exact drawn_2 (drawn_str (by omega)) (drawn_2 (drawn_int (by omega)) (drawn_int (by omega)))
theorem low_pos {n b : Int} (hb : 1 ≤ b) : 1 ≤ b.fdiv (Int.gcd n b) := by
  have hg : 0 < Int.gcd n b := Int.gcd_pos_of_ne_zero_right _ (by omega)
  rw [Int.fdiv_eq_ediv_of_nonneg _ (by omega)]
  exact Int.ediv_pos_of_pos_of_dvd (by omega) (by omega) (Int.gcd_dvd_right ..)
theorem f_scaled (a b : Int) (st : Sto) (ha : a.natAbs ≤ 1000) (hb : 1 ≤ b) (hb2 : b.natAbs ≤ 1000) :
    F__law_scaled [.p (.tup [.int a, .int b]), pI (-1)] st = .ok (.p (.tup [.int ((a * (-1)).fdiv (Int.gcd (a * (-1)) b)), .int (b.fdiv (Int.gcd (a * (-1)) b))])) st := by
  have hmul : mulOk a (-1) = true := mulOk_small (by omega) (by decide)
  refine f_rt (es_ret rfl (ev_app (a2 (ev_2 (x := pI a) (y := pI (-1)) (ev_2 (x := .p (.tup [.int a, .int b])) (y := pI 0) rfl rfl rfl) rfl (by simp [fMul, hmul])) (ev_2 (x := .p (.tup [.int a, .int b])) (y := pI 1) rfl rfl rfl)) rfl (f_law_low (a * (-1)) b st hb (by omega))))
noncomputable abbrev facC : EM := mComp false [9] (mIter (m2 fIx (mVar 3) (mD (.int 2)))) (gN 9) (tVal (m2 fGt (mApp 2 F__law_draw (aCons (mVar 1) (aCons (mD (.int 3)) aNil))) (mD (.int 0)))) (mTup (aCons (m2 fIx (mVar 9) (mD (.int 0))) (aCons (mApp 2 F__law_low (aCons (m2 (fAdd false) (mD (.int 1)) (mApp 2 F__law_draw (aCons (mVar 1) (aCons (mD (.int 5)) aNil)))) (aCons (m2 (fAdd false) (mD (.int 1)) (mApp 2 F__law_draw (aCons (mVar 1) (aCons (mD (.int 3)) aNil)))) aNil))) aNil)))
theorem f_facs (ns ds : List Int) (hd : Dg ds) (k : Nat) (hk : k + 1000 < 1000000000) {a0 a2' e4 e5 e6 e7 e8 e9 : Option Val} {ts : List T} {rs : List Row} (hrl : rs.length ≤ 7) (hr : ∀ r ∈ rs, RowP ts r) :
    ∃ ys j, j ≤ 21 ∧ facC [a0, some (.r 1), a2', some (.p (rowsOf ts rs)), e4, e5, e6, e7, e8, e9] [.scr ns, Bx ds k] = .ok (.p (.lst ys)) [.scr ns, Bx ds (k + j)] ∧ ys.length ≤ 7 ∧ ∀ y ∈ ys, FacP y := by
  obtain ⟨ys, j, hj, e, hlen, hP⟩ := comp_draw (ow := [9]) (mi := mIter (m2 fIx (mVar 3) (mD (.int 2)))) (gm := gN 9) (mt := tVal (m2 fGt (mApp 2 F__law_draw (aCons (mVar 1) (aCons (mD (.int 3)) aNil))) (mD (.int 0)))) (me := mTup (aCons (m2 fIx (mVar 9) (mD (.int 0))) (aCons (mApp 2 F__law_low (aCons (m2 (fAdd false) (mD (.int 1)) (mApp 2 F__law_draw (aCons (mVar 1) (aCons (mD (.int 5)) aNil)))) (aCons (m2 (fAdd false) (mD (.int 1)) (mApp 2 F__law_draw (aCons (mVar 1) (aCons (mD (.int 3)) aNil)))) aNil))) aNil)))
    (env := [a0, some (.r 1), a2', some (.p (rowsOf ts rs)), e4, e5, e6, e7, e8, e9]) (o := .scr ns) (ds := ds) (k := k) (rest := []) (xs := rs.map Row.d) 3 FacP (iter_tupD (ev_2 (x := .p (rowsOf ts rs)) (y := pI 2) rfl rfl rfl)) (by simp; omega) fun x hx j hj => by
      obtain ⟨r, hrm, rfl⟩ := List.mem_map.mp hx
      rw [List.length_map] at hj
      obtain ⟨c, hc, ed⟩ := f_draw (.scr ns) ds hd [] (k + j) 3 (by omega) (by omega)
      obtain ⟨v, hv, ed1⟩ := f_draw (.scr ns) ds hd [] (k + j + 1) 5 (by omega) (by omega)
      obtain ⟨u, hu, ed2⟩ := f_draw (.scr ns) ds hd [] (k + j + 1 + 1) 3 (by omega) (by omega)
      refine ⟨_, rfl, _, 1, by omega, st_val (sv_2 (sv_app (a2 rfl rfl) rfl ed) rfl rfl), fun _ => ⟨_, 2, by omega, ?_, r.name, _, _, rfl, (hr r hrm).1, Nat.le_trans (fdiv_le (1 + (v : Int)) (Int.gcd (1 + (v : Int)) (1 + u))) (by omega), low_pos (n := 1 + (v : Int)) (b := 1 + (u : Int)) (by omega), Nat.le_trans (fdiv_le (1 + (u : Int)) (Int.gcd (1 + (v : Int)) (1 + u))) (by omega)⟩⟩
      exact sv_tup (ds := [.str r.name, .tup [.int ((1 + (v : Int)).fdiv (Int.gcd (1 + (v : Int)) (1 + u))), .int ((1 + (u : Int)).fdiv (Int.gcd (1 + (v : Int)) (1 + u)))]]) (sa (ev_2 (x := .p r.d) (y := pI 0) rfl rfl rfl) (sa (sv_app (sa (sv_2 rfl (sv_app (a2 rfl rfl) rfl ed1) rfl) (sa (sv_2 rfl (sv_app (a2 rfl rfl) rfl ed2) rfl) rfl)) rfl (f_law_low (1 + (v : Int)) (1 + (u : Int)) _ (by omega) (by omega))) rfl)) (by simp)
  rw [List.length_map] at hj hlen
  exact ⟨ys, j, by omega, e, by omega, hP⟩
end K02
end
section
set_option Elab.async false
set_option linter.all false
set_option maxRecDepth 100000
set_option maxHeartbeats 2000000
namespace K02
open PySem PySem.Spec L2 Sl PyProof.Rows
theorem ix_at {xs : List D} {i : Nat} {st : Sto} (hi : i < xs.length) : fIx (.p (.tup xs)) (pI i) st = some (.p xs[i], st) := by simp [fIx, atI_nat, hi]
theorem cut1 {x : D} {r : List D} : cutL (x :: r) (some 1) none = r := by
  have h1 : HT.sIx (x :: r).length 0 (some 1) = 1 := by
    simp [HT.sIx]
  have h2 : HT.sIx (x :: r).length (x :: r).length none = (x :: r).length := rfl
  unfold cutL
  rw [h1, h2]
  simp
noncomputable abbrev flipS : SM := sIf (tAndM (tVal (m2 (fEq true) (mVar 6) (mTup aNil))) (tVal (m2 (fEq false) (mApp 2 F__law_draw (aCons (mVar 1) (aCons (mD (.int 2)) aNil))) (mD (.int 0))))) (sSeq (sAsg (m2 (fAdd false) (mTup (aCons (mTup (aCons (m2 fIx (m2 fIx (mVar 6) (mD (.int 0))) (mD (.int 0))) (aCons (mApp 2 F__law_scaled (aCons (m2 fIx (m2 fIx (mVar 6) (mD (.int 0))) (mD (.int 1))) (aCons (mNeg (mD (.int 1))) aNil))) aNil))) aNil)) (mSlice (fSl false) (mVar 6) (oSome (mD (.int 1))) oNone)) (gN 6)) sNil) sNil
theorem flip_s (ns ds : List Int) (hd : Dg ds) (k : Nat) (hk : k + 1000 < 1000000000) {a0 a2' e3 e4 e5 e7 e8 e9 : Option Val} {ys : List D} (hl : ys.length ≤ 7) (hy : ∀ y ∈ ys, FacP y) :
    ∃ zs j, j ≤ 1 ∧ zs.length ≤ 7 ∧ (∀ z ∈ zs, FacP z) ∧ flipS [a0, some (.r 1), a2', e3, e4, e5, some (.p (.tup ys)), e7, e8, e9] [.scr ns, Bx ds k] = .nx [a0, some (.r 1), a2', e3, e4, e5, some (.p (.tup zs)), e7, e8, e9] [.scr ns, Bx ds (k + j)] := by
  have ok : orig (.tup ys) = true := (drawn_tup (n := 3) (by omega) fun d h => drawn_fac (hy d h)).1
  have hE : m2 (fEq true) (mVar 6) (mTup aNil) [a0, some (.r 1), a2', e3, e4, e5, some (.p (.tup ys)), e7, e8, e9] [.scr ns, Bx ds k] = .ok (yes (!deq (.tup ys) (.tup []))) [.scr ns, Bx ds k] := by
    refine ev_2 rfl (ev_tup (ds := []) rfl (by simp)) ?_
    have : eqOk (.tup ys) (.tup []) = true := by
      have hm : min (dep (.tup ys)) (dep (.tup [])) ≤ 64 := by
        simp only [dep, depL]
        omega
      have h2 := ok
      simp only [orig, Bool.and_eq_true, decide_eq_true_eq] at h2
      simp [eqOk, okL_noDct (origL_ok h2.2), noDct, noDctL, hm]
    simp [fEq, viewD, this]
  cases ys with
  | nil => exact ⟨[], 0, by omega, by simp, hy, ss_if (et_andF (et_val hE)) (fun h => nomatch h) (fun _ => rfl)⟩
  | cons y r =>
    obtain ⟨t, a, b, rfl, h1, h2, h3, h4⟩ := hy y (List.mem_cons_self ..)
    obtain ⟨v, hv, ed⟩ := f_draw (.scr ns) ds hd [] k 2 (by omega) (by omega)
    have eD : tVal (m2 (fEq false) (mApp 2 F__law_draw (aCons (mVar 1) (aCons (mD (.int 2)) aNil))) (mD (.int 0))) [a0, some (.r 1), a2', e3, e4, e5, some (.p (.tup (.tup [.str t, .tup [.int a, .int b]] :: r))), e7, e8, e9] [.scr ns, Bx ds k] = .ok (deq (.int v) (.int 0)) [.scr ns, Bx ds (k + 1)] :=
      st_val (sv_2 (sv_app (a2 rfl rfl) rfl ed) rfl rfl)
    cases hq : deq (.int (v : Nat)) (.int 0) with
    | false =>
      rw [hq] at eD
      exact ⟨_, 1, by omega, hl, hy, ss_if (st_andT (et_val hE) eD) (fun h => nomatch h) (fun _ => rfl)⟩
    | true =>
      rw [hq] at eD
      have hrl : r.length ≤ 6 := by simpa using hl
      refine ⟨.tup [.str t, .tup [.int ((a * (-1)).fdiv (Int.gcd (a * (-1)) b)), .int (b.fdiv (Int.gcd (a * (-1)) b))]] :: r, 1, by omega, hl, fun z hz => ?_, ss_if (st_andT (et_val hE) eD) (fun _ => es_asg (v := .p (.tup (.tup [.str t, .tup [.int ((a * (-1)).fdiv (Int.gcd (a * (-1)) b)), .int (b.fdiv (Int.gcd (a * (-1)) b))]] :: r))) (st' := [.scr ns, Bx ds (k + 1)]) ?_ rfl rfl) (fun h => nomatch h)⟩
      · rcases List.mem_cons.mp hz with rfl | hz
        · exact ⟨t, _, _, rfl, h1, Nat.le_trans (fdiv_le (a * (-1)) (Int.gcd (a * (-1)) b)) (by omega), low_pos h3, Nat.le_trans (fdiv_le b (Int.gcd (a * (-1)) b)) h4⟩
        · exact hy z (List.mem_cons_of_mem _ hz)
      · refine ev_2 (x := .p (.tup [.tup [.str t, .tup [.int ((a * (-1)).fdiv (Int.gcd (a * (-1)) b)), .int (b.fdiv (Int.gcd (a * (-1)) b))]]])) (y := .p (.tup r)) (ev_tup (ds := [.tup [.str t, .tup [.int ((a * (-1)).fdiv (Int.gcd (a * (-1)) b)), .int (b.fdiv (Int.gcd (a * (-1)) b))]]]) (a1 (ev_tup (ds := [.str t, .tup [.int ((a * (-1)).fdiv (Int.gcd (a * (-1)) b)), .int (b.fdiv (Int.gcd (a * (-1)) b))]]) (a2 (ev_2 (x := .p (.tup [.str t, .tup [.int a, .int b]])) (y := pI 0) (ev_2 (x := .p (.tup (.tup [.str t, .tup [.int a, .int b]] :: r))) (y := pI 0) rfl rfl (ix_at (i := 0) (by simp))) rfl rfl) (ev_app (a2 (ev_2 (x := .p (.tup [.str t, .tup [.int a, .int b]])) (y := pI 1) (ev_2 (x := .p (.tup (.tup [.str t, .tup [.int a, .int b]] :: r))) (y := pI 0) rfl rfl (ix_at (i := 0) (by simp))) rfl rfl) rfl) rfl (f_scaled a b _ h2 h3 h4))) (by simp))) (by simp)) ?_ ?_
        · exact congrArg (fun z => R.ok (Val.p (D.tup z)) [SObj.scr ns, Bx ds (k + 1)]) (cut1 (x := .tup [.str t, .tup [.int a, .int b]]) (r := r))
        · simp only [fAdd]
          exact if_pos (by simp only [List.length_cons, List.length_nil]; rw [sizeLine_eq]; omega)
end K02
end
section
set_option Elab.async false
set_option linter.all false
set_option maxRecDepth 100000
set_option maxHeartbeats 2000000
namespace K02
open PySem PySem.Spec L2 Sl PyProof.Rows
theorem es_par {is : List Nat} {am : AM} {env : Slots} {st st1 : Sto} {xs : List Val} (ha : am env st = .ok xs st1) (hl : xs.length = is.length) : sParN is am env st = .nx (setAll is xs env) st1 := by
  show R.then (am env st) env _ = _
  rw [ha]
  exact if_pos hl
theorem turn_body (ns ds : List Int) (hd : Dg ds) (k : Nat) (hk : k + 500000 < 1000000000) {a0 a2' e3 e4 e5 e6 e7 e8 e9 : Option Val} :
    ∃ f3 f4 f5 f6 f7 f8 j, j ≤ 3000 ∧ turnB 1 [a0, some (.r 1), a2', e3, e4, e5, e6, e7, e8, e9] [.scr ns, Bx ds k] = .nx [a0, some (.r 1), a2', f3, f4, f5, f6, f7, f8, e9] [.scr ns, Bx ds (k + j)] := by
  obtain ⟨v, hv, ed⟩ := f_draw (.scr ns) ds hd [] k 5 (by omega) (by omega)
  obtain ⟨j1, rs, hj1, hrl, hr, e1⟩ := f_rows ns ds hd v (by omega) (k + 1) (by omega)
  have hxl : (xs v).length = v := by simp [xs]
  have hxn := xs_name (many := v) (by omega)
  obtain ⟨_, j2, hj2, e2, pt, rfl, hpl, hpt⟩ := f_point (.scr ns) ds hd [] (k + 1 + j1) (xs v) (by omega) (by omega)
  obtain ⟨_, j3, hj3, e3', tm, rfl, htl, htm⟩ := f_terms (.scr ns) ds hd [] (k + 1 + j1 + j2) (xs v) 99 (by omega) (by omega) (by omega)
  obtain ⟨ys, j4, hj4, e4', hyl, hyP⟩ := f_facs ns ds hd (k + 1 + j1 + j2 + j3) (by omega) (a0 := a0) (a2' := a2') (e4 := some (.p (.tup pt))) (e5 := some (.p (.tup tm))) (e6 := e6) (e7 := e7) (e8 := e8) (e9 := e9) (ts := xs v) hrl hr
  obtain ⟨zs, j5, hj5, hzl, hzP, e5'⟩ := flip_s ns ds hd (k + 1 + j1 + j2 + j3 + j4) (by omega) (a0 := a0) (a2' := a2') (e3 := some (.p (rowsOf (xs v) rs))) (e4 := some (.p (.tup pt))) (e5 := some (.p (.tup tm))) (e7 := e7) (e8 := e8) (e9 := e9) hyl hyP
  obtain ⟨e7', e8', j6, hj6, e6'⟩ := steps ns ds hd (k + 1 + j1 + j2 + j3 + j4 + j5) (by omega) (a0 := a0) (a2' := a2') (e7 := e7) (e8 := e8) (e9 := e9) (pt := .tup pt) (tm := .tup tm) (fc := .tup zs) hxn (by omega) (by omega) hr
    ((drawn_tup (n := 3) (by omega) fun d h => drawn_point hxn (hpt d h)).up (by omega)) ((drawn_tup (n := 2) (by omega) fun d h => drawn_term (by omega) hxn (htm d h)).up (by omega)) ((drawn_tup (n := 3) (by omega) fun d h => drawn_fac (hzP d h)).up (by omega))
  refine ⟨some (.p (rowsOf (xs v) rs)), some (.p (.tup pt)), some (.p (.tup tm)), some (.p (.tup zs)), e7', e8', 1 + j1 + j2 + j3 + j4 + j5 + j6, by omega, ?_⟩
  have hn : ∀ (x y z : Option Val) (u w q : Option Val) (st : Sto), m2 fIx (mVar 3) (mD (.int 1)) [a0, some (.r 1), a2', some (.p (rowsOf (xs v) rs)), x, y, z, u, w, q] st = .ok (.p (.tup ((xs v).map .str))) st := fun _ _ _ _ _ _ st => ev_2 (x := .p (rowsOf (xs v) rs)) (y := pI 1) rfl rfl rfl
  refine es_asg (sv_app (sa rfl (sa (sv_app (a2 rfl rfl) rfl ed) (sa rfl rfl))) rfl e1) rfl ?_
  have ha : (aCons (mApp 2 F__law_drawn_point (aCons (mVar 1) (aCons (m2 fIx (mVar 3) (mD (.int 1))) aNil))) (aCons (mApp 3 F__law_terms (aCons (mVar 1) (aCons (m2 fIx (mVar 3) (mD (.int 1))) (aCons (mD (.int 99)) aNil)))) aNil)) [a0, some (.r 1), a2', some (.p (rowsOf (xs v) rs)), e4, e5, e6, e7, e8, e9] [.scr ns, Bx ds (k + 1 + j1)] = .ok [.p (.tup pt), .p (.tup tm)] [.scr ns, Bx ds (k + 1 + j1 + j2 + j3)] := sa (sv_app (a2 rfl (hn e4 e5 e6 e7 e8 e9 _)) rfl e2) (sa (sv_app (sa rfl (sa (hn e4 e5 e6 e7 e8 e9 _) (sa rfl rfl))) rfl e3') rfl)
  refine (seq_nx (env' := [a0, some (.r 1), a2', some (.p (rowsOf (xs v) rs)), some (.p (.tup pt)), some (.p (.tup tm)), e6, e7, e8, e9]) (st' := [.scr ns, Bx ds (k + 1 + j1 + j2 + j3)]) ?_).trans ?_
  · exact es_par ha rfl
  refine es_asg (v := .p (.tup ys)) (st' := [.scr ns, Bx ds (k + 1 + j1 + j2 + j3 + j4)]) (sv_call (sa e4' rfl) ?_) rfl ?_
  · simp only [fTuple, viewL, newTup, pureL_map]
    rw [if_pos (by rw [sizeLine_eq]; omega)]
  refine (seq_nx e5').trans ?_
  refine seq_end.trans ?_
  refine e6'.trans ?_
  simp only [Nat.add_assoc]
end K02
end
section
set_option Elab.async false
set_option linter.all false
set_option maxRecDepth 100000
set_option maxHeartbeats 2000000
namespace K02
open PySem PySem.Spec L2 Sl PyProof.Rows
theorem turns (ns ds : List Int) (hd : Dg ds) {a0 : Option Val} {e2 e3 e4 e5 e6 e7 e8 e9 : Option Val} :
    ∃ env j, sFor (mRng1 (aCons (mD (.int 3)) aNil)) (gN 2) (turnB 1) [a0, some (.r 1), e2, e3, e4, e5, e6, e7, e8, e9] [.scr ns, Bx ds 0] = .nx (a0 :: some (.r 1) :: env) [.scr ns, Bx ds j] := by
  unfold sFor
  rw [srng1 (n := 3) (st1 := [.scr ns, Bx ds 0]) rfl (by omega)]
  refine forGo_post (Post := fun r => ∃ env j, r = .nx (a0 :: some (.r 1) :: env) [.scr ns, Bx ds j])
    (fun i env st => ∃ (f2 f3 f4 f5 f6 f7 f8 f9 : Option Val) (j : Nat), j ≤ 3000 * i ∧ env = [a0, some (.r 1), f2, f3, f4, f5, f6, f7, f8, f9] ∧ st = [.scr ns, Bx ds j]) ⟨e2, e3, e4, e5, e6, e7, e8, e9, 0, by omega, rfl, rfl⟩ ?_ ?_
  · rintro i x env st hx ⟨f2, f3, f4, f5, f6, f7, f8, f9, j, hj, rfl, rfl⟩
    have hi : i < 3 := by
      have := (List.getElem?_eq_some_iff.mp hx).1
      simpa [rngItems] using this
    refine ⟨rfl, [a0, some (.r 1), some x, f3, f4, f5, f6, f7, f8, f9], rfl, ?_⟩
    obtain ⟨g3, g4, g5, g6, g7, g8, j2, hj2, e⟩ := turn_body ns ds hd j (by omega) (a0 := a0) (a2' := some x) (e3 := f3) (e4 := f4) (e5 := f5) (e6 := f6) (e7 := f7) (e8 := f8) (e9 := f9)
    rw [e]
    exact ⟨some x, g3, g4, g5, g6, g7, g8, f9, j + j2, by omega, rfl, rfl⟩
  · rintro env st ⟨f2, f3, f4, f5, f6, f7, f8, f9, j, hj, rfl, rfl⟩
    exact ⟨rfl, _, j, rfl⟩
theorem hF (ns : List Int) (hl : ns.length ≤ 63) (hn : ∀ z ∈ ns, z.natAbs.log2 < 1048577) : ∃ st, F_law [.r 0] [.scr ns] = .ok (.p (.bl true)) st := by
  obtain ⟨ds, hd, hdl, e⟩ := f_digits ns hn
  obtain ⟨env, j, et⟩ := turns ns ds hd (a0 := some (.r 0)) (e2 := none) (e3 := none) (e4 := none) (e5 := none) (e6 := none) (e7 := none) (e8 := none) (e9 := none)
  refine ⟨[.scr ns], f_rt ?_⟩
  show B_law 1 [some (.r 0), none, none, none, none, none, none, none, none, none] [.scr ns] = _
  rw [law_eq]
  refine es_asg (v := .r 1) (st' := [.scr ns, Bx ds 0]) ?_ rfl ?_
  · have ha : aCons (mApp 3 F__law_digits (aCons (mVar 0) (aCons (mD (.int 0)) (aCons (mD (.int 63)) aNil)))) (aCons (mD (.int 0)) aNil) [some (.r 0), none, none, none, none, none, none, none, none, none] [.scr ns] = .ok [.p (.lst (ds.map .int)), pI 0] [.scr ns] := sa (sv_app (sa rfl (sa rfl (sa rfl rfl))) rfl e) (sa rfl rfl)
    unfold mLst
    rw [ha]
    rfl
  refine (seq_nx et).trans ?_
  refine seq_end.trans ?_
  rfl
end K02
end
section
set_option Elab.async false
set_option linter.all false
set_option maxRecDepth 100000
set_option maxHeartbeats 0
namespace K02
open PySem PySem.Spec L2 Sl PyProof.Rows
/-! the head -/
def fn : List He.DefD := [⟨("is_whole", none), "is_whole", "is_whole", defArgs (top 5), defBody (top 5), defScope (top 5), [], []⟩, ⟨("is_between", none), "is_between", "is_between", defArgs (top 6), defBody (top 6), defScope (top 6), [], []⟩, ⟨("_has_only", none), "_has_only", "_has_only", defArgs (top 7), defBody (top 7), defScope (top 7), [], []⟩, ⟨("is_name", none), "is_name", "is_name", defArgs (top 8), defBody (top 8), defScope (top 8), [], []⟩, ⟨("is_fraction", none), "is_fraction", "is_fraction", defArgs (top 9), defBody (top 9), defScope (top 9), [], []⟩, ⟨("is_ascending", none), "is_ascending", "is_ascending", defArgs (top 16), defBody (top 16), defScope (top 16), [], []⟩, ⟨("is_pair", none), "is_pair", "is_pair", defArgs (top 17), defBody (top 17), defScope (top 17), [], []⟩, ⟨("is_names", none), "is_names", "is_names", defArgs (top 18), defBody (top 18), defScope (top 18), [], []⟩, ⟨("is_any_terms", none), "is_any_terms", "is_any_terms", defArgs (top 19), defBody (top 19), defScope (top 19), [], []⟩, ⟨("is_terms", none), "is_terms", "is_terms", defArgs (top 20), defBody (top 20), defScope (top 20), [], []⟩, ⟨("_is_row", none), "_is_row", "_is_row", defArgs (top 21), defBody (top 21), defScope (top 21), [], []⟩, ⟨("is_rows", none), "is_rows", "is_rows", defArgs (top 22), defBody (top 22), defScope (top 22), [], []⟩, ⟨("is_shares", none), "is_shares", "is_shares", defArgs (top 23), defBody (top 23), defScope (top 23), [], []⟩, ⟨("is_point", none), "is_point", "is_point", defArgs (top 24), defBody (top 24), defScope (top 24), [], []⟩, ⟨("is_factors", none), "is_factors", "is_factors", defArgs (top 25), defBody (top 25), defScope (top 25), [], []⟩, ⟨("_law_cell", none), "_law_cell", "_law_cell", defArgs (top 27), defBody (top 27), defScope (top 27), [], []⟩, ⟨("_law_digits", none), "_law_digits", "_law_digits", defArgs (top 28), defBody (top 28), defScope (top 28), [], []⟩, ⟨("_law_draw", none), "_law_draw", "_law_draw", defArgs (top 29), defBody (top 29), defScope (top 29), [], []⟩, ⟨("_law_like", none), "_law_like", "_law_like", defArgs (top 30), defBody (top 30), defScope (top 30), [], []⟩, ⟨("_law_is_name", none), "_law_is_name", "_law_is_name", defArgs (top 31), defBody (top 31), defScope (top 31), [], []⟩, ⟨("_law_whole", none), "_law_whole", "_law_whole", defArgs (top 32), defBody (top 32), defScope (top 32), [], []⟩, ⟨("_law_named", none), "_law_named", "_law_named", defArgs (top 33), defBody (top 33), defScope (top 33), [], []⟩, ⟨("_law_ascending", none), "_law_ascending", "_law_ascending", defArgs (top 34), defBody (top 34), defScope (top 34), [], []⟩, ⟨("_law_low", none), "_law_low", "_law_low", defArgs (top 35), defBody (top 35), defScope (top 35), [], []⟩, ⟨("_law_is_fraction", none), "_law_is_fraction", "_law_is_fraction", defArgs (top 36), defBody (top 36), defScope (top 36), [], []⟩, ⟨("_law_scaled", none), "_law_scaled", "_law_scaled", defArgs (top 37), defBody (top 37), defScope (top 37), [], []⟩, ⟨("_law_terms", none), "_law_terms", "_law_terms", defArgs (top 38), defBody (top 38), defScope (top 38), [], []⟩, ⟨("_law_rows", none), "_law_rows", "_law_rows", defArgs (top 39), defBody (top 39), defScope (top 39), [], []⟩, ⟨("_law_is_terms", none), "_law_is_terms", "_law_is_terms", defArgs (top 40), defBody (top 40), defScope (top 40), [], []⟩, ⟨("_law_is_rows", none), "_law_is_rows", "_law_is_rows", defArgs (top 41), defBody (top 41), defScope (top 41), [], []⟩, ⟨("_law_fractions", none), "_law_fractions", "_law_fractions", defArgs (top 42), defBody (top 42), defScope (top 42), [], []⟩, ⟨("_law_is_point", none), "_law_is_point", "_law_is_point", defArgs (top 43), defBody (top 43), defScope (top 43), [], []⟩, ⟨("_law_is_factors", none), "_law_is_factors", "_law_is_factors", defArgs (top 44), defBody (top 44), defScope (top 44), [], []⟩, ⟨("_law_drawn_point", none), "_law_drawn_point", "_law_drawn_point", defArgs (top 45), defBody (top 45), defScope (top 45), [], []⟩, ⟨("_law_other", none), "_law_other", "_law_other", defArgs (top 46), defBody (top 46), defScope (top 46), [], []⟩, ⟨("_law_changed", none), "_law_changed", "_law_changed", defArgs (top 47), defBody (top 47), defScope (top 47), [], []⟩, ⟨("law", none), "law", "law", defArgs (top 48), defBody (top 48), defScope (top 48), [], []⟩]
def fa_0 : List He.Fa := [.glo "is_whole", .glo "is_between", .glo "_has_only", .glo "is_name", .glo "is_fraction", .glo "is_ascending", .glo "is_pair", .glo "is_names", .glo "is_any_terms", .glo "is_terms", .glo "_is_row", .glo "is_rows", .glo "is_shares", .glo "is_point", .glo "is_factors", .glo "_law_cell", .glo "_law_digits", .glo "_law_draw", .glo "_law_like", .glo "_law_is_name", .glo "_law_whole", .glo "_law_named", .glo "_law_ascending", .glo "_law_low", .glo "_law_is_fraction", .glo "_law_scaled", .glo "_law_terms", .glo "_law_rows", .glo "_law_is_terms", .glo "_law_is_rows", .glo "_law_fractions", .glo "_law_is_point", .glo "_law_is_factors", .glo "_law_drawn_point", .glo "_law_other"]
def fa_1 : List He.Fa := [.glo "_law_changed", .glo "law", .free "abs", .free "all", .free "bool", .free "dict", .free "int", .free "isinstance", .free "len", .free "list", .free "range", .free "sorted", .free "str", .free "tuple", .str "LETTERS" "abcdefghijklmnopqrstuvwxyz", .str "DIGITS" "0123456789", .int "MOST_SIGNS" 10, .int "MOST_NAMES" 8, .int "MOST_ROWS" 20, .int "MOST_NUMBER" 99, .int "MOST_BOUND" 9999, .glo "KINDS"]
def fa : List He.Fa := fa_0 ++ fa_1
def exs (K : Frag) : List Bool := [noLst K, bltB K "gcd" "math.gcd", He.tupB K "KINDS" [.str "most", .str "just"]]
def ex (K : Frag) : Bool := (exs K).all id
theorem ex_at {K : Frag} {b : Bool} (i : Nat) (h : ex K = true) (e : (exs K)[i]? = some b := by rfl) : b = true := List.all_eq_true.mp h b (List.mem_of_getElem? e)
theorem facts {w : World} {K : Frag} {h : Heap} {mg : Str → Option Value} (X : K.In h) (G : h.Ns mainGlobals mg) (cd : He.SaysD fa fn K) (ex : ex K = true) : Fx K mg where
  g_abs := He.free_ok X G (cd.fact 37 rfl)
  g_all := He.free_ok X G (cd.fact 38 rfl)
  g_bool := He.free_ok X G (cd.fact 39 rfl)
  g_dict := He.free_ok X G (cd.fact 40 rfl)
  g_gcd := blt_ok X G (ex_at 1 ex)
  g_int := He.free_ok X G (cd.fact 41 rfl)
  g_isinstance := He.free_ok X G (cd.fact 42 rfl)
  g_len := He.free_ok X G (cd.fact 43 rfl)
  g_list := He.free_ok X G (cd.fact 44 rfl)
  g_range := He.free_ok X G (cd.fact 45 rfl)
  g_sorted := He.free_ok X G (cd.fact 46 rfl)
  g_str := He.free_ok X G (cd.fact 47 rfl)
  g_tuple := He.free_ok X G (cd.fact 48 rfl)
  v_LETTERS := gv_str (He.str_ok X G (cd.fact 49 rfl)) (by kernel_rfl)
  v_DIGITS := gv_str (He.str_ok X G (cd.fact 50 rfl)) (by kernel_rfl)
  v_MOST_SIGNS := gv_int (He.int_ok X G (cd.fact 51 rfl))
  v_MOST_NAMES := gv_int (He.int_ok X G (cd.fact 52 rfl))
  v_MOST_ROWS := gv_int (He.int_ok X G (cd.fact 53 rfl))
  v_MOST_NUMBER := gv_int (He.int_ok X G (cd.fact 54 rfl))
  v_MOST_BOUND := gv_int (He.int_ok X G (cd.fact 55 rfl))
  v_KINDS := gv_tup (He.glo_ok X G (cd.fact 56 rfl)) (ex_at 2 ex) rfl
  d_is_whole := def_of X G cd 0 0 rfl rfl
  d_is_between := def_of X G cd 1 1 rfl rfl
  d__has_only := def_of X G cd 2 2 rfl rfl
  d_is_name := def_of X G cd 3 3 rfl rfl
  d_is_fraction := def_of X G cd 4 4 rfl rfl
  d_is_ascending := def_of X G cd 5 5 rfl rfl
  d_is_pair := def_of X G cd 6 6 rfl rfl
  d_is_names := def_of X G cd 7 7 rfl rfl
  d_is_any_terms := def_of X G cd 8 8 rfl rfl
  d_is_terms := def_of X G cd 9 9 rfl rfl
  d__is_row := def_of X G cd 10 10 rfl rfl
  d_is_rows := def_of X G cd 11 11 rfl rfl
  d_is_shares := def_of X G cd 12 12 rfl rfl
  d_is_point := def_of X G cd 13 13 rfl rfl
  d_is_factors := def_of X G cd 14 14 rfl rfl
  d__law_cell := def_of X G cd 15 15 rfl rfl
  d__law_digits := def_of X G cd 16 16 rfl rfl
  d__law_draw := def_of X G cd 17 17 rfl rfl
  d__law_like := def_of X G cd 18 18 rfl rfl
  d__law_is_name := def_of X G cd 19 19 rfl rfl
  d__law_whole := def_of X G cd 20 20 rfl rfl
  d__law_named := def_of X G cd 21 21 rfl rfl
  d__law_ascending := def_of X G cd 22 22 rfl rfl
  d__law_low := def_of X G cd 23 23 rfl rfl
  d__law_is_fraction := def_of X G cd 24 24 rfl rfl
  d__law_scaled := def_of X G cd 25 25 rfl rfl
  d__law_terms := def_of X G cd 26 26 rfl rfl
  d__law_rows := def_of X G cd 27 27 rfl rfl
  d__law_is_terms := def_of X G cd 28 28 rfl rfl
  d__law_is_rows := def_of X G cd 29 29 rfl rfl
  d__law_fractions := def_of X G cd 30 30 rfl rfl
  d__law_is_point := def_of X G cd 31 31 rfl rfl
  d__law_is_factors := def_of X G cd 32 32 rfl rfl
  d__law_drawn_point := def_of X G cd 33 33 rfl rfl
  d__law_other := def_of X G cd 34 34 rfl rfl
  d__law_changed := def_of X G cd 35 35 rfl rfl
  d_law := def_of X G cd 36 36 rfl rfl
def loose_0 : List PySem.Str := [PySem.Str.ofString "is_whole", PySem.Str.ofString "is_between", PySem.Str.ofString "_has_only", PySem.Str.ofString "is_name", PySem.Str.ofString "is_fraction", PySem.Str.ofString "is_ascending", PySem.Str.ofString "is_pair", PySem.Str.ofString "is_names", PySem.Str.ofString "is_any_terms", PySem.Str.ofString "is_terms", PySem.Str.ofString "_is_row", PySem.Str.ofString "is_rows", PySem.Str.ofString "is_shares", PySem.Str.ofString "is_point", PySem.Str.ofString "is_factors", PySem.Str.ofString "_law_cell", PySem.Str.ofString "_law_digits", PySem.Str.ofString "_law_draw", PySem.Str.ofString "_law_like", PySem.Str.ofString "_law_is_name", PySem.Str.ofString "_law_whole", PySem.Str.ofString "_law_named", PySem.Str.ofString "_law_ascending", PySem.Str.ofString "_law_low", PySem.Str.ofString "_law_is_fraction", PySem.Str.ofString "_law_scaled", PySem.Str.ofString "_law_terms", PySem.Str.ofString "_law_rows", PySem.Str.ofString "_law_is_terms", PySem.Str.ofString "_law_is_rows", PySem.Str.ofString "_law_fractions", PySem.Str.ofString "_law_is_point", PySem.Str.ofString "_law_is_factors", PySem.Str.ofString "_law_drawn_point", PySem.Str.ofString "_law_other"]
def loose_1 : List PySem.Str := [PySem.Str.ofString "_law_changed", PySem.Str.ofString "LETTERS", PySem.Str.ofString "DIGITS", PySem.Str.ofString "MOST_SIGNS", PySem.Str.ofString "MOST_NAMES", PySem.Str.ofString "MOST_ROWS", PySem.Str.ofString "MOST_NUMBER", PySem.Str.ofString "MOST_BOUND", PySem.Str.ofString "KINDS"]
def loose : List PySem.Str := loose_0 ++ loose_1
abbrev Row0 : PySem.W.OpenRow := PySem.W.OpenLaw.row PySem.Challenge.rw_slopelands_k02_row_things
abbrev hk : PySem.W.Hook := He.hookX 4 fa fn [] [] ex
def ob (s : PySem.W.SharedT) : He.AlX := He.obsX 4 fa fn [] [] ex (HandSHeadRun.getT s)
theorem ob_eq (s : PySem.W.SharedT) : ob s = hk.obs s.abs := He.obsX_eq (HandSHeadRun.getT_eq s)
theorem run (w : World) : HandSHeadRun.RunEqI Row0 (PySem.W.view Row0.prog [0, 48]) hk ob 4000 loose w := by
  delta HandSHeadRun.RunEqI
  kernel_rfl
end K02
open PySem PySem.W PySem.Calls PyProof.Rows
theorem K02_holds (hF : ∀ ns : List Int, ns.length ≤ 63 → (∀ z ∈ ns, z.natAbs.log2 < 1048577) → ∃ st, K02.F_law [.r 0] [.scr ns] = .ok (.p (.bl true)) st) : PySem.Challenge.rw_slopelands_k02_row_things.Holds := by
  w_on; o_law
  refine HandSHeadRun.head_imp (r := OpenLaw.row PySem.Challenge.rw_slopelands_k02_row_things) (q := view (OpenLaw.row PySem.Challenge.rw_slopelands_k02_row_things).prog [0, 48]) (H := K02.hk) (ob := K02.ob) (M := 4000) (loose := K02.loose) (d := HandSHeadRun.topDef (OpenLaw.row PySem.Challenge.rw_slopelands_k02_row_things).prog 48) (kwd := []) K02.ob_eq K02.run
    (by kernel_rfl) (by kernel_rfl) (by kernel_rfl) (by rfl) (by first | assumption | decide +kernel) (by decide +kernel) ⟨rfl, rfl, rfl, rfl, rfl, by decide +kernel⟩ ?hw ?hc
  case hw => w_witness2
  case hc =>
    refine Sl.walk_sl (l := PySem.Challenge.rw_slopelands_k02_row_things) (n := 63) (k := 23) (x := "script") (Fs := K02.F_law) rfl (by decide) (by kernel_rfl) ⟨rfl, by decide, by decide⟩ hF ?F
    intro w mg fa h Y G hmg0
    obtain ⟨K, KX, c⟩ := Y
    have hmg : mg ("law" : PySem.Str) = some (.ref fa) := by
      have e : (HandSHeadRun.topDef (OpenLaw.row PySem.Challenge.rw_slopelands_k02_row_things).prog 48).name = ("law" : PySem.Str) := by kernel_rfl
      rw [← e]
      exact hmg0
    have F := K02.facts (w := w) KX G (Sl.says_d c.t) c.more
    obtain ⟨f, fd, FD, gm⟩ := F.d_law
    have e1 := gm.symm.trans hmg
    cases e1
    exact ⟨K, fd, fun _ => none, KX, K02.ex_at 0 c.more, fun s v => FD.bindsA (ps := ["script"]) (fun _ _ _ _ _ _ us hl => match us, hl with | [_], _ => rfl) s [v] rfl, fun base _ _ => K02.fn_law F FD⟩
end
theorem PySem.Challenge.cw_slopelands_k02_row_things_holds : PySem.Challenge.rw_slopelands_k02_row_things.Holds := by
  exact K02_holds K02.hF
