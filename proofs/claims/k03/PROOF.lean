import PyProof.Rows.All
import PySem.Challenge.RW_slopelands_k03_row_written_and_read
import Wide.All
import OpenK.AllK
import Wide.FinOn
import HandS.ForMost
import HandS.WordsExc
import HandS.TupAny
import HandS.DictComp
import HandS.Conv
import KE.KDictPairs
import HandS.Wide
import HandS.Deep
import HandS.TupLe
import HandS.IsInst
import HandS.FStr
import HandS.Gcd
import HandS.Walk
import HandS.WideBits
import KE.LtData
import HandS.RaiseMore
import KE.IntTextLaws
import HandS.Defaults
import KE.SortData
import HandS.More
import HandS.SetKeys
import HandS.EndBits
import HandS.Style
import KE.KStateDown
import HandS.Words
import HandS.Head0
import HandS.Head1
import HandS.Head2
import HandS.Head3
import HandS.HeadEnd
import HandS.HeadHook1
import HandS.HeadHook2
import HandS.HeadHook3
import HandS.HeadHook4
import HandS.Small
import HandS.Zip
import KE.GoesMore
import HandS.Exc
section
set_option Elab.async false
set_option linter.all false
set_option maxRecDepth 100000
set_option maxHeartbeats 0
namespace Sl
open PySem PySem.Spec PyProof.Rows L2
abbrev Frag := PySem.W.Frag
def noLst (K : Frag) : Bool := K.all fun p => !decide (p.2.cls = .type "list")
def plB (K : Frag) (x : Str) : Bool := match K.lookup (He.ga K x) with
  | some o => o.dict.isNone
  | none => false
end Sl
namespace K03
open PySem PySem.Spec L2 Sl PyProof.Rows
def top (i : Nat) : Stmt := PySem.Challenge.pw_slopelands_k03_row_written_and_read.main.body.getD i (.Pass ⟨0, 0, 0, 0⟩)
def fn : List He.DefD := [⟨("is_whole", none), "is_whole", "is_whole", defArgs (top 8), defBody (top 8), defScope (top 8), [], []⟩, ⟨("is_between", none), "is_between", "is_between", defArgs (top 9), defBody (top 9), defScope (top 9), [], []⟩, ⟨("_has_only", none), "_has_only", "_has_only", defArgs (top 10), defBody (top 10), defScope (top 10), [], []⟩, ⟨("is_name", none), "is_name", "is_name", defArgs (top 11), defBody (top 11), defScope (top 11), [], []⟩, ⟨("_is_written", none), "_is_written", "_is_written", defArgs (top 12), defBody (top 12), defScope (top 12), [], []⟩, ⟨("read_number", none), "read_number", "read_number", defArgs (top 13), defBody (top 13), defScope (top 13), [], []⟩, ⟨("is_ascending", none), "is_ascending", "is_ascending", defArgs (top 20), defBody (top 20), defScope (top 20), [], []⟩, ⟨("is_pair", none), "is_pair", "is_pair", defArgs (top 21), defBody (top 21), defScope (top 21), [], []⟩, ⟨("is_any_terms", none), "is_any_terms", "is_any_terms", defArgs (top 22), defBody (top 22), defScope (top 22), [], []⟩, ⟨("is_terms", none), "is_terms", "is_terms", defArgs (top 23), defBody (top 23), defScope (top 23), [], []⟩, ⟨("write_terms", none), "write_terms", "write_terms", defArgs (top 24), defBody (top 24), defScope (top 24), [], []⟩, ⟨("write_rows", none), "write_rows", "write_rows", defArgs (top 25), defBody (top 25), defScope (top 25), [], []⟩, ⟨("number_of", none), "number_of", "number_of", defArgs (top 26), defBody (top 26), defScope (top 26), [], []⟩, ⟨("terms_of", none), "terms_of", "terms_of", defArgs (top 27), defBody (top 27), defScope (top 27), [], []⟩, ⟨("_read_line", none), "_read_line", "_read_line", defArgs (top 28), defBody (top 28), defScope (top 28), [], []⟩, ⟨("_name_fault", none), "_name_fault", "_name_fault", defArgs (top 29), defBody (top 29), defScope (top 29), [], []⟩, ⟨("_row_fault", none), "_row_fault", "_row_fault", defArgs (top 30), defBody (top 30), defScope (top 30), [], []⟩, ⟨("_fault", none), "_fault", "_fault", defArgs (top 31), defBody (top 31), defScope (top 31), [], []⟩, ⟨("read_rows", none), "read_rows", "read_rows", defArgs (top 32), defBody (top 32), defScope (top 32), [], []⟩, ⟨("_law_cell", none), "_law_cell", "_law_cell", defArgs (top 34), defBody (top 34), defScope (top 34), [], []⟩, ⟨("_law_digits", none), "_law_digits", "_law_digits", defArgs (top 35), defBody (top 35), defScope (top 35), [], []⟩, ⟨("_law_draw", none), "_law_draw", "_law_draw", defArgs (top 36), defBody (top 36), defScope (top 36), [], []⟩, ⟨("_law_like", none), "_law_like", "_law_like", defArgs (top 37), defBody (top 37), defScope (top 37), [], []⟩, ⟨("_law_terms", none), "_law_terms", "_law_terms", defArgs (top 38), defBody (top 38), defScope (top 38), [], []⟩, ⟨("_law_rows", none), "_law_rows", "_law_rows", defArgs (top 39), defBody (top 39), defScope (top 39), [], []⟩, ⟨("_law_rows_text", none), "_law_rows_text", "_law_rows_text", defArgs (top 40), defBody (top 40), defScope (top 40), [], []⟩, ⟨("law", none), "law", "law", defArgs (top 41), defBody (top 41), defScope (top 41), [], []⟩]
def fa_0 : List He.Fa := [.glo "is_whole", .glo "is_between", .glo "_has_only", .glo "is_name", .glo "_is_written", .glo "read_number", .glo "is_ascending", .glo "is_pair", .glo "is_any_terms", .glo "is_terms", .glo "write_terms", .glo "write_rows", .glo "number_of", .glo "terms_of", .glo "_read_line", .glo "_name_fault", .glo "_row_fault", .glo "_fault", .glo "read_rows", .glo "_law_cell", .glo "_law_digits", .glo "_law_draw", .glo "_law_like", .glo "_law_terms", .glo "_law_rows", .glo "_law_rows_text", .glo "law", .free "all", .free "bool", .free "enumerate", .free "int", .free "isinstance", .free "len", .free "range", .free "sorted"]
def fa_1 : List He.Fa := [.free "str", .free "tuple", .str "LETTERS" "abcdefghijklmnopqrstuvwxyz", .str "DIGITS" "0123456789", .int "MOST_SIGNS" 10, .int "MOST_DIGITS" 9, .int "MOST_NAMES" 8, .int "MOST_ROWS" 20, .int "MOST_NUMBER" 99, .int "MOST_BOUND" 9999, .glo "KINDS"]
def fa : List He.Fa := fa_0 ++ fa_1
def exs (K : Frag) : List Bool := [noLst K, He.tupB K "KINDS" [.str "most", .str "just"], plB K "KINDS"]
def ex (K : Frag) : Bool := (exs K).all id
def loose_0 : List PySem.Str := [PySem.Str.ofString "is_whole", PySem.Str.ofString "is_between", PySem.Str.ofString "_has_only", PySem.Str.ofString "is_name", PySem.Str.ofString "_is_written", PySem.Str.ofString "read_number", PySem.Str.ofString "is_ascending", PySem.Str.ofString "is_pair", PySem.Str.ofString "is_any_terms", PySem.Str.ofString "is_terms", PySem.Str.ofString "write_terms", PySem.Str.ofString "write_rows", PySem.Str.ofString "number_of", PySem.Str.ofString "terms_of", PySem.Str.ofString "_read_line", PySem.Str.ofString "_name_fault", PySem.Str.ofString "_row_fault", PySem.Str.ofString "_fault", PySem.Str.ofString "read_rows", PySem.Str.ofString "_law_cell", PySem.Str.ofString "_law_digits", PySem.Str.ofString "_law_draw", PySem.Str.ofString "_law_like", PySem.Str.ofString "_law_terms", PySem.Str.ofString "_law_rows", PySem.Str.ofString "_law_rows_text", PySem.Str.ofString "LETTERS", PySem.Str.ofString "DIGITS", PySem.Str.ofString "MOST_SIGNS", PySem.Str.ofString "MOST_DIGITS", PySem.Str.ofString "MOST_NAMES", PySem.Str.ofString "MOST_ROWS", PySem.Str.ofString "MOST_NUMBER", PySem.Str.ofString "MOST_BOUND", PySem.Str.ofString "KINDS"]
def loose_1 : List PySem.Str := [PySem.Str.ofString "SlopeError", PySem.Str.ofString "BadText"]
def loose : List PySem.Str := loose_0 ++ loose_1
abbrev Row0 : PySem.W.OpenRow := PySem.W.OpenLaw.row PySem.Challenge.rw_slopelands_k03_row_written_and_read
abbrev hk : PySem.W.Hook := He.hookX 4 fa fn [] [] ex
def ob (s : PySem.W.SharedT) : He.AlX := He.obsX 4 fa fn [] [] ex (HandSHeadRun.getT s)
theorem ob_eq (s : PySem.W.SharedT) : ob s = hk.obs s.abs := He.obsX_eq (HandSHeadRun.getT_eq s)
theorem run (w : World) : HandSHeadRun.RunEqI Row0 (PySem.W.view Row0.prog [41]) hk ob 4000 loose w := by
  delta HandSHeadRun.RunEqI
  kernel_rfl
end K03
end
section
set_option Elab.async false
set_option linter.all false
set_option maxRecDepth 100000
namespace Sl
open PySem PySem.Spec PyProof.Rows L2
abbrev T := List Char
def toS (x : T) : Str := ⟨(x.map Char.toNat).toArray⟩
def tMax : Nat := 16000000
abbrev DK := Sum Int T
def toK : DK → Key
  | .inl i => .inl i
  | .inr x => .inr (toS x)
inductive D where
  | non | bl (b : Bool) | int (i : Int) | str (x : T) | tup (ds : List D) | lst (ds : List D) | dct (ks : List DK) (ds : List D)
inductive Val where
  | p (d : D) | r (l : Nat) | x (c : Str) (fs : List (Str × D))
inductive SObj where
  | lst (vs : List Val) | dct (ks : List DK) (vs : List Val) | ldct (ks : List DK) (vs : List Val) | ins (c : Str) (fs : List (Str × Val)) | scr (ns : List Int)
abbrev Sto := List SObj
abbrev Slots := List (Option Val)
inductive R (α : Type) where
  | fail | ok (a : α) (st : Sto) | exc (c : Str) (fs : List (Str × D)) (st : Sto)
def R.bind {α β : Type} (m : R α) (f : α → Sto → R β) : R β := match m with
  | .fail => .fail
  | .ok a st => f a st
  | .exc c fs st => .exc c fs st
def PlA (H : Hp) (a : Addr) : Prop := ∃ o vs, H a = some (.frz o (.tup vs)) ∧ o.dict = none
def Pl (K : Frag) (H : Hp) (a : Addr) : Prop := PlA H a ∨ ∃ o, K.lookup a = some o ∧ o.dict = none
mutual
inductive Rp (K : Frag) (F : Addr → Prop) (H : Hp) : V → D → Prop
  | non : Rp K F H .non .non
  | bl (b : Bool) : Rp K F H (.bl b) (.bl b)
  | int (i : Int) : Rp K F H (.int i) (.int i)
  | str (x : T) : x.length ≤ tMax → Rp K F H (.str (toS x)) (.str x)
  | tup {a : Addr} {vs : List V} {ds : List D} : SqT K H a vs → Pl K H a → RpL K F H vs ds → Rp K F H (.ref a) (.tup ds)
  | lst {a : Addr} {vs : List V} {ds : List D} : H a = some (.lst vs) → F a → RpL K F H vs ds → Rp K F H (.ref a) (.lst ds)
  | dct {a : Addr} {kvs : List (Key × V)} {ks : List DK} {ds : List D} : Rd H a (.dK kvs) → F a → kvs.map Prod.fst = ks.map toK → RpL K F H (kvs.map Prod.snd) ds → Rp K F H (.ref a) (.dct ks ds)
inductive RpL (K : Frag) (F : Addr → Prop) (H : Hp) : List V → List D → Prop
  | nil : RpL K F H [] []
  | cons {v : V} {vs : List V} {d : D} {ds : List D} : Rp K F H v d → RpL K F H vs ds → RpL K F H (v :: vs) (d :: ds)
end
section
variable {K : Frag} {F F' : Addr → Prop} {H H' : Hp}
structure Carry (F F' : Addr → Prop) (H H' : Hp) : Prop where
  tup : ∀ a vs, Rd H a (.tup vs) → Rd H' a (.tup vs)
  pl : ∀ a, PlA H a → PlA H' a
  lst : ∀ a vs, F a → H a = some (.lst vs) → H' a = some (.lst vs) ∧ F' a
  dct : ∀ a kvs, F a → Rd H a (.dK kvs) → Rd H' a (.dK kvs) ∧ F' a
theorem Carry.plK (c : Carry F F' H H') {a : Addr} (h : Pl K H a) : Pl K H' a := h.imp (c.pl a) id
theorem Carry.sqT (c : Carry F F' H H') {a : Addr} {vs : List V} (h : SqT K H a vs) : SqT K H' a vs := by
  rcases h with h | h
  · exact .inl (c.tup _ _ h)
  · exact .inr h
mutual
theorem Rp.carry (c : Carry F F' H H') : ∀ (d : D) (v : V), Rp K F H v d → Rp K F' H' v d
  | .non, _, h => by cases h; exact .non
  | .bl b, _, h => by cases h; exact .bl b
  | .int i, _, h => by cases h; exact .int i
  | .str x, _, h => by cases h with | str _ q => exact .str x q
  | .tup ds, _, h => by
    cases h with
    | tup h1 hp h2 => exact .tup (c.sqT h1) (c.plK hp) (RpL.carry c ds _ h2)
  | .lst ds, _, h => by
    cases h with
    | lst h1 h2 h3 =>
      obtain ⟨q1, q2⟩ := c.lst _ _ h2 h1
      exact .lst q1 q2 (RpL.carry c ds _ h3)
  | .dct ks ds, _, h => by
    cases h with
    | dct h1 h2 h3 h4 =>
      obtain ⟨q1, q2⟩ := c.dct _ _ h2 h1
      exact .dct q1 q2 h3 (RpL.carry c ds _ h4)
theorem RpL.carry (c : Carry F F' H H') : ∀ (ds : List D) (vs : List V), RpL K F H vs ds → RpL K F' H' vs ds
  | [], _, h => by cases h; exact .nil
  | d :: ds, _, h => by
    cases h with
    | cons h1 h2 => exact .cons (Rp.carry c d _ h1) (RpL.carry c ds _ h2)
end
theorem RpL.length : ∀ {vs : List V} {ds : List D}, RpL K F H vs ds → vs.length = ds.length
  | _, _, .nil => rfl
  | _, _, .cons _ h => by simp [RpL.length h]
theorem RpL.get : ∀ {vs : List V} {ds : List D} {i : Nat} {d : D}, RpL K F H vs ds → ds[i]? = some d → ∃ v, vs[i]? = some v ∧ Rp K F H v d
  | _, _, _, _, .nil, e => by simp at e
  | _, _, 0, _, .cons r _, e => by simp at e; subst e; exact ⟨_, rfl, r⟩
  | _, _, i + 1, _, .cons _ t, e => by
    obtain ⟨u, h1, h2⟩ := RpL.get (i := i) t (by simpa using e)
    exact ⟨u, by simpa using h1, h2⟩
theorem RpL.append : ∀ {vs vs' : List V} {ds ds' : List D}, RpL K F H vs ds → RpL K F H vs' ds' → RpL K F H (vs ++ vs') (ds ++ ds')
  | _, _, _, _, .nil, h => h
  | _, _, _, _, .cons r t, h => .cons r (RpL.append t h)
theorem RpL.take : ∀ {vs : List V} {ds : List D} (n : Nat), RpL K F H vs ds → RpL K F H (vs.take n) (ds.take n)
  | _, _, 0, _ => .nil
  | _, _, _ + 1, .nil => .nil
  | _, _, n + 1, .cons r t => .cons r (RpL.take n t)
theorem RpL.drop : ∀ {vs : List V} {ds : List D} (n : Nat), RpL K F H vs ds → RpL K F H (vs.drop n) (ds.drop n)
  | _, _, 0, h => h
  | _, _, _ + 1, .nil => .nil
  | _, _, n + 1, .cons r t => RpL.drop n t
theorem RpL.set {v : V} {d : D} (r : Rp K F H v d) : ∀ {vs : List V} {ds : List D} (n : Nat), RpL K F H vs ds → RpL K F H (vs.set n v) (ds.set n d)
  | _, _, _, .nil => .nil
  | _, _, 0, .cons _ t => .cons r t
  | _, _, n + 1, .cons q t => .cons q (RpL.set r n t)
theorem RpL.nil_iff {vs : List V} {ds : List D} (h : RpL K F H vs ds) : vs = [] ↔ ds = [] := by
  cases h <;> simp
end
theorem nodup_at {α : Type} {N : List α} (hN : N.Nodup) {i j : Nat} {x : α} (a : N[i]? = some x) (b : N[j]? = some x) : i = j := by
  obtain ⟨h1, e1⟩ := List.getElem?_eq_some_iff.mp a
  obtain ⟨h2, e2⟩ := List.getElem?_eq_some_iff.mp b
  exact (List.getElem_inj hN).mp (e1.trans e2.symm)
def Fz (hid μ : List Addr) : Addr → Prop := fun a => a ∉ μ ∧ a ∉ hid
def RpV (K : Frag) (hid : List Addr) (xs : List (Addr × Addr)) (μ : List Addr) (H : Hp) (v : V) : Val → Prop
  | .p d => Rp K (Fz hid μ) H v d
  | .r l => ∃ a, v = .ref a ∧ μ[l]? = some a
  | .x _ fs => ∃ a d fvs, v = .ref a ∧ (a, d) ∈ xs ∧ H d = some (.xd fvs) ∧ fvs.map Prod.fst = fs.map Prod.fst ∧ RpL K (Fz hid μ) H (fvs.map Prod.snd) (fs.map Prod.snd)
abbrev RpVs (K : Frag) (hid : List Addr) (μ : List Addr) (H : Hp) : List V → List Val → Prop := Paired (RpV K hid [] μ H)
def ObjRp (cls : Str → Option Addr) (K : Frag) (hid : List Addr) (μ : List Addr) (H : Hp) (a : Addr) : SObj → Prop
  | .lst vs => ∃ xs, H a = some (.lst xs) ∧ RpVs K hid μ H xs vs
  | .dct ks vs => ∃ kvs, H a = some (.dK kvs) ∧ kvs.map Prod.fst = ks.map toK ∧ RpVs K hid μ H (kvs.map Prod.snd) vs
  | .ldct ks vs => ∃ o kvs, H a = some (.frz o (.dK kvs)) ∧ kvs.map Prod.fst = ks.map toK ∧ RpVs K hid μ H (kvs.map Prod.snd) vs
  | .ins c fs => ∃ C dx fvs, cls c = some C ∧ H a = some (.ins C dx fvs) ∧ fvs.map Prod.fst = fs.map Prod.fst ∧ RpVs K hid μ H (fvs.map Prod.snd) (fs.map Prod.snd)
  | .scr ns => ∃ o, H a = some (.frz o (.lst (ns.map V.int)))
structure Grd where
  K : Frag
  cls : Str → Option Addr
  xs : List (Addr × Addr)
  hid : List Addr
structure Sim (G : Grd) (μ : List Addr) (H : Hp) (st : Sto) : Prop where
  len : μ.length = st.length
  nd : μ.Nodup
  obj : ∀ (l : Nat) (a : Addr) (o : SObj), μ[l]? = some a → st[l]? = some o → ObjRp G.cls G.K G.hid μ H a o
  hid : ∀ a ∈ G.hid, H a ≠ none
  dis : ∀ a ∈ G.hid, a ∉ μ
structure EnvRp (G : Grd) (μ : List Addr) (H : Hp) (env : Slots) (σ : L2.St) : Prop where
  len : env.length = σ.length
  at_ : ∀ (i : Nat) (x : Val), env[i]? = some (some x) → ∃ v, σ[i]? = some (some v) ∧ RpV G.K G.hid G.xs μ H v x
structure Ext0 (μ : List Addr) (H : Hp) (μ' : List Addr) (H' : Hp) : Prop where
  pre : μ <+: μ'
  tup : ∀ a vs, Rd H a (.tup vs) → Rd H' a (.tup vs)
  pl : ∀ a, PlA H a → PlA H' a
  lst : ∀ a vs, a ∉ μ → H a = some (.lst vs) → H' a = some (.lst vs)
  dcx : ∀ a kvs, a ∉ μ → Rd H a (.dK kvs) → H' a = H a
  xd : ∀ a fvs, H a = some (.xd fvs) → H' a = some (.xd fvs)
  fresh : ∀ a ∈ μ', a ∉ μ → H a = none
  on : ∀ a, H a ≠ none → H' a ≠ none
structure Ext (μ : List Addr) (H : Hp) (μ' : List Addr) (H' : Hp) : Prop extends Ext0 μ H μ' H' where
  fz : ∀ a o u, H a = some (.frz o u) → H' a = some (.frz o u)
theorem rd_some {H : Hp} {a : Addr} {u : HO} (h : Rd H a u) : H a ≠ none := by
  rcases h with h | ⟨o, h⟩ <;> rw [h] <;> exact fun z => nomatch z
section
variable {G : Grd} {K : Frag} {hid : List Addr} {xs : List (Addr × Addr)} {μ μ' μ'' : List Addr} {H H' H'' : Hp} {st : Sto} {env : Slots} {σ : L2.St}
theorem Ext.refl : Ext μ H μ H := ⟨⟨List.prefix_refl _, fun _ _ h => h, fun _ h => h, fun _ _ _ h => h, fun _ _ _ _ => rfl, fun _ _ h => h, fun _ h n => absurd h n, fun _ h => h⟩, fun _ _ _ h => h⟩
theorem Ext0.dct (e : Ext0 μ H μ' H') (a : Addr) (kvs : List (Key × V)) (h : a ∉ μ) (r : Rd H a (.dK kvs)) : Rd H' a (.dK kvs) := by
  unfold Rd at r ⊢
  rw [e.dcx a kvs h r]
  exact r
theorem Ext0.stay (e : Ext0 μ H μ' H') {a : Addr} (h : a ∉ μ) {u : HO} (r : Rd H a u) : a ∉ μ' := fun z => rd_some r (e.fresh a z h)
theorem Ext0.carry (e : Ext0 μ H μ' H') : Carry (Fz hid μ) (Fz hid μ') H H' :=
  ⟨e.tup, e.pl, fun a vs h r => ⟨e.lst a vs h.1 r, e.stay h.1 (.inl r), h.2⟩, fun a vs h r => ⟨e.dct a vs h.1 r, e.stay h.1 r, h.2⟩⟩
theorem Ext.dct (e : Ext μ H μ' H') (a : Addr) (kvs : List (Key × V)) (h : a ∉ μ) (r : Rd H a (.dK kvs)) : Rd H' a (.dK kvs) := e.toExt0.dct a kvs h r
theorem Ext.stay (e : Ext μ H μ' H') {a : Addr} (h : a ∉ μ) {u : HO} (r : Rd H a u) : a ∉ μ' := e.toExt0.stay h r
theorem Ext.carry (e : Ext μ H μ' H') : Carry (Fz hid μ) (Fz hid μ') H H' := e.toExt0.carry
theorem Ext.trans (e : Ext μ H μ' H') (f : Ext μ' H' μ'' H'') : Ext μ H μ'' H'' where
  pre := e.pre.trans f.pre
  tup := fun a vs h => f.tup a vs (e.tup a vs h)
  pl := fun a h => f.pl a (e.pl a h)
  lst := fun a vs h r => f.lst a vs (e.stay h (.inl r)) (e.lst a vs h r)
  dcx := fun a vs h r => (f.dcx a vs (e.stay h r) (e.dct a vs h r)).trans (e.dcx a vs h r)
  xd := fun a vs h => f.xd a vs (e.xd a vs h)
  on := fun a h => f.on a (e.on a h)
  fz := fun a o u h => f.fz a o u (e.fz a o u h)
  fresh := fun a h n => by
    by_cases q : a ∈ μ'
    · exact e.fresh a q n
    · have z := f.fresh a h q
      cases w : H a with
      | none => rfl
      | some o => exact absurd z (e.on a (by rw [w]; exact fun z => nomatch z))
theorem RpV.ext0 (e : Ext0 μ H μ' H') {v : V} : ∀ {x : Val}, RpV K hid xs μ H v x → RpV K hid xs μ' H' v x
  | .p d, h => Rp.carry e.carry d v h
  | .r l, ⟨a, h1, h2⟩ => ⟨a, h1, by
    obtain ⟨t, ht⟩ := e.pre
    rw [← ht, List.getElem?_append_left (List.getElem?_eq_some_iff.mp h2).1]
    exact h2⟩
  | .x _ fs, ⟨a, d, fvs, h1, h2, h3, h4, h5⟩ => ⟨a, d, fvs, h1, h2, e.xd _ _ h3, h4, RpL.carry e.carry _ _ h5⟩
theorem RpVs.ext0 (e : Ext0 μ H μ' H') : ∀ {vs : List V} {ys : List Val}, RpVs K hid μ H vs ys → RpVs K hid μ' H' vs ys
  | _, _, .nil => .nil
  | _, _, .cons r t => .cons (RpV.ext0 e r) (RpVs.ext0 e t)
theorem EnvRp.ext0 (e : Ext0 μ H μ' H') (h : EnvRp G μ H env σ) : EnvRp G μ' H' env σ :=
  ⟨h.len, fun i x q => let ⟨v, h1, h2⟩ := h.at_ i x q; ⟨v, h1, RpV.ext0 e h2⟩⟩
theorem RpV.ext (e : Ext μ H μ' H') {v : V} {x : Val} (h : RpV K hid xs μ H v x) : RpV K hid xs μ' H' v x := RpV.ext0 e.toExt0 h
theorem RpVs.ext (e : Ext μ H μ' H') {vs : List V} {ys : List Val} (h : RpVs K hid μ H vs ys) : RpVs K hid μ' H' vs ys := RpVs.ext0 e.toExt0 h
theorem EnvRp.ext (e : Ext μ H μ' H') (h : EnvRp G μ H env σ) : EnvRp G μ' H' env σ := EnvRp.ext0 e.toExt0 h
theorem Sim.upd0 {l : Nat} {a : Addr} {o : SObj} {u : HO} (s : Sim G μ H st) (hl : μ[l]? = some a) (e : Ext0 μ H μ (upd H a u)) (h : ObjRp G.cls G.K G.hid μ (upd H a u) a o) : Sim G μ (upd H a u) (st.set l o) where
  len := by rw [List.length_set]; exact s.len
  nd := s.nd
  hid := fun a h => e.on a (s.hid a h)
  dis := s.dis
  obj := fun j b w hj hw => by
    by_cases q : j = l
    · subst q
      rw [hl] at hj
      cases hj
      have hlt : j < st.length := by rw [← s.len]; exact (List.getElem?_eq_some_iff.mp hl).1
      rw [List.getElem?_set_self hlt] at hw
      cases hw
      exact h
    · have hb : b ≠ a := fun z => by
        subst z
        exact q (nodup_at s.nd hj hl)
      rw [List.getElem?_set_ne (Ne.symm q)] at hw
      have k := s.obj j b w hj hw
      cases w with
      | lst vs =>
        obtain ⟨xs, h1, h2⟩ := k
        exact ⟨xs, by rw [upd_ne hb]; exact h1, RpVs.ext0 e h2⟩
      | dct ks vs =>
        obtain ⟨kvs, h1, h2, h3⟩ := k
        exact ⟨kvs, by rw [upd_ne hb]; exact h1, h2, RpVs.ext0 e h3⟩
      | ldct ks vs =>
        obtain ⟨o, kvs, h1, h2, h3⟩ := k
        exact ⟨o, kvs, by rw [upd_ne hb]; exact h1, h2, RpVs.ext0 e h3⟩
      | ins c fs =>
        obtain ⟨C, dx, fvs, h0, h1, h2, h3⟩ := k
        exact ⟨C, dx, fvs, h0, by rw [upd_ne hb]; exact h1, h2, RpVs.ext0 e h3⟩
      | scr ns =>
        obtain ⟨o, h1⟩ := k
        exact ⟨o, by rw [upd_ne hb]; exact h1⟩
theorem Sim.upd {l : Nat} {a : Addr} {o : SObj} {u : HO} (s : Sim G μ H st) (hl : μ[l]? = some a) (e : Ext μ H μ (upd H a u)) (h : ObjRp G.cls G.K G.hid μ (upd H a u) a o) : Sim G μ (upd H a u) (st.set l o) := s.upd0 hl e.toExt0 h
theorem Ext.new {p : Addr} {u : HO} (hp : H p = none) : Ext μ H μ (upd H p u) where
  pre := List.prefix_refl _
  tup := fun a vs h => by
    have : a ≠ p := fun z => rd_some h (by rw [z]; exact hp)
    unfold Rd at h ⊢
    rw [upd_ne this]; exact h
  pl := fun a ⟨o, vs, h, hd⟩ => by
    have : a ≠ p := fun z => by rw [z, hp] at h; cases h
    exact ⟨o, vs, by rw [upd_ne this]; exact h, hd⟩
  lst := fun a vs _ h => by
    have : a ≠ p := fun z => by rw [z, hp] at h; cases h
    rw [upd_ne this]; exact h
  dcx := fun a vs _ h => upd_ne fun z => rd_some h (by rw [z]; exact hp)
  xd := fun a vs h => by
    have : a ≠ p := fun z => by rw [z, hp] at h; cases h
    rw [upd_ne this]; exact h
  fresh := fun a h n => absurd h n
  fz := fun a o v h => by
    have : a ≠ p := fun z => by rw [z, hp] at h; cases h
    rw [upd_ne this]; exact h
  on := fun a h => by
    by_cases z : a = p
    · rw [z, upd_same]; exact fun z => nomatch z
    · rw [upd_ne z]; exact h
theorem Sim.carry (s : Sim G μ H st) (e : Ext μ H μ H') (hs : ∀ (l : Nat) (a : Addr), μ[l]? = some a → H' a = H a) : Sim G μ H' st where
  len := s.len
  nd := s.nd
  hid := fun a h => e.on a (s.hid a h)
  dis := s.dis
  obj := fun j b w hj hw => by
    have k := s.obj j b w hj hw
    have hb := hs j b hj
    cases w with
    | lst vs =>
      obtain ⟨xs, h1, h2⟩ := k
      exact ⟨xs, hb.trans h1, RpVs.ext e h2⟩
    | dct ks vs =>
      obtain ⟨kvs, h1, h2, h3⟩ := k
      exact ⟨kvs, hb.trans h1, h2, RpVs.ext e h3⟩
    | ldct ks vs =>
      obtain ⟨o, kvs, h1, h2, h3⟩ := k
      exact ⟨o, kvs, hb.trans h1, h2, RpVs.ext e h3⟩
    | ins c fs =>
      obtain ⟨C, dx, fvs, h0, h1, h2, h3⟩ := k
      exact ⟨C, dx, fvs, h0, hb.trans h1, h2, RpVs.ext e h3⟩
    | scr ns =>
      obtain ⟨o, h1⟩ := k
      exact ⟨o, hb.trans h1⟩
theorem ObjRp.some {cls : Str → Option Addr} {a : Addr} {o : SObj} (h : ObjRp cls K hid μ H a o) : H a ≠ none := by
  cases o with
  | lst vs => obtain ⟨xs, h1, h2⟩ := h; rw [h1]; exact fun z => nomatch z
  | dct ks vs => obtain ⟨xs, h1, h2⟩ := h; rw [h1]; exact fun z => nomatch z
  | ldct ks vs => obtain ⟨o, xs, h1, h2⟩ := h; rw [h1]; exact fun z => nomatch z
  | ins c fs => obtain ⟨C, dx, fvs, h0, h1, h2⟩ := h; rw [h1]; exact fun z => nomatch z
  | scr ns => obtain ⟨o, h1⟩ := h; rw [h1]; exact fun z => nomatch z
theorem Sim.at_some (s : Sim G μ H st) {l : Nat} {a : Addr} (h : μ[l]? = some a) : H a ≠ none := by
  have hl : l < st.length := by rw [← s.len]; exact (List.getElem?_eq_some_iff.mp h).1
  exact (s.obj l a st[l] h (by simp [hl])).some
theorem Sim.new {p : Addr} {u : HO} (s : Sim G μ H st) (hp : H p = none) : Sim G μ (L2.upd H p u) st :=
  s.carry (Ext.new hp) fun l a h => upd_ne fun z => s.at_some h (by rw [z]; exact hp)
theorem Ext.push {p : Addr} {u : HO} (hp : H p = none) : Ext μ H (μ ++ [p]) (L2.upd H p u) :=
  { (Ext.new (μ := μ) (u := u) hp) with
    pre := ⟨[p], rfl⟩
    fresh := fun a h n => by
      rcases List.mem_append.mp h with h | h
      · exact absurd h n
      · rw [List.mem_singleton.mp h]; exact hp }
theorem Sim.push {p : Addr} {u : HO} {o : SObj} (s : Sim G μ H st) (hp : H p = none) (h : ObjRp G.cls G.K G.hid (μ ++ [p]) (L2.upd H p u) p o) : Sim G (μ ++ [p]) (L2.upd H p u) (st ++ [o]) where
  len := by simp [s.len]
  hid := fun a h => (Ext.push (μ := μ) (u := u) hp).on a (s.hid a h)
  dis := fun a h z => by
    rcases List.mem_append.mp z with z | z
    · exact s.dis a h z
    · exact s.hid a h (by rw [List.mem_singleton.mp z]; exact hp)
  nd := by
    rw [List.nodup_append]
    refine ⟨s.nd, by simp, fun a ha b hb => ?_⟩
    rw [List.mem_singleton.mp hb]
    intro z
    subst z
    obtain ⟨l, hl, e⟩ := List.getElem_of_mem ha
    exact s.at_some (l := l) (a := a) (by simp [hl, e]) hp
  obj := fun j b w hj hw => by
    have e := Ext.push (μ := μ) (u := u) hp
    by_cases q : j < μ.length
    · rw [List.getElem?_append_left q] at hj
      rw [List.getElem?_append_left (by rw [← s.len]; exact q)] at hw
      have hb : b ≠ p := fun z => s.at_some hj (by rw [z]; exact hp)
      have k := s.obj j b w hj hw
      cases w with
      | lst vs =>
        obtain ⟨xs, h1, h2⟩ := k
        exact ⟨xs, by rw [upd_ne hb]; exact h1, RpVs.ext e h2⟩
      | dct ks vs =>
        obtain ⟨kvs, h1, h2, h3⟩ := k
        exact ⟨kvs, by rw [upd_ne hb]; exact h1, h2, RpVs.ext e h3⟩
      | ldct ks vs =>
        obtain ⟨o, kvs, h1, h2, h3⟩ := k
        exact ⟨o, kvs, by rw [upd_ne hb]; exact h1, h2, RpVs.ext e h3⟩
      | ins c fs =>
        obtain ⟨C, dx, fvs, h0, h1, h2, h3⟩ := k
        exact ⟨C, dx, fvs, h0, by rw [upd_ne hb]; exact h1, h2, RpVs.ext e h3⟩
      | scr ns =>
        obtain ⟨o, h1⟩ := k
        exact ⟨o, by rw [upd_ne hb]; exact h1⟩
    · have hjl : j = μ.length := by
        have := (List.getElem?_eq_some_iff.mp hj).1
        simp at this
        omega
      subst hjl
      rw [List.getElem?_append_right (Nat.le_refl _)] at hj
      rw [List.getElem?_append_right (by rw [s.len]; exact Nat.le_refl _)] at hw
      simp at hj
      rw [s.len] at hw
      simp at hw
      subst hj
      subst hw
      exact h
end
abbrev Grd.h (G : Grd) (h : List Addr) : Grd := { G with hid := h }
section
variable {G : Grd} {K : Frag} {hid hid' : List Addr} {xs : List (Addr × Addr)} {μ μ' : List Addr} {H H' : Hp} {st : Sto} {env : Slots} {σ : L2.St}
theorem Ext.carryH (e : Ext μ H μ' H') (hh : ∀ a ∈ hid', a ∈ hid ∨ H a = none) : Carry (Fz hid μ) (Fz hid' μ') H H' :=
  ⟨e.tup, e.pl, fun a vs h r => ⟨e.lst a vs h.1 r, e.stay h.1 (.inl r), fun z => (hh a z).elim h.2 fun q => by rw [r] at q; cases q⟩,
    fun a vs h r => ⟨e.dct a vs h.1 r, e.stay h.1 r, fun z => (hh a z).elim h.2 fun q => rd_some r q⟩⟩
theorem RpV.extH (e : Ext μ H μ' H') (hh : ∀ a ∈ hid', a ∈ hid ∨ H a = none) {v : V} : ∀ {x : Val}, RpV K hid xs μ H v x → RpV K hid' xs μ' H' v x
  | .p d, h => Rp.carry (e.carryH hh) d v h
  | .r l, h => RpV.ext (hid := hid) e (x := .r l) h
  | .x _ fs, ⟨a, d, fvs, h1, h2, h3, h4, h5⟩ => ⟨a, d, fvs, h1, h2, e.xd _ _ h3, h4, RpL.carry (e.carryH hh) _ _ h5⟩
theorem RpVs.extH (e : Ext μ H μ' H') (hh : ∀ a ∈ hid', a ∈ hid ∨ H a = none) : ∀ {vs : List V} {ys : List Val}, RpVs K hid μ H vs ys → RpVs K hid' μ' H' vs ys
  | _, _, .nil => .nil
  | _, _, .cons r t => .cons (RpV.extH e hh r) (RpVs.extH e hh t)
theorem EnvRp.extH {h h' : List Addr} (e : Ext μ H μ' H') (hh : ∀ a ∈ h', a ∈ h ∨ H a = none) (r : EnvRp (G.h h) μ H env σ) : EnvRp (G.h h') μ' H' env σ :=
  ⟨r.len, fun i x q => let ⟨v, h1, h2⟩ := r.at_ i x q; ⟨v, h1, RpV.extH e hh h2⟩⟩
end
end Sl
end
section
set_option Elab.async false
set_option linter.all false
set_option maxRecDepth 100000
set_option maxHeartbeats 1000000
namespace Sl
open PySem PySem.Spec PyProof.Rows L2
abbrev tupObj (us : List Value) : Obj := { cls := .type "tuple", data := .seq us.toArray }
section
variable {X : Cx} {e : Expr} {es : List Expr} {t : TA} {pos : Pos}
def tTupF (t : TA) : TE := fun σ H Q => t σ H fun xs H1 => xs.length ≤ sizeLine ∧ ∀ p o, H1 p = none → o.dict = none → Q (.ref p) (upd H1 p (.frz o (.tup xs)))
theorem pe_tupF {x1} (h : PA X es t) : PE X (.Tuple es x1 pos) (tTupF t) := by
  refine ⟨fun pins s σ H Q I hq => ?_⟩
  refine wpAny_Tuple_spliced (thn (h.run pos pins s σ H _ I hq) fun us s1 ⟨xs, H1, I1, r, z, q⟩ => ⟨by rw [← r.length]; exact z, ?_⟩)
  have hf : H1 s1.heap.objs.size = none := I1.hok.fresh (Nat.le_refl _)
  refine ⟨.ref s1.heap.objs.size, upd H1 s1.heap.objs.size (.frz (tupObj us) (.tup xs)), I1.laid (t' := s1.toks) (fun b u e => Heap.get?_push_of_some _ e) (Nat.le_refl _) ?_, rfl, q _ _ hf rfl⟩
  exact ⟨Heap.get?_push_size _ rfl, z, us, r, ⟨_, Heap.get?_push_size _ rfl, rfl, _, rfl⟩⟩
def rTupleX (K : Frag) : List V → Hp → VK → Prop := fun xs H Q => ∃ p ys, xs = [.ref p] ∧ ((SqL K H p ys ∧ ∀ l o, H l = none → o.dict = none → Q (.ref l) (upd H l (.frz o (.tup ys)))) ∨ (SqT K H p ys ∧ Q (.ref p) H))
theorem cr_tupleX : CallR X (.type "tuple") (rTupleX X.K) := by
  intro pins s σ H xs us Q I r h
  obtain ⟨p, ys, rfl, h⟩ := h
  obtain ⟨u, rfl, ru⟩ := vals1 r
  rcases h with ⟨hs, q⟩ | ⟨hs, q⟩
  · obtain rfl : u = .ref p := ru
    obtain ⟨its, rv, pl, hz⟩ := I.list hs
    refine call_tuple_list pl.isList (fun h' hk => ?_) (by rw [List.size_toArray, ← rv.length]; exact hz)
    have I1 : Inv X pins σ H { s with heap := h' } := I.kept (t' := s.toks) hk
    have I2 : Inv X pins σ (upd H h'.objs.size (.frz (tupObj its) (.tup ys))) { s with heap := h'.push (tupObj its) } :=
      I1.laid (t' := s.toks) (fun b o e => Heap.get?_push_of_some _ e) (Nat.le_refl _) (show ObjOk X.prog X.w _ _ _ (.frz (tupObj its) (.tup ys)) from ⟨Heap.get?_push_size _ rfl, hz, its, rv, IsTup.new _ _⟩)
    exact ⟨.ref h'.objs.size, upd H h'.objs.size (.frz (tupObj its) (.tup ys)), I2, rfl, q _ _ (I1.hok.fresh (Nat.le_refl _)) rfl⟩
  · obtain rfl : u = .ref p := ru
    obtain ⟨its, rv, pl, hz⟩ := I.tuple hs
    exact call_tuple_tup pl ⟨.ref p, H, I, rfl, q⟩
def rCatF (K : PySem.W.Frag) : R2 := fun x y H Q => ∃ a b xs ys, x = .ref a ∧ y = .ref b ∧ SqT K H a xs ∧ SqT K H b ys ∧ xs.length + ys.length ≤ sizeLine ∧
  (xs = [] → Q (.ref b) H) ∧ (xs ≠ [] → ys = [] → Q (.ref a) H) ∧ (xs ≠ [] → ys ≠ [] → ∀ p o, H p = none → o.dict = none → Q (.ref p) (upd H p (.frz o (.tup (xs ++ ys)))))
theorem op_catF : OpR X (binaryOp .Add) (rCatF X.K) := by
  intro pins s σ H x y v u Q I rx ry h
  obtain ⟨a, b, xs, ys, rfl, rfl, ha, hb, hz, q0, q1, q2⟩ := h
  cases rx
  cases ry
  obtain ⟨its, r1, p1, _⟩ := I.tuple ha
  obtain ⟨its2, r2, p2, _⟩ := I.tuple hb
  by_cases hx : xs = []
  · subst hx
    cases r1
    exact cat_tup0 p1 p2 ⟨.ref b, H, I, rfl, q0 rfl⟩
  · refine HT.cat_tup p1 p2 (fun z => hx (r1.nil_iff.mp z)) (fun z => ⟨.ref a, H, I, rfl, q1 hx (r2.nil_iff.mp z)⟩) (fun z => ?_) (by rw [← r1.length, ← r2.length]; exact hz)
    refine ⟨.ref s.heap.objs.size, _, I.laid (t' := s.toks) (o := .frz (tupObj (its ++ its2)) (.tup (xs ++ ys))) (fun b ob q => Heap.get?_push_of_some _ q) (Nat.le_refl _) ?_, rfl, q2 hx (fun w => z (r2.nil_iff.mpr w)) _ _ (I.hok.fresh (Nat.le_refl _)) rfl⟩
    exact ⟨Heap.get?_push_size _ rfl, by rw [List.length_append]; exact hz, _, r1.append r2, IsTup.new _ _⟩
def rSlF (K : PySem.W.Frag) : V → Option Int → Option Int → Hp → VK → Prop := fun x lo hi H Q => ∃ a xs, x = .ref a ∧ SqT K H a xs ∧
  (HT.sIx xs.length 0 lo = 0 ∧ HT.sIx xs.length xs.length hi = xs.length → Q (.ref a) H) ∧ (¬ (HT.sIx xs.length 0 lo = 0 ∧ HT.sIx xs.length xs.length hi = xs.length) → ∀ p o, H p = none → o.dict = none → Q (.ref p) (upd H p (.frz o (.tup (cutV xs lo hi)))))
theorem sl_tupF : SlR X (rSlF X.K) := by
  intro pins s σ H x v vl vu lo hi sl Q I rx hs pl pu h
  obtain ⟨a, xs, rfl, hx, q1, q2⟩ := h
  cases rx
  obtain ⟨its, r, ht, hz⟩ := I.tuple hx
  have hlen : its.toArray.size = xs.length := by rw [List.size_toArray]; exact r.length.symm
  refine ⟨"tuple", _, PyProof.Rows.slot_tuple_getitem.lookup, ht.typeIs, ?_⟩
  by_cases hw : HT.sIx xs.length 0 lo = 0 ∧ HT.sIx xs.length xs.length hi = xs.length
  · exact getItem_tuple_whole ht hs pl pu (by rw [hlen]; exact hw) ⟨.ref a, H, I, rfl, q1 hw⟩
  · refine HT.getItem_tuple_cut ht hs pl pu (by rw [hlen]; exact hw) ?_ (by rw [hlen]; exact hz)
    rw [hlen]
    refine ⟨.ref s.heap.objs.size, _, I.laid (t' := s.toks) (o := .frz (tupObj ((its.drop (HT.sIx xs.length 0 lo)).take (HT.sIx xs.length xs.length hi - HT.sIx xs.length 0 lo))) (.tup (cutV xs lo hi))) (fun b ob q => Heap.get?_push_of_some _ q) (Nat.le_refl _) ?_, rfl, q2 hw _ _ (I.hok.fresh (Nat.le_refl _)) rfl⟩
    exact ⟨Heap.get?_push_size _ rfl, Nat.le_trans (cutV_length xs lo hi) hz, _, (r.drop (HT.sIx xs.length 0 lo)).take (HT.sIx xs.length xs.length hi - HT.sIx xs.length 0 lo), IsTup.new _ _⟩
end
end Sl
end
section
set_option Elab.async false
set_option linter.all false
set_option maxRecDepth 100000
namespace Sl
open PySem PySem.Spec PyProof.Rows L2
abbrev EM := Slots → Sto → R Val
abbrev TM := Slots → Sto → R Bool
abbrev AM := Slots → Sto → R (List Val)
def ExRp (G : Grd) (μ : List Addr) (H : Hp) (c : Str) (fs : List (Str × D)) (cls : Value) (d : Option Addr) : Prop :=
  ∃ C dx fvs, G.cls c = some C ∧ cls = .ref C ∧ d = some dx ∧ H dx = some (.xd fvs) ∧ fvs.map Prod.fst = fs.map Prod.fst ∧ RpL G.K (Fz G.hid μ) H (fvs.map Prod.snd) (fs.map Prod.snd)
def Fin {α : Type} (G : Grd) (W : WX) (σ : L2.St) (μ : List Addr) (H : Hp) (r : R α) (P : α → Sto → List Addr → Hp → Prop) : Prop := match r with
  | .fail => False
  | .ok a st => ∀ μ' H', Ext μ H μ' H' → Sim G μ' H' st → P a st μ' H'
  | .exc c fs st => ∀ μ' H' cls d, Ext μ H μ' H' → Sim G μ' H' st → ExRp G μ' H' c fs cls d → W cls d σ H'
section
variable {α β : Type} {G : Grd} {W : WX} {σ : L2.St} {μ μ' : List Addr} {H H' : Hp} {r : R α} {P P' : α → Sto → List Addr → Hp → Prop}
theorem Fin.ext (e : Ext μ H μ' H') (h : Fin G W σ μ H r P) : Fin G W σ μ' H' r P := by
  cases r with
  | fail => exact h
  | ok a st => exact fun μ2 H2 e2 s2 => h μ2 H2 (e.trans e2) s2
  | exc c fs st => exact fun μ2 H2 cls d e2 s2 x => h μ2 H2 cls d (e.trans e2) s2 x
theorem Fin.mono (h : Fin G W σ μ H r P) (k : ∀ a st μ' H', Ext μ H μ' H' → Sim G μ' H' st → P a st μ' H' → P' a st μ' H') : Fin G W σ μ H r P' := by
  cases r with
  | fail => exact h
  | ok a st => exact fun μ2 H2 e2 s2 => k a st μ2 H2 e2 s2 (h μ2 H2 e2 s2)
  | exc c fs st => exact h
theorem Fin.bind {f : α → Sto → R β} {P : β → Sto → List Addr → Hp → Prop} (h : Fin G W σ μ H (r.bind f) P) : Fin G W σ μ H r (fun a st μ' H' => Fin G W σ μ' H' (f a st) P) := by
  cases r with
  | fail => exact h
  | ok a st => exact fun μ2 H2 e2 s2 => Fin.ext e2 h
  | exc c fs st => exact h
theorem Fin.ok {a : α} {st : Sto} (h : Fin G W σ μ H (.ok a st) P) (s : Sim G μ H st) : P a st μ H := h μ H Ext.refl s
end
abbrev PV (G : Grd) (Q : VK) : Val → Sto → List Addr → Hp → Prop := fun x _ μ H => ∀ v, RpV G.K G.hid [] μ H v x → Q v H
abbrev PB (Q : Bool → Hp → Prop) : Bool → Sto → List Addr → Hp → Prop := fun b _ _ H => Q b H
abbrev PL (G : Grd) (Q : List V → Hp → Prop) : List Val → Sto → List Addr → Hp → Prop := fun xs _ μ H => ∀ vs, RpVs G.K G.hid μ H vs xs → Q vs H
def RdE (G : Grd) (W : WX) (m : EM) : TE := fun σ H Q => ∃ μ env st, Sim G μ H st ∧ EnvRp G μ H env σ ∧ Fin G W σ μ H (m env st) (PV G Q)
def RdT (G : Grd) (W : WX) (m : TM) : TT := fun σ H Q => ∃ μ env st, Sim G μ H st ∧ EnvRp G μ H env σ ∧ Fin G W σ μ H (m env st) (PB Q)
def RdA (G : Grd) (W : WX) (m : AM) : TA := fun σ H Q => ∃ μ env st, Sim G μ H st ∧ EnvRp G μ H env σ ∧ Fin G W σ μ H (m env st) (PL G Q)
abbrev DE (X : Cx) (G : Grd) (W : WX) (e : Expr) (m : EM) : Prop := PE X e (RdE G W m)
abbrev DT (X : Cx) (G : Grd) (W : WX) (e : Expr) (m : TM) : Prop := PT X e (RdT G W m)
abbrev DA (X : Cx) (G : Grd) (W : WX) (es : List Expr) (m : AM) : Prop := PA X es (RdA G W m)
theorem PE.by {X : Cx} {e : Expr} {t t' : TE} (h : PE X e t) (k : ∀ σ H Q, t' σ H Q → t σ H Q) : PE X e t' := ⟨fun pins s σ H Q I q => h.run pins s σ H Q I (k σ H Q q)⟩
theorem PT.by {X : Cx} {e : Expr} {t t' : TT} (h : PT X e t) (k : ∀ σ H Q, t' σ H Q → t σ H Q) : PT X e t' := ⟨fun pins s σ H Q I q => h.run pins s σ H Q I (k σ H Q q)⟩
theorem PA.by {X : Cx} {e : List Expr} {t t' : TA} (h : PA X e t) (k : ∀ σ H Q, t' σ H Q → t σ H Q) : PA X e t' := ⟨fun pos pins s σ H Q I q => h.run pos pins s σ H Q I (k σ H Q q)⟩
def mVar (i : Nat) : EM := fun env st => match env[i]? with
  | some (some (.p d)) => .ok (.p d) st
  | some (some (.r l)) => .ok (.r l) st
  | _ => .fail
def mD (d : D) : EM := fun _ st => .ok (.p d) st
section
variable {X : Cx} {G : Grd} {W : WX} {pos : Pos} {a b c : Expr} {ma mb mc : EM}
theorem de_var {i : Nat} {x : Str} (hN : X.N[i]? = some x) (hv : Vis X.env.scope x) (hd : (x == ("__debug__" : Str)) = false) (hcd : (x == ("__classdict__" : Str)) = false) : DE X G W (.Name x pos) (mVar i) :=
  PE.by (pe_var hN hv hd hcd) fun σ H Q ⟨μ, env, st, s, en, f⟩ => by
    unfold mVar at f
    split at f
    · rename_i d e
      obtain ⟨v, h1, h2⟩ := en.at_ i _ e
      exact ⟨v, h1, f.ok s v h2⟩
    · rename_i l e
      obtain ⟨v, h1, h2⟩ := en.at_ i _ e
      exact ⟨v, h1, f.ok s v h2⟩
    · exact f.elim
theorem de_int {i : Int} {j : Nat} : DE X G W (.Constant (.int i) j pos) (mD (.int i)) := PE.by pe_int fun σ H Q ⟨μ, env, st, s, en, f⟩ => f.ok s _ (.int i)
theorem de_bl {i : Bool} {j : Nat} : DE X G W (.Constant (.bool i) j pos) (mD (.bl i)) := PE.by pe_bl fun σ H Q ⟨μ, env, st, s, en, f⟩ => f.ok s _ (.bl i)
theorem de_non {j : Nat} : DE X G W (.Constant .none j pos) (mD .non) := PE.by pe_non fun σ H Q ⟨μ, env, st, s, en, f⟩ => f.ok s _ .non
theorem de_str {i : Str} {x : T} {j : Nat} (e : i = toS x) (hl : x.length ≤ tMax) : DE X G W (.Constant (.str i) j pos) (mD (.str x)) := PE.by pe_str fun σ H Q ⟨μ, env, st, s, en, f⟩ => f.ok s _ (e ▸ .str x hl)
theorem de_glob {x : Str} {v : V} {u : Value} {d : D} (hg : Gl X x) (hm : X.mg x = some u) (r : RelV v u) (h : ∀ F H, Rp G.K F H v d) (hd : (x == ("__debug__" : Str)) = false) : DE X G W (.Name x pos) (mD d) :=
  PE.by (pe_glob hg hm r hd) fun σ H Q ⟨μ, env, st, s, en, f⟩ => f.ok s _ (h _ _)
def OpSem (G : Grd) (r : R2) (f : Val → Val → Sto → Option (Val × Sto)) : Prop :=
  ∀ (μ : List Addr) (H : Hp) (st : Sto) (v w : V) (x y z : Val) (st' : Sto) (Q : VK), Sim G μ H st → RpV G.K G.hid [] μ H v x → RpV G.K G.hid [] μ H w y → f x y st = some (z, st') →
    (∀ μ' H' q, Ext μ H μ' H' → Sim G μ' H' st' → RpV G.K G.hid [] μ' H' q z → Q q H') → r v w H Q
def R.lift {α : Type} : Option (α × Sto) → R α
  | some (a, st) => .ok a st
  | none => .fail
def m2 (f : Val → Val → Sto → Option (Val × Sto)) (ma mb : EM) : EM := fun env st => (ma env st).bind fun x st1 => (mb env st1).bind fun y st2 => R.lift (f x y st2)
theorem rd2 {r : R2} {f : Val → Val → Sto → Option (Val × Sto)} (o : OpSem G r f) (σ : L2.St) (H : Hp) (Q : VK) (h : RdE G W (m2 f ma mb) σ H Q) : tOp r (RdE G W ma) (RdE G W mb) σ H Q := by
  obtain ⟨μ, env, st, s, en, h⟩ := h
  refine ⟨μ, env, st, s, en, h.bind.mono fun x st1 μ1 H1 e1 s1 h1 v rv => ?_⟩
  refine ⟨μ1, env, st1, s1, en.ext e1, h1.bind.mono fun y st2 μ2 H2 e2 s2 h2 w rw_ => ?_⟩
  cases q : f x y st2 with
  | none =>
    rw [q] at h2
    exact h2.elim
  | some p =>
    obtain ⟨z, st3⟩ := p
    rw [q] at h2
    exact o μ2 H2 st2 v w x y z st3 Q s2 (rv.ext e2) rw_ q fun μ3 H3 u e3 s3 r3 => h2 μ3 H3 e3 s3 u r3
theorem de_op {op : Operator} {r : R2} {f : Val → Val → Sto → Option (Val × Sto)} (ho : OpR X (binaryOp op) r) (o : OpSem G r f) (ha : DE X G W a ma) (hb : DE X G W b mb) : DE X G W (.BinOp a op b pos) (m2 f ma mb) :=
  PE.by (pe_op ho ha hb) (rd2 o)
theorem de_cmp {op : CmpOp} {r : R2} {f : Val → Val → Sto → Option (Val × Sto)} (ho : OpR X (compareOp op) r) (o : OpSem G r f) (ha : DE X G W a ma) (hb : DE X G W b mb) (hm : behindInMarks op b = false) : DE X G W (.Compare a [op] [b] pos) (m2 f ma mb) :=
  PE.by (pe_cmpR ho ha hb hm) (rd2 o)
theorem OpSem.or {r r' : R2} {f f' : Val → Val → Sto → Option (Val × Sto)} (h : OpSem G r f) (h' : OpSem G r' f') : OpSem G (fun x y H Q => r x y H Q ∨ r' x y H Q) (fun x y st => match f x y st with | some p => some p | none => f' x y st) := by
  intro μ H st v w x y z st' Q s rv rw_ e k
  cases q : f x y st with
  | some p =>
    simp only [q] at e
    exact .inl (h μ H st v w x y z st' Q s rv rw_ (by rw [q]; exact e) k)
  | none =>
    simp only [q] at e
    exact .inr (h' μ H st v w x y z st' Q s rv rw_ e k)
def fI (C : Int → Int → Bool) (g : Int → Int → D) : Val → Val → Sto → Option (Val × Sto)
  | .p (.int i), .p (.int j), st => if C i j = true then some (.p (g i j), st) else none
  | _, _, _ => none
theorem sem_I {C : Int → Int → Prop} {C' : Int → Int → Bool} {g : Int → Int → V} {g' : Int → Int → D} (hC : ∀ i j, C' i j = true → C i j) (hg : ∀ i j F H, Rp G.K F H (g i j) (g' i j)) : OpSem G (rI C g) (fI C' g') := by
  intro μ H st v w x y z st' Q s rv rw_ e k
  unfold fI at e
  split at e
  · split at e
    · rename_i i j hc
      cases e
      cases rv
      cases rw_
      exact ⟨i, j, rfl, rfl, hC _ _ hc, k μ H _ Ext.refl s (hg i j _ _)⟩
    · cases e
  · cases e
theorem sem_I0 {g : Int → Int → V} {g' : Int → Int → D} (hg : ∀ i j F H, Rp G.K F H (g i j) (g' i j)) : OpSem G (rI0 g) (fI (fun _ _ => true) g') := by
  intro μ H st v w x y z st' Q s rv rw_ e k
  unfold fI at e
  split at e
  · rename_i i j
    cases e
    cases rv
    cases rw_
    exact ⟨i, j, rfl, rfl, k μ H _ Ext.refl s (hg i j _ _)⟩
  · cases e
end
end Sl
end
section
set_option Elab.async false
set_option linter.all false
set_option maxRecDepth 100000
namespace Sl
open PySem PySem.Spec PyProof.Rows L2
theorem char_inj {a b : Char} (h : a.toNat = b.toNat) : a = b := by
  have h1 : a.val = b.val := UInt32.toNat.inj h
  exact Char.ext h1
theorem map_char_inj : ∀ {x y : T}, x.map Char.toNat = y.map Char.toNat → x = y
  | [], [], _ => rfl
  | [], _ :: _, h => by simp at h
  | _ :: _, [], h => by simp at h
  | a :: x, b :: y, h => by
    simp only [List.map_cons, List.cons.injEq] at h
    rw [char_inj h.1, map_char_inj h.2]
theorem toS_inj {x y : T} (h : toS x = toS y) : x = y := by
  unfold toS at h
  have h1 := congrArg (fun s : Str => s.cps.toList) h
  simp only at h1
  exact map_char_inj (by simpa using h1)
theorem toS_len (x : T) : (toS x).length = x.length := by simp [toS, Str.length]
theorem toS_app (x y : T) : toS x ++ toS y = toS (x ++ y) := by
  show Str.append _ _ = _
  simp [toS, Str.append]
theorem strOk_toS (x : T) : PyData.strOk (toS x) = true := by
  unfold PyData.strOk toS
  rw [← Array.all_toList]
  simp only [List.all_map, List.all_eq_true]
  intro c _
  have h := c.valid
  have e : c.toNat = c.val.toNat := rfl
  simp only [UInt32.isValidChar, Nat.isValidChar] at h
  simp only [Function.comp, decide_eq_true_eq]
  omega
theorem toS_beq (x y : T) : (toS x == toS y) = (x == y) := by
  by_cases h : x = y
  · subst h; simp
  · have : toS x ≠ toS y := fun z => h (toS_inj z)
    rw [beq_eq_false_iff_ne.mpr h, beq_eq_false_iff_ne.mpr this]
theorem toK_inj {x y : DK} (h : toK x = toK y) : x = y := by
  cases x <;> cases y <;> simp only [toK, Sum.inl.injEq, Sum.inr.injEq, reduceCtorEq] at h ⊢
  · exact h
  · exact toS_inj h
mutual
def deq : D → D → Bool
  | .non, .non => true
  | .bl a, .bl b => a == b
  | .bl a, .int j => (if a then 1 else 0) == j
  | .int i, .bl b => i == (if b then 1 else 0)
  | .int i, .int j => i == j
  | .str x, .str y => x == y
  | .tup xs, .tup ys => deqL xs ys
  | .lst xs, .lst ys => deqL xs ys
  | _, _ => false
def deqL : List D → List D → Bool
  | [], [] => true
  | x :: xs, y :: ys => deq x y && deqL xs ys
  | _, _ => false
end
mutual
def toPy : D → PyData
  | .non => .none
  | .bl b => .bool b
  | .int i => .int i
  | .str x => .str (toS x)
  | .tup ds => .tuple (toPyL ds)
  | .lst ds => .list (toPyL ds)
  | .dct _ _ => .none
def toPyL : List D → List PyData
  | [] => []
  | d :: ds => toPy d :: toPyL ds
end
mutual
def noDct : D → Bool
  | .tup ds => noDctL ds
  | .lst ds => noDctL ds
  | .dct _ _ => false
  | _ => true
def noDctL : List D → Bool
  | [] => true
  | d :: ds => noDct d && noDctL ds
end
mutual
def dep : D → Nat
  | .tup ds => depL ds + 1
  | .lst ds => depL ds + 1
  | _ => 0
def depL : List D → Nat
  | [] => 0
  | d :: ds => max (dep d) (depL ds)
end
mutual
theorem dep_eq : ∀ d, (toPy d).depth = dep d
  | .non => rfl
  | .bl _ => rfl
  | .int _ => rfl
  | .str _ => rfl
  | .dct _ _ => rfl
  | .tup ds => by simp only [toPy, PyData.depth, dep]; rw [depL_eq ds]
  | .lst ds => by simp only [toPy, PyData.depth, dep]; rw [depL_eq ds]
theorem depL_eq : ∀ ds, PyData.depthAll (toPyL ds) = depL ds
  | [] => rfl
  | d :: ds => by simp only [toPyL, PyData.depthAll, depL]; rw [dep_eq d, depL_eq ds]
end
mutual
theorem canLay_eq : ∀ d, noDct d = true → (toPy d).canLay0 = true
  | .non, _ => by simp [toPy, PyData.canLay0]
  | .bl _, _ => by simp [toPy, PyData.canLay0]
  | .int _, _ => by simp [toPy, PyData.canLay0]
  | .str x, _ => by simp only [toPy, PyData.canLay0]; exact strOk_toS x
  | .dct _ _, h => by simp [noDct] at h
  | .tup ds, h => by simp only [toPy, PyData.canLay0]; exact canLayL_eq ds (by simpa [noDct] using h)
  | .lst ds, h => by simp only [toPy, PyData.canLay0]; exact canLayL_eq ds (by simpa [noDct] using h)
theorem canLayL_eq : ∀ ds, noDctL ds = true → PyData.canLayAll0 (toPyL ds) = true
  | [], _ => by simp [toPyL, PyData.canLayAll0]
  | d :: ds, h => by
    simp only [noDctL, Bool.and_eq_true] at h
    simp only [toPyL, PyData.canLayAll0, Bool.and_eq_true]
    exact ⟨canLay_eq d h.1, canLayL_eq ds h.2⟩
end
mutual
theorem deq_eq : ∀ d e, noDct d = true → noDct e = true → PyData.eqv (toPy d) (toPy e) = deq d e
  | .non, e, _, h => by cases e <;> simp_all [toPy, PyData.eqv, deq, noDct]
  | .bl _, e, _, h => by cases e <;> simp_all [toPy, PyData.eqv, deq, noDct]
  | .int _, e, _, h => by cases e <;> simp_all [toPy, PyData.eqv, deq, noDct]
  | .str x, e, _, h => by cases e <;> simp_all [toPy, PyData.eqv, deq, noDct, toS_beq]
  | .dct _ _, e, h, _ => by simp [noDct] at h
  | .tup xs, e, h1, h2 => by
    cases e with
    | tup ys =>
      simp only [toPy, PyData.eqv, deq]
      exact deqL_eq xs ys (by simpa [noDct] using h1) (by simpa [noDct] using h2)
    | _ => simp_all [toPy, PyData.eqv, deq, noDct]
  | .lst xs, e, h1, h2 => by
    cases e with
    | lst ys =>
      simp only [toPy, PyData.eqv, deq]
      exact deqL_eq xs ys (by simpa [noDct] using h1) (by simpa [noDct] using h2)
    | _ => simp_all [toPy, PyData.eqv, deq, noDct]
theorem deqL_eq : ∀ xs ys, noDctL xs = true → noDctL ys = true → PyData.eqvAll (toPyL xs) (toPyL ys) = deqL xs ys
  | [], [], _, _ => by simp [toPyL, PyData.eqvAll, deqL]
  | [], _ :: _, _, _ => by simp [toPyL, PyData.eqvAll, deqL]
  | _ :: _, [], _, _ => by simp [toPyL, PyData.eqvAll, deqL]
  | x :: xs, y :: ys, h1, h2 => by
    simp only [noDctL, Bool.and_eq_true] at h1 h2
    simp only [toPyL, PyData.eqvAll, deqL]
    rw [deq_eq x y h1.1 h2.1, deqL_eq xs ys h1.2 h2.2]
end
section
variable {K : Frag} {F : Addr → Prop} {H : Hp}
mutual
theorem Rp.dp : ∀ (d : D) (v : V), noDct d = true → Rp K F H v d → Dp K H v (toPy d)
  | .non, _, _, h => by cases h; exact .non
  | .bl b, _, _, h => by cases h; exact .bl b
  | .int i, _, _, h => by cases h; exact .int i
  | .str x, _, _, h => by cases h with | str _ q => exact .str _
  | .dct _ _, _, q, _ => by simp [noDct] at q
  | .tup ds, _, q, h => by
    cases h with
    | tup h1 hp h2 => exact .tup h1 (RpL.dp ds _ (by simpa [noDct] using q) h2)
  | .lst ds, _, q, h => by
    cases h with
    | lst h1 h2 h3 => exact .lst (.inl (.inl h1)) (RpL.dp ds _ (by simpa [noDct] using q) h3)
theorem RpL.dp : ∀ (ds : List D) (vs : List V), noDctL ds = true → RpL K F H vs ds → DpAll K H vs (toPyL ds)
  | [], _, _, h => by cases h; exact .nil
  | d :: ds, _, q, h => by
    simp only [noDctL, Bool.and_eq_true] at q
    cases h with
    | cons h1 h2 => exact .cons (Rp.dp d _ q.1 h1) (RpL.dp ds _ q.2 h2)
end
end
def pureL : List Val → Option (List D)
  | [] => some []
  | .p d :: vs => match pureL vs with
    | some ds => some (d :: ds)
    | none => none
  | _ :: _ => none
def viewL (st : Sto) : Val → Option (List Val)
  | .p (.lst ds) => some (ds.map .p)
  | .r l => match st[l]? with
    | some (.lst vs) => some vs
    | some (.scr ns) => some (ns.map fun n => .p (.int n))
    | _ => none
  | _ => none
def viewT : Val → Option (List D)
  | .p (.tup ds) => some ds
  | _ => none
def viewD (st : Sto) : Val → Option D
  | .p d => some d
  | .r l => match st[l]? with
    | some (.lst vs) => match pureL vs with
      | some ds => some (.lst ds)
      | none => none
    | _ => none
  | _ => none
section
variable {G : Grd} {K : Frag} {hid : List Addr} {μ : List Addr} {H : Hp} {st : Sto} {v : V} {x : Val}
theorem RpL.vals : ∀ {vs : List V} {ds : List D}, RpL K (Fz hid μ) H vs ds → RpVs K hid μ H vs (ds.map .p)
  | _, _, .nil => .nil
  | _, _, .cons r t => .cons r (RpL.vals t)
theorem RpVs.pure : ∀ {vs : List V} {xs : List Val} {ds : List D}, RpVs K hid μ H vs xs → pureL xs = some ds → RpL K (Fz hid μ) H vs ds
  | _, _, _, .nil, e => by cases e; exact .nil
  | _, _, _, .cons (a := v) (b := x) r t, e => by
    cases x with
    | p d =>
      unfold pureL at e
      split at e
      · rename_i ds q
        cases e
        exact .cons r (RpVs.pure t q)
      · cases e
    | r l => cases e
    | x c fs => cases e
theorem RpVs.ints : ∀ {ns : List Int}, RpVs K hid μ H (ns.map V.int) (ns.map fun n => .p (.int n))
  | [] => .nil
  | n :: ns => .cons (.int n) RpVs.ints
theorem viewL_sem {ys : List Val} (s : Sim G μ H st) (r : RpV G.K G.hid [] μ H v x) (e : viewL st x = some ys) : ∃ a vs, v = .ref a ∧ SqL G.K H a vs ∧ RpVs G.K G.hid μ H vs ys := by
  unfold viewL at e
  split at e
  · cases e
    cases r with
    | lst h1 h2 h3 => exact ⟨_, _, rfl, .inl (.inl h1), RpL.vals h3⟩
  · obtain ⟨a, rfl, ha⟩ := r
    split at e
    · rename_i vs q
      cases e
      obtain ⟨xs, h1, h2⟩ := s.obj _ _ _ ha q
      exact ⟨a, xs, rfl, .inl (.inl h1), h2⟩
    · rename_i ns q
      cases e
      obtain ⟨o, h1⟩ := s.obj _ _ _ ha q
      exact ⟨a, _, rfl, .inl (.inr ⟨o, h1⟩), RpVs.ints⟩
    · cases e
  · cases e
theorem viewT_sem {ds : List D} (r : RpV G.K G.hid [] μ H v x) (e : viewT x = some ds) : ∃ a vs, v = .ref a ∧ SqT G.K H a vs ∧ RpL G.K (Fz G.hid μ) H vs ds := by
  unfold viewT at e
  split at e
  · cases e
    cases r with
    | tup h1 hp h2 => exact ⟨_, _, rfl, h1, h2⟩
  · cases e
theorem Rp.any {F : Addr → Prop} {d : D} (h : Rp K F H v d) : Rp K (fun _ => True) H v d := Rp.carry ⟨fun _ _ h => h, fun _ h => h, fun _ _ _ h => ⟨h, trivial⟩, fun _ _ _ h => ⟨h, trivial⟩⟩ d v h
theorem RpL.any {F : Addr → Prop} {ds : List D} {vs : List V} (h : RpL K F H vs ds) : RpL K (fun _ => True) H vs ds := RpL.carry ⟨fun _ _ h => h, fun _ h => h, fun _ _ _ h => ⟨h, trivial⟩, fun _ _ _ h => ⟨h, trivial⟩⟩ ds vs h
theorem viewD_sem {d : D} (s : Sim G μ H st) (r : RpV G.K G.hid [] μ H v x) (e : viewD st x = some d) : Rp G.K (fun _ => True) H v d := by
  unfold viewD at e
  split at e
  · cases e
    exact r.any
  · obtain ⟨a, rfl, ha⟩ := r
    split at e
    · rename_i vs q
      split at e
      · rename_i ds qd
        cases e
        obtain ⟨xs, h1, h2⟩ := s.obj _ _ _ ha q
        exact .lst h1 trivial (h2.pure qd).any
      · cases e
    · cases e
  · cases e
end
def newTup (vs : List Val) (st : Sto) : Option (Val × Sto) := match pureL vs with
  | some ds => if ds.length ≤ sizeLine then some (.p (.tup ds), st) else none
  | none => none
def newLst (md : Bool) (vs : List Val) (st : Sto) : Option (Val × Sto) := match md with
  | true => if vs.length ≤ sizeLine then some (.r st.length, st ++ [.lst vs]) else none
  | false => match pureL vs with
    | some ds => if ds.length ≤ sizeLine then some (.p (.lst ds), st) else none
    | none => none
section
variable {G : Grd} {μ : List Addr} {H : Hp} {st st' : Sto} {vs : List V} {xs : List Val} {z : Val} {Q : VK}
theorem newTup_sem (s : Sim G μ H st) (r : RpVs G.K G.hid μ H vs xs) (e : newTup xs st = some (z, st')) (k : ∀ μ' H' q, Ext μ H μ' H' → Sim G μ' H' st' → RpV G.K G.hid [] μ' H' q z → Q q H') :
    vs.length ≤ sizeLine ∧ ∀ p o, H p = none → o.dict = none → Q (.ref p) (upd H p (.frz o (.tup vs))) := by
  unfold newTup at e
  split at e
  · rename_i ds q
    split at e
    · rename_i hl
      cases e
      have rl := r.pure q
      exact ⟨by rw [rl.length]; exact hl, fun p o hp hd => k μ _ _ (Ext.new hp) (s.new hp) (.tup (.inl (.inr ⟨o, upd_same⟩)) (.inl ⟨o, vs, upd_same, hd⟩) (RpL.carry (Ext.new hp).carry _ _ rl))⟩
    · cases e
  · cases e
theorem newLst_sem {md : Bool} (s : Sim G μ H st) (r : RpVs G.K G.hid μ H vs xs) (e : newLst md xs st = some (z, st')) (k : ∀ μ' H' q, Ext μ H μ' H' → Sim G μ' H' st' → RpV G.K G.hid [] μ' H' q z → Q q H') :
    vs.length ≤ sizeLine ∧ ∀ p, H p = none → Q (.ref p) (upd H p (.lst vs)) := by
  unfold newLst at e
  cases md with
  | true =>
    dsimp only at e
    split at e
    · rename_i hl
      cases e
      refine ⟨by rw [r.length]; exact hl, fun p hp => ?_⟩
      have ep := Ext.push (μ := μ) (u := .lst vs) hp
      refine k (μ ++ [p]) _ _ ep (s.push hp ⟨vs, upd_same, RpVs.ext ep r⟩) ⟨p, rfl, ?_⟩
      rw [← s.len]
      simp
    · cases e
  | false =>
    dsimp only at e
    split at e
    · rename_i ds q
      split at e
      · rename_i hl
        cases e
        have rl := r.pure q
        refine ⟨by rw [rl.length]; exact hl, fun p hp => k μ _ _ (Ext.new hp) (s.new hp) (.lst upd_same ⟨fun hm => ?_, fun hm => s.hid p hm hp⟩ (RpL.carry (Ext.new hp).carry _ _ rl))⟩
        obtain ⟨l, hl, el⟩ := List.getElem_of_mem hm
        exact s.at_some (l := l) (a := p) (by simp [hl, el]) hp
      · cases e
    · cases e
end
end Sl
end
section
set_option Elab.async false
set_option linter.all false
set_option maxRecDepth 100000
namespace Sl
open PySem PySem.Spec PyProof.Rows L2
abbrev F2 := Val → Val → Sto → Option (Val × Sto)
def viewP (st : Sto) : Val → Option (List Val)
  | .p (.lst ds) => some (ds.map .p)
  | .r l => match st[l]? with
    | some (.lst vs) => some vs
    | _ => none
  | _ => none
section
variable {G : Grd} {μ : List Addr} {H : Hp} {st : Sto} {v : V} {x : Val}
theorem viewP_sem {ys : List Val} (s : Sim G μ H st) (r : RpV G.K G.hid [] μ H v x) (e : viewP st x = some ys) : ∃ a vs, v = .ref a ∧ H a = some (.lst vs) ∧ RpVs G.K G.hid μ H vs ys := by
  unfold viewP at e
  split at e
  · cases e
    cases r with
    | lst h1 h2 h3 => exact ⟨_, _, rfl, h1, RpL.vals h3⟩
  · obtain ⟨a, rfl, ha⟩ := r
    split at e
    · rename_i vs q
      cases e
      obtain ⟨xs, h1, h2⟩ := s.obj _ _ _ ha q
      exact ⟨a, xs, rfl, h1, h2⟩
    · cases e
  · cases e
end
def fAdd (md : Bool) : F2 := fun x y st => match x, y with
  | .p (.int i), .p (.int j) => some (.p (.int (i + j)), st)
  | .p (.str a), .p (.str b) => if a.length + b.length ≤ tMax then some (.p (.str (a ++ b)), st) else none
  | .p (.tup a), .p (.tup b) => if a.length + b.length ≤ sizeLine then some (.p (.tup (a ++ b)), st) else none
  | _, _ => match viewP st x, viewP st y with
    | some a, some b => newLst md (a ++ b) st
    | _, _ => none
theorem RpVs.append {K : Frag} {hid : List Addr} {μ : List Addr} {H : Hp} : ∀ {vs ws : List V} {xs ys : List Val}, RpVs K hid μ H vs xs → RpVs K hid μ H ws ys → RpVs K hid μ H (vs ++ ws) (xs ++ ys)
  | _, _, _, _, .nil, h => h
  | _, _, _, _, .cons r t, h => .cons r (RpVs.append t h)
section
variable {X : Cx} {G : Grd}
def rAddX (K : Frag) : R2 := fun x y H Q => rI0 (fun i j => .int (i + j)) x y H Q ∨ (∃ i j, x = .str i ∧ y = .str j ∧ i.length + j.length ≤ sizeLine ∧ Q (.str (i ++ j)) H) ∨ rCatF K x y H Q ∨ rCat x y H Q
theorem opr_add : OpR X (binaryOp .Add) (rAddX X.K) := op_add.or (op_add_str.or (op_catF.or op_cat))
theorem sem_add {md : Bool} : OpSem G (rAddX G.K) (fAdd md) := by
  intro μ H st v w x y z st' Q s rv rw_ e k
  unfold fAdd at e
  split at e
  · cases e
    cases rv
    cases rw_
    exact .inl ⟨_, _, rfl, rfl, k μ H _ Ext.refl s (.int _)⟩
  · split at e
    · rename_i hl
      cases e
      cases rv
      cases rw_
      have hz : (16000000 : Nat) ≤ sizeLine := by decide
      refine .inr (.inl ⟨_, _, rfl, rfl, by rw [toS_len, toS_len]; exact Nat.le_trans hl hz, ?_⟩)
      rw [toS_app]
      exact k μ H _ Ext.refl s (.str _ (by rw [List.length_append]; exact hl))
    · cases e
  · split at e
    · rename_i hl
      cases e
      cases rv with
      | tup h1 hp1 h2 =>
        cases rw_ with
        | tup h3 hp3 h4 =>
          refine .inr (.inr (.inl ⟨_, _, _, _, rfl, rfl, h1, h3, by rw [h2.length, h4.length]; exact hl, fun z => ?_, fun _ z => ?_, fun _ _ p o hp hd => ?_⟩))
          · have ez := h2.nil_iff.mp z
            subst ez
            exact k μ H _ Ext.refl s (.tup h3 hp3 h4)
          · have ez := h4.nil_iff.mp z
            subst ez
            exact k μ H _ Ext.refl s (.tup h1 hp1 (by rw [List.append_nil]; exact h2))
          · exact k μ _ _ (Ext.new hp) (s.new hp) (.tup (.inl (.inr ⟨o, upd_same⟩)) (.inl ⟨o, _, upd_same, hd⟩) (RpL.carry (Ext.new hp).carry _ _ (RpL.append h2 h4)))
    · cases e
  · split at e
    · rename_i a b qa qb
      obtain ⟨l, vs, rfl, h1, h2⟩ := viewP_sem s rv qa
      obtain ⟨m, ws, rfl, h3, h4⟩ := viewP_sem s rw_ qb
      obtain ⟨n1, n2⟩ := newLst_sem s (RpVs.append h2 h4) e k
      exact .inr (.inr (.inr ⟨l, m, vs, ws, rfl, rfl, h1, h3, by rw [← List.length_append]; exact n1, n2⟩))
    · cases e
def fSub : F2 := fI (fun _ _ => true) fun i j => .int (i - j)
theorem sem_sub : OpSem G (rI0 fun i j => .int (i - j)) fSub := sem_I0 fun _ _ _ _ => .int _
def mulOk (i j : Int) : Bool := decide (i.natAbs.log2 + j.natAbs.log2 < 100000000)
theorem bits_log (x : Int) : Builtin.Int.intBits x ≤ x.natAbs.log2 + 1 := by
  unfold Builtin.Int.intBits
  split <;> omega
def fMul (md : Bool) : F2 := fun x y st => match x, y with
  | .p (.int i), .p (.int j) => if mulOk i j = true then some (.p (.int (i * j)), st) else none
  | _, .p (.int k) => match viewP st x with
    | some a => if -(2 ^ 63) ≤ k ∧ k < 2 ^ 63 then newLst md (List.replicate k.toNat a).flatten st else none
    | none => none
  | _, _ => none
theorem RpVs.rep {K : Frag} {hid : List Addr} {μ : List Addr} {H : Hp} {vs : List V} {xs : List Val} (h : RpVs K hid μ H vs xs) : ∀ k : Nat, RpVs K hid μ H (List.replicate k vs).flatten (List.replicate k xs).flatten
  | 0 => .nil
  | k + 1 => by
    simp only [List.replicate_succ, List.flatten_cons]
    exact RpVs.append h (RpVs.rep h k)
def rMulX : R2 := fun x y H Q => rI CMulX (fun i j => .int (i * j)) x y H Q ∨ rRep x y H Q
theorem opr_mul : OpR X (binaryOp .Mult) rMulX := op_mulX.or op_rep
theorem flat_len {α : Type} (xs : List α) (k : Nat) : (List.replicate k xs).flatten.length = xs.length * k := by
  induction k with
  | zero => simp
  | succ k ih => rw [List.replicate_succ, List.flatten_cons, List.length_append, ih, Nat.mul_succ, Nat.add_comm]
theorem sem_mul {md : Bool} : OpSem G rMulX (fMul md) := by
  intro μ H st v w x y z st' Q s rv rw_ e k
  unfold fMul at e
  split at e
  · split at e
    · rename_i i j hm
      cases e
      cases rv
      cases rw_
      have hm0 : i.natAbs.log2 + j.natAbs.log2 < 100000000 := of_decide_eq_true hm
      have hm' : CMulX i j := by
        have h1 := bits_log i
        have h2 := bits_log j
        unfold CMulX
        omega
      exact .inl ⟨i, j, rfl, rfl, hm', k μ H _ Ext.refl s (.int _)⟩
    · cases e
  · split at e
    · rename_i a qa
      split at e
      · rename_i hk
        obtain ⟨l, vs, rfl, h1, h2⟩ := viewP_sem s rv qa
        obtain ⟨n1, n2⟩ := newLst_sem s (RpVs.rep h2 _) e k
        cases rw_
        exact .inr ⟨l, _, vs, rfl, rfl, h1, hk.1, hk.2, by rw [← flat_len]; exact n1, n2⟩
      · cases e
    · cases e
  · cases e
def divOk (_ j : Int) : Bool := (decide (0 < j) && decide (j.natAbs.log2 < 9000)) || (decide (j < 0) && decide (j.natAbs.log2 < 9000))
def fFdiv : F2 := fI divOk fun i j => .int (i.fdiv j)
def CDivNW (_ j : Int) : Prop := j ≠ 0 ∧ j.natAbs.log2 < 9000
theorem op_fdivNW : OpR X (binaryOp .FloorDiv) (rI CDivNW fun i j => .int (i.fdiv j)) := opI fun _ _ _ _ _ _ _ hc q => floordiv_int hc.1 q (.inl (PyProof.noPylong_of_log2 hc.2))
def rFdivX : R2 := fun x y H Q => rI CDivW (fun i j => .int (i / j)) x y H Q ∨ rI CDivNW (fun i j => .int (i.fdiv j)) x y H Q
theorem opr_fdiv : OpR X (binaryOp .FloorDiv) rFdivX := op_fdivW.or op_fdivNW
theorem sem_fdiv : OpSem G rFdivX fFdiv := by
  intro μ H st v w x y z st' Q s rv rw_ e k
  unfold fFdiv fI at e
  split at e
  · split at e
    · rename_i i j hc
      cases e
      cases rv
      cases rw_
      have q := k μ H _ Ext.refl s (.int _)
      by_cases hj : 0 < j
      · refine .inl ⟨i, j, rfl, rfl, ⟨hj, ?_⟩, ?_⟩
        · simp only [divOk, Bool.or_eq_true, Bool.and_eq_true, decide_eq_true_eq] at hc
          rcases hc with hc | hc
          · exact hc.2
          · omega
        · show Q (V.int (i / j)) H
          rw [← Int.fdiv_eq_ediv_of_nonneg i (by omega : 0 ≤ j)]
          exact q
      · refine .inr ⟨i, j, rfl, rfl, ?_, q⟩
        simp only [divOk, Bool.or_eq_true, Bool.and_eq_true, decide_eq_true_eq] at hc
        rcases hc with hc | hc
        · omega
        · exact ⟨by omega, hc.2⟩
    · cases e
  · cases e
def fMod : F2 := fI (fun _ j => decide (j ≠ 0)) fun i j => .int (i.fmod j)
theorem sem_mod : OpSem G (rI (fun _ j => j ≠ 0) fun i j => .int (i.fmod j)) fMod := sem_I (fun _ _ h => of_decide_eq_true h) fun _ _ _ _ => .int _
def powOk (i j : Int) : Bool := decide (0 ≤ j ∧ j ≤ 1000000 ∧ i.natAbs < 2 ^ 64)
def fPow : F2 := fI powOk fun i j => .int (i ^ j.toNat)
theorem sem_pow : OpSem G (rI CPow fun i j => .int (i ^ j.toNat)) fPow := sem_I (fun i j h => (of_decide_eq_true (p := 0 ≤ j ∧ j ≤ 1000000 ∧ i.natAbs < 2 ^ 64) h)) fun _ _ _ _ => .int _
def eqOk (d e : D) : Bool := noDct d && noDct e && decide (min (dep d) (dep e) ≤ 64)
def fEq (neg : Bool) : F2 := fun x y st => match viewD st x, viewD st y with
  | some d, some e => if eqOk d e = true then some (.p (.bl (if neg then !deq d e else deq d e)), st) else none
  | _, _ => none
def rEqX (K : Frag) (neg : Bool) : R2 := fun x y H Q => ∃ d e, Dp K H x (toPy d) ∧ Dp K H y (toPy e) ∧ noDct d = true ∧ noDct e = true ∧ min (dep d) (dep e) ≤ 64 ∧ Q (.bl (if neg then !deq d e else deq d e)) H
theorem opr_eq (hu : X.A.units + 64 < cLine) : OpR X (compareOp .Eq) (rEqX X.K false) := by
  intro pins s σ H x y v u Q I rx ry h
  obtain ⟨d, e, hd, he, nd, ne, hm, q⟩ := h
  obtain ⟨as, r1⟩ := Dp.reads I _ x v hd rx
  obtain ⟨bs, r2⟩ := Dp.reads I _ y u he ry
  refine SeqAt.compareEq_reads r1 r2 (canLay_eq d nd) (canLay_eq e ne) (by rw [dep_eq, dep_eq]; omega) ⟨.bl _, H, I, rfl, ?_⟩
  rw [deq_eq d e nd ne]
  exact q
theorem opr_ne (hu : X.A.units + 64 < cLine) : OpR X (compareOp .NotEq) (rEqX X.K true) := by
  intro pins s σ H x y v u Q I rx ry h
  obtain ⟨d, e, hd, he, nd, ne, hm, q⟩ := h
  obtain ⟨as, r1⟩ := Dp.reads I _ x v hd rx
  obtain ⟨bs, r2⟩ := Dp.reads I _ y u he ry
  refine SeqAt.compareNe_reads r1 r2 (canLay_eq d nd) (canLay_eq e ne) (by rw [dep_eq, dep_eq]; omega) ⟨.bl _, H, I, rfl, ?_⟩
  rw [deq_eq d e nd ne]
  exact q
theorem sem_eq {neg : Bool} : OpSem G (rEqX G.K neg) (fEq neg) := by
  intro μ H st v w x y z st' Q s rv rw_ e k
  unfold fEq at e
  split at e
  · rename_i d c qd qc
    split at e
    · rename_i hc
      cases e
      simp only [eqOk, Bool.and_eq_true, decide_eq_true_eq] at hc
      exact ⟨d, c, Rp.dp d v hc.1.1 (viewD_sem s rv qd), Rp.dp c w hc.1.2 (viewD_sem s rw_ qc), hc.1.1, hc.1.2, hc.2, k μ H _ Ext.refl s (.bl _)⟩
    · cases e
  · cases e
def dmem (d : D) (ds : List D) : Bool := ds.any fun z => deq z d
def inOk (d : D) (ds : List D) : Bool := noDct d && noDctL ds && decide (min (depL ds) (dep d) ≤ 64)
def fIn (neg : Bool) : F2 := fun x y st => match x, y with
  | .p (.str [c]), .p (.str z) => some (.p (.bl (if neg then !z.contains c else z.contains c)), st)
  | .p d, _ => match viewD st y with
    | some (.lst ds) => if inOk d ds = true then some (.p (.bl (if neg then !dmem d ds else dmem d ds)), st) else none
    | some (.tup ds) => if inOk d ds = true then some (.p (.bl (if neg then !dmem d ds else dmem d ds)), st) else none
    | _ => none
  | _, _ => none
def rInX (K : Frag) (neg : Bool) : R2 := fun x y H Q => (∃ (c : Nat) (z : Str), x = .str ⟨#[c]⟩ ∧ y = .str z ∧ Q (.bl (if neg then !decide (c ∈ z.cps.toList) else decide (c ∈ z.cps.toList))) H) ∨
  ∃ d ds, Dp K H x (toPy d) ∧ (Dp K H y (.list (toPyL ds)) ∨ Dp K H y (.tuple (toPyL ds))) ∧ inOk d ds = true ∧ Q (.bl (if neg then !dmem d ds else dmem d ds)) H
theorem any_deq {d : D} (nd : noDct d = true) : ∀ {ds : List D}, noDctL ds = true → ((toPyL ds).any fun y => PyData.eqv y (toPy d)) = dmem d ds
  | [], _ => rfl
  | e :: ds, h => by
    simp only [noDctL, Bool.and_eq_true] at h
    show (PyData.eqv (toPy e) (toPy d) || (toPyL ds).any fun y => PyData.eqv y (toPy d)) = (deq e d || dmem d ds)
    rw [deq_eq e d h.1 nd, any_deq nd h.2]
theorem opr_in (hu : X.A.units + 65 < cLine) : OpR X (compareOp .In) (rInX X.K false) := by
  intro pins s σ H x y v u Q I rx ry h
  rcases h with ⟨c, z, rfl, rfl, q⟩ | ⟨d, ds, hd, he, ok, q⟩
  · exact op_in_sign pins s σ H _ _ v u Q I rx ry ⟨c, z, rfl, rfl, q⟩
  · simp only [inOk, Bool.and_eq_true, decide_eq_true_eq] at ok
    obtain ⟨as, r1⟩ := Dp.reads I _ x v hd rx
    have q' : EP X pins σ Q (.bool ((toPyL ds).any fun y => PyData.eqv y (toPy d))) s := ⟨.bl _, H, I, rfl, by rw [any_deq ok.1.1 ok.1.2]; exact q⟩
    have hu' : X.A.units + 1 + min (PyData.depthAll (toPyL ds)) (toPy d).depth < cLine := by rw [dep_eq, depL_eq]; omega
    rcases he with he | he
    · obtain ⟨bs, r2⟩ := Dp.reads I _ y u he ry
      exact SeqAt.in_list_reads r2 r1 (canLayL_eq ds ok.1.2) (canLay_eq d ok.1.1) hu' q'
    · obtain ⟨bs, r2⟩ := Dp.reads I _ y u he ry
      exact SeqAt.in_tuple_reads r2 r1 (canLayL_eq ds ok.1.2) (canLay_eq d ok.1.1) hu' q'
theorem opr_notin (hu : X.A.units + 65 < cLine) : OpR X (compareOp .NotIn) (rInX X.K true) := by
  intro pins s σ H x y v u Q I rx ry h
  rcases h with ⟨c, z, rfl, rfl, q⟩ | ⟨d, ds, hd, he, ok, q⟩
  · exact op_notIn_sign pins s σ H _ _ v u Q I rx ry ⟨c, z, rfl, rfl, q⟩
  · simp only [inOk, Bool.and_eq_true, decide_eq_true_eq] at ok
    obtain ⟨as, r1⟩ := Dp.reads I _ x v hd rx
    have q' : EP X pins σ Q (.bool (!(toPyL ds).any fun y => PyData.eqv y (toPy d))) s := ⟨.bl _, H, I, rfl, by rw [any_deq ok.1.1 ok.1.2]; exact q⟩
    have hu' : X.A.units + 1 + min (PyData.depthAll (toPyL ds)) (toPy d).depth < cLine := by rw [dep_eq, depL_eq]; omega
    rcases he with he | he
    · obtain ⟨bs, r2⟩ := Dp.reads I _ y u he ry
      exact SeqAt.notIn_list_reads r2 r1 (canLayL_eq ds ok.1.2) (canLay_eq d ok.1.1) hu' q'
    · obtain ⟨bs, r2⟩ := Dp.reads I _ y u he ry
      exact SeqAt.notIn_tuple_reads r2 r1 (canLayL_eq ds ok.1.2) (canLay_eq d ok.1.1) hu' q'
theorem mem_toS (c : Char) (z : T) : decide (c.toNat ∈ (toS z).cps.toList) = z.contains c := by
  have : (c.toNat ∈ (toS z).cps.toList) ↔ c ∈ z := by
    simp only [toS, List.mem_map]
    constructor
    · rintro ⟨d, hd, e⟩
      rw [← char_inj e]; exact hd
    · exact fun h => ⟨c, h, rfl⟩
  by_cases h : c ∈ z
  · rw [decide_eq_true (this.mpr h)]
    exact (List.contains_iff_mem.mpr h).symm
  · rw [decide_eq_false (fun q => h (this.mp q))]
    exact (Bool.eq_false_iff.mpr fun q => h (List.contains_iff_mem.mp q)).symm
theorem sem_in {neg : Bool} : OpSem G (rInX G.K neg) (fIn neg) := by
  intro μ H st v w x y z st' Q s rv rw_ e k
  unfold fIn at e
  split at e
  · rename_i c z
    cases e
    cases rv
    cases rw_
    refine .inl ⟨c.toNat, toS z, rfl, rfl, ?_⟩
    rw [mem_toS]
    exact k μ H _ Ext.refl s (.bl _)
  · rename_i d hno
    split at e
    · rename_i ds q
      split at e
      · rename_i hc
        cases e
        have hc' := hc
        simp only [inOk, Bool.and_eq_true, decide_eq_true_eq] at hc'
        exact .inr ⟨d, ds, Rp.dp d v hc'.1.1 rv.any, .inl (Rp.dp (.lst ds) w (by simpa [noDct] using hc'.1.2) (viewD_sem s rw_ q)), hc, k μ H _ Ext.refl s (.bl _)⟩
      · cases e
    · rename_i ds q
      split at e
      · rename_i hc
        cases e
        have hc' := hc
        simp only [inOk, Bool.and_eq_true, decide_eq_true_eq] at hc'
        exact .inr ⟨d, ds, Rp.dp d v hc'.1.1 rv.any, .inr (Rp.dp (.tup ds) w (by simpa [noDct] using hc'.1.2) (viewD_sem s rw_ q)), hc, k μ H _ Ext.refl s (.bl _)⟩
      · cases e
    · cases e
  · cases e
end
end Sl
end
section
set_option Elab.async false
set_option linter.all false
set_option maxRecDepth 100000
namespace Sl
open PySem PySem.Spec PyProof.Rows L2
def codes (x : T) : List Nat := x.map Char.toNat
def tlt (x y : T) : Bool := decide (codes x < codes y)
theorem cps_toS (x : T) : (toS x).cps.toList = codes x := by simp [toS, codes]
def dlt (d e : D) : Bool := PySem.W.dataLt (toPy d) (toPy e)
def ltOk (d e : D) : Bool := noDct d && noDct e && PySem.W.alike (toPy d) (toPy e) && decide (min (dep d) (dep e) ≤ 64) && (match d with | .non => false | _ => true)
def fLt : F2 := fun x y st => match x, y with
  | .p (.int i), .p (.int j) => some (.p (.bl (decide (i < j))), st)
  | .p (.str a), .p (.str b) => some (.p (.bl (tlt a b)), st)
  | _, _ => match viewD st x, viewD st y with
    | some d, some e => if ltOk d e = true then some (.p (.bl (dlt d e)), st) else none
    | _, _ => none
def fLe : F2 := fun x y st => match x, y with
  | .p (.int i), .p (.int j) => some (.p (.bl (decide (i ≤ j))), st)
  | .p (.str a), .p (.str b) => some (.p (.bl (!tlt b a)), st)
  | _, _ => none
def fGt : F2 := fun x y st => match x, y with
  | .p (.int i), .p (.int j) => some (.p (.bl (decide (j < i))), st)
  | .p (.str a), .p (.str b) => some (.p (.bl (tlt b a)), st)
  | _, _ => none
def fGe : F2 := fun x y st => match x, y with
  | .p (.int i), .p (.int j) => some (.p (.bl (decide (j ≤ i))), st)
  | .p (.str a), .p (.str b) => some (.p (.bl (!tlt a b)), st)
  | _, _ => none
section
variable {X : Cx} {G : Grd}
def rLtX (K : Frag) : R2 := fun x y H Q => rI0 (fun i j => .bl (decide (i < j))) x y H Q ∨ (∃ i j, x = .str i ∧ y = .str j ∧ Q (.bl (decide (i.cps.toList < j.cps.toList))) H) ∨
  ∃ d e, Dp K H x (toPy d) ∧ Dp K H y (toPy e) ∧ ltOk d e = true ∧ Q (.bl (dlt d e)) H
theorem opr_lt (hu : X.A.units + 64 < cLine) : OpR X (compareOp .Lt) (rLtX X.K) := by
  intro pins s σ H x y v u Q I rx ry h
  rcases h with h | h | ⟨d, e, hd, he, ok, q⟩
  · exact op_lt pins s σ H x y v u Q I rx ry h
  · exact op_lt_str pins s σ H x y v u Q I rx ry h
  · simp only [ltOk, Bool.and_eq_true, decide_eq_true_eq] at ok
    obtain ⟨as, r1⟩ := Dp.reads I _ x v hd rx
    obtain ⟨bs, r2⟩ := Dp.reads I _ y u he ry
    have hn : toPy d ≠ .none := by
      have h2 := ok.2
      have h3 := ok.1.1.1.1
      cases d <;> simp_all [toPy, noDct]
    exact PySem.W.rcLt_alike _ _ X.A s v u as bs r1 r2 ok.1.1.2 hn (by rw [dep_eq, dep_eq]; omega) X.prog X.w X.xe (EP X pins σ Q) ⟨.bl _, H, I, rfl, q⟩
theorem sem_lt : OpSem G (rLtX G.K) fLt := by
  intro μ H st v w x y z st' Q s rv rw_ e k
  unfold fLt at e
  split at e
  · cases e
    cases rv
    cases rw_
    exact .inl ⟨_, _, rfl, rfl, k μ H _ Ext.refl s (.bl _)⟩
  · cases e
    cases rv
    cases rw_
    refine .inr (.inl ⟨_, _, rfl, rfl, ?_⟩)
    rw [cps_toS, cps_toS]
    exact k μ H _ Ext.refl s (.bl _)
  · split at e
    · rename_i d c qd qc
      split at e
      · rename_i hc
        cases e
        have hc' := hc
        simp only [ltOk, Bool.and_eq_true, decide_eq_true_eq] at hc'
        exact .inr (.inr ⟨d, c, Rp.dp d v hc'.1.1.1.1 (viewD_sem s rv qd), Rp.dp c w hc'.1.1.1.2 (viewD_sem s rw_ qc), hc, k μ H _ Ext.refl s (.bl _)⟩)
      · cases e
    · cases e
def rLeX : R2 := fun x y H Q => rI0 (fun i j => .bl (decide (i ≤ j))) x y H Q ∨ ∃ i j, x = .str i ∧ y = .str j ∧ Q (.bl (!decide (j.cps.toList < i.cps.toList))) H
def rGtX : R2 := fun x y H Q => rI0 (fun i j => .bl (decide (j < i))) x y H Q ∨ ∃ i j, x = .str i ∧ y = .str j ∧ Q (.bl (decide (j.cps.toList < i.cps.toList))) H
def rGeX : R2 := fun x y H Q => rI0 (fun i j => .bl (decide (j ≤ i))) x y H Q ∨ ∃ i j, x = .str i ∧ y = .str j ∧ Q (.bl (!decide (i.cps.toList < j.cps.toList))) H
theorem opr_le : OpR X (compareOp .LtE) rLeX := op_le.or op_le_str
theorem opr_gt : OpR X (compareOp .Gt) rGtX := op_gt.or op_gt_str
theorem opr_ge : OpR X (compareOp .GtE) rGeX := op_ge.or op_ge_str
theorem sem_le : OpSem G rLeX fLe := by
  intro μ H st v w x y z st' Q s rv rw_ e k
  unfold fLe at e
  split at e
  · cases e; cases rv; cases rw_
    exact .inl ⟨_, _, rfl, rfl, k μ H _ Ext.refl s (.bl _)⟩
  · cases e; cases rv; cases rw_
    refine .inr ⟨_, _, rfl, rfl, ?_⟩
    rw [cps_toS, cps_toS]
    exact k μ H _ Ext.refl s (.bl _)
  · cases e
theorem sem_gt : OpSem G rGtX fGt := by
  intro μ H st v w x y z st' Q s rv rw_ e k
  unfold fGt at e
  split at e
  · cases e; cases rv; cases rw_
    exact .inl ⟨_, _, rfl, rfl, k μ H _ Ext.refl s (.bl _)⟩
  · cases e; cases rv; cases rw_
    refine .inr ⟨_, _, rfl, rfl, ?_⟩
    rw [cps_toS, cps_toS]
    exact k μ H _ Ext.refl s (.bl _)
  · cases e
theorem sem_ge : OpSem G rGeX fGe := by
  intro μ H st v w x y z st' Q s rv rw_ e k
  unfold fGe at e
  split at e
  · cases e; cases rv; cases rw_
    exact .inl ⟨_, _, rfl, rfl, k μ H _ Ext.refl s (.bl _)⟩
  · cases e; cases rv; cases rw_
    refine .inr ⟨_, _, rfl, rfl, ?_⟩
    rw [cps_toS, cps_toS]
    exact k μ H _ Ext.refl s (.bl _)
  · cases e
def isD : Val → D → Option Bool
  | .p .non, .non => some true
  | .p (.bl a), .bl b => some (a == b)
  | .p _, .non => some false
  | .p _, .bl _ => some false
  | .r _, .non => some false
  | .r _, .bl _ => some false
  | _, _ => none
def fIs (neg : Bool) : F2 := fun x y st => match y with
  | .p d => match isD x d with
    | some b => some (.p (.bl (if neg then !b else b)), st)
    | none => none
  | _ => none
def noTy : V → Prop
  | .ty _ => False
  | _ => True
def rIsX (neg : Bool) : R2 := fun x y H Q => (y = .non ∨ ∃ b, y = .bl b) ∧ noTy x ∧ Q (.bl (if neg then !decide (x = y) else decide (x = y))) H
theorem plain_of {x y : V} {v u : Value} (hx : noTy x) (rx : RelV x v) (hy : y = .non ∨ ∃ b, y = .bl b) (ry : RelV y u) : plainIs v u = true ∧ (v = u ↔ x = y) := by
  rcases hy with rfl | ⟨b, rfl⟩
  · cases ry
    cases x with
    | non => cases rx; exact ⟨rfl, by simp⟩
    | bl _ => cases rx; exact ⟨rfl, by simp⟩
    | int _ => obtain ⟨t, rfl⟩ := rx; exact ⟨rfl, by simp⟩
    | str _ => obtain ⟨t, rfl⟩ := rx; exact ⟨rfl, by simp⟩
    | byt _ => obtain ⟨t, rfl⟩ := rx; exact ⟨rfl, by simp⟩
    | flt _ => obtain ⟨t, rfl⟩ := rx; exact ⟨rfl, by simp⟩
    | ref _ => cases rx; exact ⟨rfl, by simp⟩
    | ty _ => exact hx.elim
  · cases ry
    cases x with
    | non => cases rx; exact ⟨rfl, by simp⟩
    | bl _ => cases rx; exact ⟨rfl, by simp⟩
    | int _ => obtain ⟨t, rfl⟩ := rx; exact ⟨rfl, by simp⟩
    | str _ => obtain ⟨t, rfl⟩ := rx; exact ⟨rfl, by simp⟩
    | byt _ => obtain ⟨t, rfl⟩ := rx; exact ⟨rfl, by simp⟩
    | flt _ => obtain ⟨t, rfl⟩ := rx; exact ⟨rfl, by simp⟩
    | ref _ => cases rx; exact ⟨rfl, by simp⟩
    | ty _ => exact hx.elim
theorem opr_is : OpR X (compareOp .Is) (rIsX false) := by
  intro pins s σ H x y v u Q I rx ry ⟨hy, hx, q⟩
  obtain ⟨h1, h2⟩ := plain_of hx rx hy ry
  by_cases e : x = y
  · have e' := h2.mpr e
    subst e'
    exact wpAny_is_self h1 ⟨.bl true, H, I, rfl, by simpa [e] using q⟩
  · exact wpAny_is_other h1 (fun z => e (h2.mp z)) ⟨.bl false, H, I, rfl, by simpa [e] using q⟩
theorem opr_isnot : OpR X (compareOp .IsNot) (rIsX true) := by
  intro pins s σ H x y v u Q I rx ry ⟨hy, hx, q⟩
  obtain ⟨h1, h2⟩ := plain_of hx rx hy ry
  by_cases e : x = y
  · have e' := h2.mpr e
    subst e'
    exact wpAny_isNot_self h1 ⟨.bl false, H, I, rfl, by simpa [e] using q⟩
  · exact wpAny_isNot_other h1 (fun z => e (h2.mp z)) ⟨.bl true, H, I, rfl, by simpa [e] using q⟩
theorem sem_is {neg : Bool} : OpSem G (rIsX neg) (fIs neg) := by
  intro μ H st v w x y z st' Q s rv rw_ e k
  unfold fIs at e
  split at e
  · rename_i d
    split at e
    · rename_i b qb
      cases e
      have q := k μ H _ Ext.refl s (.bl _)
      have fin : (w = .non ∨ ∃ b, w = .bl b) → noTy v → (decide (v = w) = b) → rIsX neg v w H Q := fun h1 h2 h3 => ⟨h1, h2, by rw [h3]; exact q⟩
      cases d with
      | non =>
        cases rw_
        refine fin (.inl rfl) ?_ ?_
        · cases x with
          | p d => cases rv <;> trivial
          | r l => obtain ⟨a, rfl, _⟩ := rv; trivial
          | x c fs => cases qb
        · cases x with
          | p d => cases rv <;> simp_all [isD]
          | r l => obtain ⟨a, rfl, _⟩ := rv; simp_all [isD]
          | x c fs => cases qb
      | bl b' =>
        cases rw_
        refine fin (.inr ⟨_, rfl⟩) ?_ ?_
        · cases x with
          | p d => cases rv <;> trivial
          | r l => obtain ⟨a, rfl, _⟩ := rv; trivial
          | x c fs => cases qb
        · cases x with
          | p d =>
            cases rv <;> simp_all [isD]
            subst qb
            rfl
          | r l => obtain ⟨a, rfl, _⟩ := rv; simp_all [isD]
          | x c fs => cases qb
      | _ => cases x <;> simp_all [isD]
    · cases e
  · cases e
end
end Sl
end
section
set_option Elab.async false
set_option linter.all false
set_option maxRecDepth 100000
namespace Sl
open PySem PySem.Spec PyProof.Rows L2
def notStar : Expr → Bool
  | .Starred _ _ => false
  | _ => true
def plainArgs (es : List Expr) : Bool := es.all notStar && decide (es.length < 20)
theorem starEach_plain {e : Expr} (h : notStar e = true) (es : List Expr) (env : Env) : starEach (e :: es) env = (false, eval e env) :: starEach es env := by
  cases e <;> first | rfl | cases h
theorem star_all : ∀ {es : List Expr} (pos : Pos) (env : Env), es.all notStar = true → (backTo pos (starEach es env)).any (·.1) = false
  | [], _, _, _ => rfl
  | e :: es, pos, env, h => by
    simp only [List.all_cons, Bool.and_eq_true] at h
    rw [starEach_plain h.1]
    have ih := star_all pos env h.2
    show (false || (backTo pos (starEach es env)).any (·.1)) = false
    rw [ih]; rfl
theorem star_few : ∀ {es : List Expr} (pos : Pos) (env : Env), es.all notStar = true → (backTo pos (starEach es env)).all (fun x => !x.1) = true
  | [], _, _, _ => rfl
  | e :: es, pos, env, h => by
    simp only [List.all_cons, Bool.and_eq_true] at h
    rw [starEach_plain h.1]
    have ih := star_few pos env h.2
    show (true && (backTo pos (starEach es env)).all (fun x => !x.1)) = true
    rw [ih]; rfl
def notSuper : Expr → Bool
  | .Call (.Name id _) [] [] _ => id != "super"
  | _ => true
theorem base_plain {o : Expr} {f : Str} {env : Env} (h : notSuper o = true) (w : Sem Value) : attributeBase o f env w = w := by
  unfold attributeBase
  split
  · rename_i id p pos
    have h' : (id != "super") = true := h
    simp [h']
  · rfl
def aNil : AM := fun _ st => .ok [] st
def aCons (m : EM) (am : AM) : AM := fun env st => (m env st).bind fun x st1 => (am env st1).bind fun xs st2 => .ok (x :: xs) st2
section
variable {X : Cx} {G : Grd} {W : WX} {e : Expr} {es : List Expr} {m : EM} {am : AM} {pos : Pos}
theorem da_nil : DA X G W [] aNil := PA.by pa_nil fun σ H Q ⟨μ, env, st, s, en, f⟩ => f.ok s _ .nil
theorem da_cons (h : DE X G W e m) (hs : DA X G W es am) (hn : notStar e = true) : DA X G W (e :: es) (aCons m am) :=
  PA.by (pa_cons h hs (starEach_plain hn es X.env)) fun σ H Q ⟨μ, env, st, s, en, f⟩ => by
    refine ⟨μ, env, st, s, en, f.bind.mono fun x st1 μ1 H1 e1 s1 h1 v rv => ?_⟩
    refine ⟨μ1, env, st1, s1, en.ext e1, h1.bind.mono fun xs st2 μ2 H2 e2 s2 h2 vs rvs => ?_⟩
    exact h2.ok s2 _ (.cons (rv.ext e2) rvs)
def CallSem (G : Grd) (r : List V → Hp → VK → Prop) (f : List Val → Sto → Option (Val × Sto)) : Prop :=
  ∀ (μ : List Addr) (H : Hp) (st : Sto) (vs : List V) (xs : List Val) (z : Val) (st' : Sto) (Q : VK), Sim G μ H st → RpVs G.K G.hid μ H vs xs → f xs st = some (z, st') →
    (∀ μ' H' q, Ext μ H μ' H' → Sim G μ' H' st' → RpV G.K G.hid [] μ' H' q z → Q q H') → r vs H Q
abbrev FL := List Val → Sto → Option (Val × Sto)
def mCall (f : FL) (am : AM) : EM := fun env st => (am env st).bind fun xs st1 => R.lift (f xs st1)
theorem rdCall {r : List V → Hp → VK → Prop} {f : FL} (o : CallSem G r f) (σ : L2.St) (H : Hp) (Q : VK) (h : RdE G W (mCall f am) σ H Q) : tCB r (RdA G W am) σ H Q := by
  obtain ⟨μ, env, st, s, en, h⟩ := h
  refine ⟨μ, env, st, s, en, h.bind.mono fun xs st1 μ1 H1 e1 s1 h1 vs rvs => ?_⟩
  cases q : f xs st1 with
  | none =>
    rw [q] at h1
    exact h1.elim
  | some p =>
    obtain ⟨z, st3⟩ := p
    rw [q] at h1
    exact o μ1 H1 st1 vs xs z st3 Q s1 rvs q fun μ3 H3 u e3 s3 r3 => h1 μ3 H3 e3 s3 u r3
theorem de_callB {x : Str} {p : Pos} {id : String} {r : List V → Hp → VK → Prop} {f : FL} (hc : CallR X (.builtin id) r) (o : CallSem G r f) (hg : Gl X x) (hm : X.mg x = none) (hv : bootBuiltins x = some (.builtin id)) (ha : DA X G W (e :: es) am)
    (hp : (e :: es).all notStar = true) (hn : x ≠ "__name__") (hdb : (x == ("__debug__" : Str)) = false) : DE X G W (.Call (.Name x p) (e :: es) [] pos) (mCall f am) := by
  simp only [List.all_cons, Bool.and_eq_true] at hp
  exact PE.by (pe_callB hc hg hm hv ha hn hdb (starEach_plain hp.1 es X.env) (star_all pos X.env hp.2)) (rdCall o)
theorem de_callTy {x : Str} {p : Pos} {id : String} {r : List V → Hp → VK → Prop} {f : FL} (hc : CallR X (.type id) r) (o : CallSem G r f) (hg : Gl X x) (hm : X.mg x = none) (hv : bootBuiltins x = some (.type id)) (ha : DA X G W (e :: es) am)
    (hp : (e :: es).all notStar = true) (hn : x ≠ "__name__") (hdb : (x == ("__debug__" : Str)) = false) : DE X G W (.Call (.Name x p) (e :: es) [] pos) (mCall f am) := by
  simp only [List.all_cons, Bool.and_eq_true] at hp
  exact PE.by (pe_callTy hc hg hm hv ha hn hdb (starEach_plain hp.1 es X.env) (star_all pos X.env hp.2)) (rdCall o)
def MtSem (G : Grd) (T : String) (r : V → List V → Hp → VK → Prop) (f : Val → List Val → Sto → Option (Val × Sto)) : Prop :=
  ∀ (μ : List Addr) (H : Hp) (st : Sto) (v : V) (x : Val) (vs : List V) (xs : List Val) (z : Val) (st' : Sto) (Q : VK), Sim G μ H st → RpV G.K G.hid [] μ H v x → RpVs G.K G.hid μ H vs xs → f x xs st = some (z, st') →
    (∀ μ' H' q, Ext μ H μ' H' → Sim G μ' H' st' → RpV G.K G.hid [] μ' H' q z → Q q H') → r v vs H Q
def TySem (G : Grd) (T : String) (g : Val → Sto → Bool) : Prop := ∀ (μ : List Addr) (H : Hp) (st : Sto) (v : V) (x : Val), Sim G μ H st → RpV G.K G.hid [] μ H v x → g x st = true → tyV G.K T v H
def mMeth (g : Val → Sto → Bool) (f : Val → List Val → Sto → Option (Val × Sto)) (mo : EM) (am : AM) : EM := fun env st =>
  (mo env st).bind fun x st1 => match g x st1 with
    | true => (am env st1).bind fun xs st2 => R.lift (f x xs st2)
    | false => .fail
theorem rdMeth {T : String} {g : Val → Sto → Bool} {r : V → List V → Hp → VK → Prop} {f : Val → List Val → Sto → Option (Val × Sto)} (ty : TySem G T g) (o : MtSem G T r f) (σ : L2.St) (H : Hp) (Q : VK)
    (h : RdE G W (mMeth g f m am) σ H Q) : tBM G.K T r (RdE G W m) (RdA G W am) σ H Q := by
  obtain ⟨μ, env, st, s, en, h⟩ := h
  refine ⟨μ, env, st, s, en, h.bind.mono fun x st1 μ1 H1 e1 s1 h1 v rv => ?_⟩
  cases q : g x st1 with
  | false =>
    rw [q] at h1
    exact h1.elim
  | true =>
    rw [q] at h1
    refine ⟨ty μ1 H1 st1 v x s1 rv q, μ1, env, st1, s1, en.ext e1, Fin.mono (Fin.bind h1) fun xs st2 μ2 H2 e2 s2 h2 vs rvs => ?_⟩
    cases q2 : f x xs st2 with
    | none =>
      rw [q2] at h2
      exact h2.elim
    | some p =>
      obtain ⟨z, st3⟩ := p
      rw [q2] at h2
      exact o μ2 H2 st2 v x vs xs z st3 Q s2 (rv.ext e2) rvs q2 fun μ3 H3 u e3 s3 r3 => h2 μ3 H3 e3 s3 u r3
theorem kw_few {pos : Pos} {es : List Expr} {env : Env} (h : plainArgs es = true) : ((backTo pos (starEach es env)).all (fun x => !x.1) && (backToKw pos (keywordEach [] env)).all (fun x => x.1.isSome)
      && decide (es.length + ([] : List Keyword).length + (if ([] : List Keyword).isEmpty then 0 else 1) < 30)) = true := by
  simp only [plainArgs, Bool.and_eq_true, decide_eq_true_eq] at h
  rw [star_few pos env h.1]
  simp [backToKw, keywordEach]
  omega
theorem de_bm {o : Expr} {T id : String} {name : Str} {apos : Pos} {mo : EM} {g : Val → Sto → Bool} {r : V → List V → Hp → VK → Prop} {f : Val → List Val → Sto → Option (Val × Sto)} (hK : X.K = G.K) (pa : PlainAttrs T) (slot : Slot T name id) (hty : typeOf (.builtin id) = pure (.type "method_descriptor"))
    (hm : MtR X id r) (ty : TySem G T g) (sem : MtSem G T r f) (ho : DE X G W o mo) (ha : DA X G W (e :: es) am) (hb : notSuper o = true) (hp : plainArgs (e :: es) = true) (hl : (apos.endLine == pos.line) = true) :
    DE X G W (.Call (.Attribute o name apos) (e :: es) [] pos) (mMeth g f mo am) := by
  have hp' := hp
  simp only [plainArgs, List.all_cons, Bool.and_eq_true] at hp'
  refine PE.by (pe_bm pa slot hty hm ho ha (base_plain hb _) (kw_few hp) hl (starEach_plain hp'.1.1 es X.env) (star_all pos X.env hp'.1.2)) ?_
  rw [hK]
  exact rdMeth ty sem
def mMeth0 (g : Val → Sto → Bool) (f : Val → List Val → Sto → Option (Val × Sto)) (mo : EM) : EM := fun env st =>
  (mo env st).bind fun x st1 => match g x st1 with
    | true => R.lift (f x [] st1)
    | false => .fail
theorem de_bm0 {o : Expr} {T id : String} {name : Str} {apos : Pos} {mo : EM} {g : Val → Sto → Bool} {r : V → List V → Hp → VK → Prop} {f : Val → List Val → Sto → Option (Val × Sto)} (hK : X.K = G.K) (pa : PlainAttrs T) (slot : Slot T name id) (hty : typeOf (.builtin id) = pure (.type "method_descriptor"))
    (hm : MtR X id r) (ty : TySem G T g) (sem : MtSem G T r f) (ho : DE X G W o mo) (hb : notSuper o = true) (hl : (apos.endLine == pos.line) = true) :
    DE X G W (.Call (.Attribute o name apos) [] [] pos) (mMeth0 g f mo) := by
  refine PE.by (pe_bm0 pa slot hty hm ho (base_plain hb _) hl) ?_
  rw [hK]
  rintro σ H Q ⟨μ, env, st, s, en, h⟩
  refine ⟨μ, env, st, s, en, h.bind.mono fun x st1 μ1 H1 e1 s1 h1 v rv => ?_⟩
  cases q : g x st1 with
  | false =>
    rw [q] at h1
    exact h1.elim
  | true =>
    rw [q] at h1
    refine ⟨ty μ1 H1 st1 v x s1 rv q, ?_⟩
    cases q2 : f x [] st1 with
    | none =>
      rw [q2] at h1
      exact h1.elim
    | some p =>
      obtain ⟨z, st3⟩ := p
      rw [q2] at h1
      exact sem μ1 H1 st1 v x [] [] z st3 Q s1 rv .nil q2 fun μ3 H3 u e3 s3 r3 => h1 μ3 H3 e3 s3 u r3
abbrev FS := List Val → Sto → R Val
def spF (G : Grd) (n : Nat) (F : FS) : Sp := fun vs H Q E => ∃ μ st xs, Sim G μ H st ∧ RpVs G.K G.hid μ H vs xs ∧ xs.length = n ∧ Fin G (fun cls d _ H' => E cls d H') [] μ H (F xs st) (PV G Q)
def mApp (n : Nat) (F : FS) (am : AM) : EM := fun env st => (am env st).bind fun xs st1 => if xs.length = n then F xs st1 else .fail
theorem de_call {x : Str} {p : Pos} {k n : Nat} {f : Addr} {fd : FuncData} {ps : List Str} {F : FS} (hF : FnOk X.prog X.w X.K X.mg X.base (L2.CX X.prog X.w) k f fd ps (spF G n F)) (hr : Room k X.A) (hg : Gl X x) (hm : X.mg x = some (.ref f)) (hk : PySem.W.keepIn X.K (.ref f) = true) (hb : Binds X.K fd ps [])
    (tk : Takes X W) (ha : DA X G W (e :: es) am) (hp : (e :: es).all notStar = true) (hdb : (x == ("__debug__" : Str)) = false) : DE X G W (.Call (.Name x p) (e :: es) [] pos) (mApp n F am) := by
  simp only [List.all_cons, Bool.and_eq_true] at hp
  refine PE.by (pe_callS hF hr hg hm hk hb (fun σ => passAt tk σ) ha hdb (starEach_plain hp.1 es X.env) (star_all pos X.env hp.2)) ?_
  rintro σ H Q ⟨μ, env, st, s, en, h⟩
  refine ⟨μ, env, st, s, en, h.bind.mono fun xs st1 μ1 H1 e1 s1 h1 vs rvs => ?_⟩
  by_cases hn : xs.length = n
  · rw [if_pos hn] at h1
    refine ⟨μ1, st1, xs, s1, rvs, hn, ?_⟩
    cases q : F xs st1 with
    | fail => rw [q] at h1; exact h1
    | ok a st2 => rw [q] at h1; exact h1
    | exc c fs st2 => rw [q] at h1; exact h1
  · rw [if_neg hn] at h1
    exact h1.elim
end
end Sl
end
section
set_option Elab.async false
set_option linter.all false
set_option maxRecDepth 100000
namespace Sl
open PySem PySem.Spec PyProof.Rows L2
def decT (i : Int) : T := (toString i).toList
theorem ofString_toS (z : String) : Str.ofString z = toS z.toList := Str.ofString_eq_toList z
def isDig (c : Char) : Bool := decide (48 ≤ c.toNat) && decide (c.toNat ≤ 57)
def digVal (x : T) : Nat := x.foldl (fun acc c => acc * 10 + (c.toNat - 48)) 0
def readInt : T → Option Int
  | [] => none
  | c :: cs => if c = '-' then (if cs ≠ [] ∧ cs.all isDig = true then some (-((digVal cs : Nat) : Int)) else none) else (if (c :: cs).all isDig = true then some ((digVal (c :: cs) : Nat) : Int) else none)
theorem digVal_codes (x : T) : NumText.digitsVal (codes x) = digVal x := by
  unfold NumText.digitsVal digVal codes
  rw [List.foldl_map]
theorem allDigits_codes {x : T} (h : x.all isDig = true) : NumText.AllDigits (codes x) := by
  intro c hc
  unfold codes at hc
  obtain ⟨d, hd, rfl⟩ := List.mem_map.mp hc
  have := List.all_eq_true.mp h d hd
  simp only [isDig, Bool.and_eq_true, decide_eq_true_eq] at this
  exact this
theorem readInt_text {x : T} {n : Int} (h : readInt x = some n) (hl : x.length ≤ 640) : intText? (toS x) = some n := by
  cases x with
  | nil => cases h
  | cons c cs =>
    have hlen : (toS (c :: cs)).length ≤ 4300 := by rw [toS_len]; omega
    by_cases hc : c = '-'
    · have h' : (if cs ≠ [] ∧ cs.all isDig = true then some (-((digVal cs : Nat) : Int)) else none) = some n := by
        have := h
        unfold readInt at this
        dsimp only at this
        rwa [if_pos hc] at this
      by_cases hq : cs ≠ [] ∧ cs.all isDig = true
      · rw [if_pos hq] at h'
        cases h'
        have hx : (toS (c :: cs)).cps.toList = 45 :: codes cs := by rw [cps_toS, hc]; rfl
        rw [intText_neg hx (allDigits_codes hq.2) (fun z => hq.1 (by cases cs with | nil => rfl | cons _ _ => simp [codes] at z)) hlen, digVal_codes]
      · rw [if_neg hq] at h'
        cases h'
    · have h' : (if (c :: cs).all isDig = true then some ((digVal (c :: cs) : Nat) : Int) else none) = some n := by
        have := h
        unfold readInt at this
        dsimp only at this
        rwa [if_neg hc] at this
      by_cases hq : (c :: cs).all isDig = true
      · rw [if_pos hq] at h'
        cases h'
        rw [intText_digits (by rw [cps_toS]; exact allDigits_codes hq) (by rw [cps_toS]; simp [codes]) hlen, cps_toS, digVal_codes]
      · rw [if_neg hq] at h'
        cases h'
theorem decT_len {i : Int} (h : i.natAbs.log2 < 1920) : (decT i).length ≤ tMax := by
  have hb : i.natAbs < 10 ^ 1920 := by
    have h1 : i.natAbs < 2 ^ 1920 := by
      by_cases z : i.natAbs = 0
      · rw [z]; exact Nat.two_pow_pos _
      · exact (Nat.log2_lt z).mp h
    exact Nat.lt_of_lt_of_le h1 (Nat.pow_le_pow_left (by decide) _)
  have key : ∀ n : Nat, n < 10 ^ 1920 → (Nat.toDigits 10 n).length ≤ 1920 := fun n hn => by
    have := TL.numL_len (n := n) (k := 1920) (by decide) hn
    unfold TL.numL at this
    simpa using this
  have ht : 1921 ≤ tMax := by decide
  unfold decT
  cases i with
  | ofNat n =>
    have e : toString (Int.ofNat n) = String.ofList (Nat.toDigits 10 n) := rfl
    rw [e, String.toList_ofList]
    have := key n hb
    omega
  | negSucc n =>
    have e : toString (Int.negSucc n) = "-" ++ String.ofList (Nat.toDigits 10 (n + 1)) := rfl
    have := key (n + 1) hb
    have h2 : "-".toList.length = 1 := rfl
    have h3 : (String.ofList (Nat.toDigits 10 (n + 1))).toList = Nat.toDigits 10 (n + 1) := String.toList_ofList
    rw [e, String.toList_append, List.length_append, h2, h3]
    omega
def fLen : FL := fun xs st => match xs with
  | [.p (.str x)] => some (.p (.int x.length), st)
  | [.p (.tup ds)] => some (.p (.int ds.length), st)
  | [x] => match viewL st x with
    | some ys => some (.p (.int ys.length), st)
    | none => none
  | _ => none
section
variable {X : Cx} {G : Grd}
theorem RpVs.one {K : Frag} {hid : List Addr} {μ : List Addr} {H : Hp} {vs : List V} {x : Val} (h : RpVs K hid μ H vs [x]) : ∃ v, vs = [v] ∧ RpV K hid [] μ H v x := by
  cases h with
  | cons r t => cases t; exact ⟨_, rfl, r⟩
theorem RpVs.two {K : Frag} {hid : List Addr} {μ : List Addr} {H : Hp} {vs : List V} {x y : Val} (h : RpVs K hid μ H vs [x, y]) : ∃ v w, vs = [v, w] ∧ RpV K hid [] μ H v x ∧ RpV K hid [] μ H w y := by
  cases h with
  | cons r t =>
    obtain ⟨w, rfl, q⟩ := RpVs.one t
    exact ⟨_, _, rfl, r, q⟩
def rLenX (K : Frag) : List V → Hp → VK → Prop := fun xs H Q => ∃ x n, xs = [x] ∧ LenV K x H n ∧ Q (.int n) H
theorem sem_len : CallSem G (rLenX G.K) fLen := by
  intro μ H st vs xs z st' Q s rv e k
  unfold fLen at e
  split at e
  · cases e
    obtain ⟨v, rfl, r⟩ := rv.one
    cases r with
    | str x hl =>
      have hz : (16000000 : Nat) ≤ sizeLine := by decide
      exact ⟨_, _, rfl, ⟨by rw [toS_len]; exact Nat.le_trans hl hz, (toS_len _).symm⟩, k μ H _ Ext.refl s (.int _)⟩
  · cases e
    obtain ⟨v, rfl, r⟩ := rv.one
    cases r with
    | tup h1 hp h2 => exact ⟨_, _, rfl, .inr ⟨_, h1, h2.length.symm⟩, k μ H _ Ext.refl s (.int _)⟩
  · split at e
    · rename_i ys q
      cases e
      obtain ⟨v, rfl, r⟩ := rv.one
      obtain ⟨a, ws, rfl, h1, h2⟩ := viewL_sem s r q
      exact ⟨_, _, rfl, .inl ⟨_, h1, h2.length.symm⟩, k μ H _ Ext.refl s (.int _)⟩
    · cases e
  · cases e
def bools : List Val → Option (List Bool)
  | [] => some []
  | .p (.bl b) :: vs => match bools vs with
    | some bs => some (b :: bs)
    | none => none
  | _ :: _ => none
theorem RpVs.bools {K : Frag} {hid : List Addr} {μ : List Addr} {H : Hp} : ∀ {vs : List V} {xs : List Val} {bs : List Bool}, RpVs K hid μ H vs xs → bools xs = some bs → vs = bs.map V.bl
  | _, _, _, .nil, e => by cases e; rfl
  | _, _, _, .cons (a := v) (b := x) (l₁ := vt) (l₂ := xt) r t, e => by
    cases x with
    | p d =>
      cases d with
      | bl b =>
        cases q : Sl.bools xt with
        | none => simp [Sl.bools, q] at e
        | some bs =>
          simp [Sl.bools, q] at e
          subst e
          cases r
          rw [RpVs.bools t q]; rfl
      | _ => simp [Sl.bools] at e
    | _ => simp [Sl.bools] at e
def fAll (any : Bool) : FL := fun xs st => match xs with
  | [x] => match viewL st x with
    | some ys => match bools ys with
      | some bs => some (.p (.bl (if any then bs.any id else bs.all id)), st)
      | none => none
    | none => none
  | _ => none
theorem sem_all : CallSem G (rAll G.K) (fAll false) := by
  intro μ H st vs xs z st' Q s rv e k
  unfold fAll at e
  split at e
  · split at e
    · rename_i ys q
      split at e
      · rename_i bs qb
        cases e
        obtain ⟨v, rfl, r⟩ := rv.one
        obtain ⟨a, ws, rfl, h1, h2⟩ := viewL_sem s r q
        have := h2.bools qb
        subst this
        exact ⟨a, bs, rfl, h1, k μ H _ Ext.refl s (.bl _)⟩
      · cases e
    · cases e
  · cases e
def fTuple : FL := fun xs st => match xs with
  | [.p (.tup ds)] => some (.p (.tup ds), st)
  | [x] => match viewL st x with
    | some ys => newTup ys st
    | none => none
  | _ => none
theorem sem_tuple : CallSem G (rTupleX G.K) fTuple := by
  intro μ H st vs xs z st' Q s rv e k
  unfold fTuple at e
  split at e
  · cases e
    obtain ⟨v, rfl, r⟩ := rv.one
    cases r with
    | tup h1 hp h2 => exact ⟨_, _, rfl, .inr ⟨h1, k μ H _ Ext.refl s (.tup h1 hp h2)⟩⟩
  · split at e
    · rename_i ys q
      obtain ⟨v, rfl, r⟩ := rv.one
      obtain ⟨a, ws, rfl, h1, h2⟩ := viewL_sem s r q
      exact ⟨_, _, rfl, .inl ⟨h1, (newTup_sem s h2 e k).2⟩⟩
    · cases e
  · cases e
def fInt : FL := fun xs st => match xs with
  | [.p (.int i)] => some (.p (.int i), st)
  | [.p (.bl b)] => some (.p (.int (if b then 1 else 0)), st)
  | [.p (.str x)] => if x.length ≤ 640 then match readInt x with
    | some n => some (.p (.int n), st)
    | none => none else none
  | _ => none
def rIntX : List V → Hp → VK → Prop := fun xs H Q => ((∃ i, xs = [.int i] ∧ Q (.int i) H) ∨ ∃ k, xs = [.bl k] ∧ Q (.int (if k then 1 else 0)) H) ∨ ∃ a n, xs = [.str a] ∧ PySem.intText? a = some n ∧ a.length ≤ 640 ∧ Q (.int n) H
theorem CallR.or {f : Value} {r r' : List V → Hp → VK → Prop} (h : CallR X f r) (h' : CallR X f r') : CallR X f (fun xs H Q => r xs H Q ∨ r' xs H Q) := fun pins s σ H xs us Q I rr q => q.elim (h pins s σ H xs us Q I rr) (h' pins s σ H xs us Q I rr)
theorem callr_int : CallR X (.type "int") rIntX := CallR.or call_int1 call_int_str
theorem sem_int : CallSem G rIntX fInt := by
  intro μ H st vs xs z st' Q s rv e k
  unfold fInt at e
  split at e
  · cases e
    obtain ⟨v, rfl, r⟩ := rv.one
    cases r
    exact .inl (.inl ⟨_, rfl, k μ H _ Ext.refl s (.int _)⟩)
  · cases e
    obtain ⟨v, rfl, r⟩ := rv.one
    cases r
    exact .inl (.inr ⟨_, rfl, k μ H _ Ext.refl s (.int _)⟩)
  · split at e
    · rename_i hl
      split at e
      · rename_i n q
        cases e
        obtain ⟨v, rfl, r⟩ := rv.one
        cases r
        exact .inr ⟨_, n, rfl, readInt_text q hl, by rw [toS_len]; exact hl, k μ H _ Ext.refl s (.int _)⟩
      · cases e
    · cases e
  · cases e
def strOf : Val → Option T
  | .p (.int i) => if i.natAbs.log2 < 1920 then some (decT i) else none
  | .p (.str x) => some x
  | _ => none
def fStr : FL := fun xs st => match xs with
  | [x] => match strOf x with
    | some t => some (.p (.str t), st)
    | none => none
  | _ => none
def rStrX : List V → Hp → VK → Prop := fun xs H Q => (∃ i, xs = [.int i] ∧ i.natAbs.log2 < 1920 ∧ Q (.str (Str.ofString (toString i))) H) ∨ ∃ a, xs = [.str a] ∧ Q (.str a) H
theorem callr_str : CallR X (.type "str") rStrX := CallR.or call_str_int SkE.call_str_str
theorem sem_str : CallSem G rStrX fStr := by
  intro μ H st vs xs z st' Q s rv e k
  unfold fStr at e
  split at e
  · rename_i x
    split at e
    · rename_i t q
      cases e
      obtain ⟨v, rfl, r⟩ := rv.one
      unfold strOf at q
      split at q
      · split at q
        · rename_i i hl
          cases q
          cases r
          exact .inl ⟨i, rfl, hl, by rw [ofString_toS]; exact k μ H _ Ext.refl s (.str _ (decT_len hl))⟩
        · cases q
      · cases q
        cases r with
        | str _ hl => exact .inr ⟨_, rfl, k μ H _ Ext.refl s (.str _ hl)⟩
      · cases q
    · cases e
  · cases e
def tyName (st : Sto) : Val → Option String
  | .p .non => some "NoneType"
  | .p (.bl _) => some "bool"
  | .p (.int _) => some "int"
  | .p (.str _) => some "str"
  | .p (.tup _) => some "tuple"
  | .p (.lst _) => some "list"
  | .p (.dct _ _) => some "dict"
  | .r l => match st[l]? with
    | some (.lst _) => some "list"
    | some (.dct _ _) => some "dict"
    | _ => none
  | _ => none
def isTy (a T : String) : Bool := a == T || (a == "bool" && T == "int")
def knownTy : List String := ["NoneType", "bool", "int", "str", "tuple", "list", "dict"]
theorem kit_all : (knownTy.all fun a => (["bool", "int", "str", "tuple", "list", "dict"] : List String).all fun b => kitB a b == some (isTy a b)) = true := by decide +kernel
theorem tyName_known {st : Sto} {x : Val} {a : String} (h : tyName st x = some a) : a ∈ knownTy := by
  unfold tyName at h
  split at h <;> first | (cases h; decide) | skip
  · split at h <;> first | (cases h; decide) | cases h
  · cases h
theorem tyX_of {μ : List Addr} {H : Hp} {st : Sto} {v : V} {x : Val} {a : String} (s : Sim G μ H st) (r : RpV G.K G.hid [] μ H v x) (h : tyName st x = some a) : TyX G.K H v (.type a) := by
  unfold tyName at h
  split at h
  · cases h; cases r; exact .base .non
  · cases h; cases r; exact .base (.bl _)
  · cases h; cases r; exact .base (.int _)
  · cases h; cases r; exact .base (.str _)
  · cases h
    cases r with
    | tup h1 hp h2 =>
      rcases h1 with (h1 | ⟨o, h1⟩) | ⟨o, its, n, h1, h2, _⟩
      · exact .base (.tup h1)
      · exact .fTuple h1
      · exact .kTuple h1 h2
  · cases h
    cases r with
    | lst h1 h2 h3 => exact .base (.lst h1)
  · cases h
    cases r with
    | dct h1 h2 h3 h4 =>
      rcases h1 with h1 | ⟨o, h1⟩
      · exact .base (.dK h1)
      · exact .fDict h1
  · obtain ⟨b, rfl, hb⟩ := r
    split at h
    · rename_i q
      cases h
      obtain ⟨xs, h1, h2⟩ := s.obj _ _ _ hb q
      exact .base (.lst h1)
    · rename_i q
      cases h
      obtain ⟨xs, h1, h2⟩ := s.obj _ _ _ hb q
      exact .base (.dK h1)
    · cases h
  · cases h
def mIsi (T : String) (m : EM) : EM := fun env st => (m env st).bind fun x st1 => match tyName st1 x with
  | some a => .ok (.p (.bl (isTy a T))) st1
  | none => .fail
theorem de_isi {W : WX} {e : Expr} {m : EM} {pos p p2 : Pos} {y : Str} {T : String} (hK : X.K = G.K) (hT : T ∈ (["bool", "int", "str", "tuple", "list", "dict"] : List String)) (hg : Gl X "isinstance") (hm : X.mg "isinstance" = none)
    (hy : Gl X y) (hmy : X.mg y = none) (hvy : bootBuiltins y = some (.type T)) (hn : y ≠ "__name__") (hd : (y == ("__debug__" : Str)) = false) (h : DE X G W e m) (hs : notStar e = true) :
    DE X G W (.Call (.Name "isinstance" p) [e, .Name y p2] [] pos) (mIsi T m) := by
  have hb : bootBuiltins ("isinstance" : Str) = some (.builtin "isinstance") := by decide +kernel
  refine PE.by (pe_callB (call_isi (X := X)) hg hm hb (pa_cons h (pa_cons (pe_bltn (v := .ty T) hy hmy hvy rfl hn hd) pa_nil rfl) (starEach_plain hs _ _)) (by decide) (by decide) (starEach_plain hs _ _) rfl) ?_
  rintro σ H Q ⟨μ, env, st, s, en, f⟩
  refine ⟨μ, env, st, s, en, f.bind.mono fun x st1 μ1 H1 e1 s1 h1 v rv => ?_⟩
  cases q : tyName st1 x with
  | none => rw [q] at h1; exact h1.elim
  | some a =>
    rw [q] at h1
    have k1 := List.all_eq_true.mp (List.all_eq_true.mp kit_all a (tyName_known q)) T hT
    refine ⟨v, .ty T, .type a, .type T, isTy a T, rfl, .ty T, by rw [hK]; exact tyX_of s1 rv q, kit_ty (eq_of_beq k1), ?_⟩
    exact h1.ok s1 _ (.bl _)
end
end Sl
end
section
set_option Elab.async false
set_option linter.all false
set_option maxRecDepth 100000
namespace Sl
open PySem PySem.Spec PyProof.Rows L2
def keyOf : Val → Option DK
  | .p (.int i) => some (.inl i)
  | .p (.str x) => some (.inr x)
  | _ => none
def dfind {α : Type} (k : DK) : List DK → List α → Option α
  | k' :: ks, x :: xs => if k' = k then some x else dfind k ks xs
  | _, _ => none
def viewK (st : Sto) : Val → Option (List DK × List Val)
  | .p (.dct ks ds) => some (ks, ds.map .p)
  | .r l => match st[l]? with
    | some (.dct ks vs) => some (ks, vs)
    | some (.ldct ks vs) => some (ks, vs)
    | _ => none
  | _ => none
section
variable {X : Cx} {G : Grd} {μ : List Addr} {H : Hp} {st : Sto} {v : V} {x : Val}
theorem viewK_sem {ks : List DK} {ys : List Val} (s : Sim G μ H st) (r : RpV G.K G.hid [] μ H v x) (e : viewK st x = some (ks, ys)) : ∃ a kvs, v = .ref a ∧ Rd H a (.dK kvs) ∧ kvs.map Prod.fst = ks.map toK ∧ RpVs G.K G.hid μ H (kvs.map Prod.snd) ys := by
  unfold viewK at e
  split at e
  · cases e
    cases r with
    | dct h1 h2 h3 h4 => exact ⟨_, _, rfl, h1, h3, RpL.vals h4⟩
  · obtain ⟨a, rfl, ha⟩ := r
    split at e
    · rename_i q
      cases e
      obtain ⟨kvs, h1, h2, h3⟩ := s.obj _ _ _ ha q
      exact ⟨a, kvs, rfl, .inl h1, h2, h3⟩
    · rename_i q
      cases e
      obtain ⟨o, kvs, h1, h2, h3⟩ := s.obj _ _ _ ha q
      exact ⟨a, kvs, rfl, .inr ⟨o, h1⟩, h2, h3⟩
    · cases e
  · cases e
theorem keyOf_sem {k : DK} (r : RpV G.K G.hid [] μ H v x) (e : keyOf x = some k) : v = kV (toK k) := by
  unfold keyOf at e
  split at e
  · cases e; cases r; rfl
  · cases e; cases r; rfl
  · cases e
theorem dfind_sem {K : Frag} {hid : List Addr} {k : DK} : ∀ {ks : List DK} {kvs : List (Key × V)} {ys : List Val}, kvs.map Prod.fst = ks.map toK → RpVs K hid μ H (kvs.map Prod.snd) ys →
    (∀ y, dfind k ks ys = some y → ∃ w, valV kvs (toK k) = some w ∧ RpV K hid [] μ H w y) ∧ (dfind k ks ys = none → valV kvs (toK k) = none)
  | [], kvs, ys, e, r => by
    cases kvs with
    | nil => exact ⟨fun y h => by simp [dfind] at h, fun _ => rfl⟩
    | cons p kvs => simp at e
  | k' :: ks, kvs, ys, e, r => by
    cases kvs with
    | nil => simp at e
    | cons p kvs =>
      simp only [List.map_cons, List.cons.injEq] at e
      simp only [List.map_cons] at r
      cases r with
      | cons r1 r2 =>
        rename_i y ys
        by_cases q : k' = k
        · refine ⟨fun z h => ?_, fun h => ?_⟩
          · simp only [dfind, if_pos q, Option.some.injEq] at h
            subst h
            exact ⟨p.2, valV_pos (by rw [e.1, q]), r1⟩
          · simp [dfind, q] at h
        · have q' : ¬ p.1 = toK k := fun z => q (toK_inj (e.1.symm.trans z))
          have ih := dfind_sem (K := K) (k := k) e.2 r2
          rw [valV_neg q']
          simp only [dfind, if_neg q]
          exact ih
def fIxO : F2 := fun x y st => match viewL st x with
  | some ys => match y with
    | .p (.int i) => match atI ys i with
      | some z => some (z, st)
      | none => none
    | _ => none
  | none => match viewK st x with
    | some (ks, ys) => match keyOf y with
      | some k => match dfind k ks ys with
        | some z => some (z, st)
        | none => none
      | none => none
    | none => none
def fIx : F2 := fun x y st => match x, y with
  | .p (.str s), .p (.int i) => match atI s i with
    | some c => some (.p (.str [c]), st)
    | none => none
  | .p (.tup ds), .p (.int i) => match atI ds i with
    | some d => some (.p d, st)
    | none => none
  | x, y => fIxO x y st
theorem atI_map {α β : Type} (f : α → β) (xs : List α) (i : Int) : atI (xs.map f) i = (atI xs i).map f := by
  unfold atI
  rw [List.length_map]
  cases ixN xs.length i with
  | none => rfl
  | some j => simp
theorem RpL.atI {K : Frag} {F : Addr → Prop} {vs : List V} {ds : List D} {i : Int} {d : D} (r : RpL K F H vs ds) (e : atI ds i = some d) : ∃ w, L2.atI vs i = some w ∧ Rp K F H w d := by
  unfold L2.atI at e ⊢
  rw [r.length]
  cases q : ixN ds.length i with
  | none => rw [q] at e; cases e
  | some j =>
    rw [q] at e
    exact r.get e
theorem RpVs.get {K : Frag} {hid : List Addr} : ∀ {vs : List V} {ys : List Val} {i : Nat} {y : Val}, RpVs K hid μ H vs ys → ys[i]? = some y → ∃ w, vs[i]? = some w ∧ RpV K hid [] μ H w y
  | _, _, _, _, .nil, e => by simp at e
  | _, _, 0, _, .cons r _, e => by simp at e; subst e; exact ⟨_, rfl, r⟩
  | _, _, i + 1, _, .cons _ t, e => by
    obtain ⟨u, h1, h2⟩ := RpVs.get (i := i) t (by simpa using e)
    exact ⟨u, by simpa using h1, h2⟩
theorem RpVs.atI {K : Frag} {hid : List Addr} {vs : List V} {ys : List Val} {i : Int} {y : Val} (r : RpVs K hid μ H vs ys) (e : L2.atI ys i = some y) : ∃ w, L2.atI vs i = some w ∧ RpV K hid [] μ H w y := by
  unfold L2.atI at e ⊢
  rw [r.length]
  cases q : ixN ys.length i with
  | none => rw [q] at e; cases e
  | some j =>
    rw [q] at e
    exact r.get e
def rIxD : R2 := fun x y H Q => ∃ a v, x = .ref a ∧ DGet H a y (some v) ∧ Q v H
def rIxX (K : Frag) : R2 := fun x y H Q => rIx K x y H Q ∨ rIxD x y H Q
theorem ixr_dict (hu : X.A.units + 1 < cLine) : IxR X rIxD := by
  intro value slice pins s σ H x y v u Q I rx ry h hs
  obtain ⟨a, w, rfl, g, q⟩ := h
  cases rx
  have hT : s.TypeIs (.ref a) "dict" := dict_typeIs I g
  have get := d_getItem (A := X.A) (E := X.xe) (Q := fun r s₃ => EP X pins σ Q r s₃) hu I g ry fun w' s3 I3 rw' => ⟨w, H, I3, rw', q⟩
  unfold subscriptTail
  refine wpAny_bind ?_
  rw [getitemInPython_of_ne hT.not_modules]
  refine wpAny_bind (wpAny_specialOf hT PySem.F.slot_dict_getitem.lookup ?_)
  have go : wpAny (model X.prog X.w) X.A (subscripted slice false (.ref a) u) (fun r s₃ =>
      wpAny (model X.prog X.w) X.A (letTemporaryGo value (.ref a) r >>= fun _ => pure r) (EP X pins σ Q) X.xe s₃) X.xe s := by
    rw [hs]
    exact wpAny_operating (wpAny_mono get (fun r s₃ h₃ =>
      wpAny_bind (wpAny_letTemporaryGo (wpAny_pure h₃))) fun _ _ x => x)
  first
    | exact wpAny_bind go
    | exact wpAny_pure (wpAny_bind go)
    | exact wpAny_bind (wpAny_pure (wpAny_bind go))
theorem ixr_all (hu : X.A.units + 1 < cLine) : IxR X (rIxX X.K) := ix_seq.or (ixr_dict hu)
theorem codes_at {x : T} {i : Int} {c : Char} (e : atI x i = some c) : atI (toS x).cps.toList i = some c.toNat := by
  rw [cps_toS]
  unfold codes
  rw [atI_map, e]
  rfl
theorem sem_ix : OpSem G (rIxX G.K) fIx := by
  intro μ H st v w x y z st' Q s rv rw_ e k
  unfold fIx at e
  split at e
  · split at e
    · rename_i c q
      cases e
      cases rw_
      cases rv with
      | str _ hl =>
        have hz : (16000000 : Nat) ≤ sizeLine := by decide
        exact .inl (.inr (.inr ⟨_, _, c.toNat, rfl, rfl, by rw [toS_len]; exact Nat.le_trans hl hz, codes_at q, k μ H _ Ext.refl s (.str [c] (by show 1 ≤ tMax; decide))⟩))
    · cases e
  · split at e
    · rename_i d q
      cases e
      cases rw_
      cases rv with
      | tup h1 hp h2 =>
        obtain ⟨u, hu, ru⟩ := h2.atI q
        exact .inl (.inr (.inl ⟨_, _, _, _, rfl, rfl, h1, hu, k μ H _ Ext.refl s ru⟩))
    · cases e
  · unfold fIxO at e
    split at e
    · rename_i ys qv
      split at e
      · rename_i i
        split at e
        · rename_i zz q
          cases e
          obtain ⟨a, vs, rfl, h1, h2⟩ := viewL_sem s rv qv
          cases rw_
          obtain ⟨u, hu, ru⟩ := h2.atI q
          exact .inl (.inl ⟨_, _, _, _, rfl, rfl, h1, hu, k μ H _ Ext.refl s ru⟩)
        · cases e
      · cases e
    · split at e
      · rename_i ks ys qv
        split at e
        · rename_i kk qk
          split at e
          · rename_i zz q
            cases e
            obtain ⟨a, kvs, rfl, h1, h2, h3⟩ := viewK_sem s rv qv
            obtain ⟨u, hu, ru⟩ := (dfind_sem (k := kk) h2 h3).1 _ q
            exact .inr ⟨a, u, rfl, .inl ⟨kvs, toK kk, h1, keyOf_sem rw_ qk, hu.symm⟩, k μ H _ Ext.refl s ru⟩
          · cases e
        · cases e
      · cases e
def notSlice : Expr → Bool
  | .Slice _ _ _ _ => false
  | _ => true
theorem plainIx_of {b : Expr} (h : notSlice b = true) : PlainIx b := fun o i => by
  cases b <;> first | rfl | cases h
theorem de_ix {W : WX} {a b : Expr} {ma mb : EM} {pos : Pos} (hK : X.K = G.K) (hu : X.A.units + 1 < cLine) (ha : DE X G W a ma) (hb : DE X G W b mb) (hs : notSlice b = true) : DE X G W (.Subscript a b pos) (m2 fIx ma mb) := by
  refine PE.by (pe_ix (ixr_all hu) ha hb (plainIx_of hs)) ?_
  rw [hK]
  exact rd2 sem_ix
def cutL {α : Type} (xs : List α) (lo hi : Option Int) : List α := (xs.drop (HT.sIx xs.length 0 lo)).take (HT.sIx xs.length xs.length hi - HT.sIx xs.length 0 lo)
abbrev OM := Slots → Sto → R (Option Int)
def RdO (G : Grd) (W : WX) (m : OM) : TO := fun σ H Q => ∃ μ env st, Sim G μ H st ∧ EnvRp G μ H env σ ∧ Fin G W σ μ H (m env st) (fun o st' μ' H' => ∃ st2, Sim G μ' H' st2 ∧ st2 = st' ∧ Q o H')
def oNone : OM := fun _ st => .ok none st
def oSome (m : EM) : OM := fun env st => (m env st).bind fun x st1 => match x with
  | .p (.int i) => .ok (some i) st1
  | _ => .fail
def mSlice (f : Val → Option Int → Option Int → Sto → Option (Val × Sto)) (m : EM) (ml mh : OM) : EM := fun env st => (m env st).bind fun x st1 => (ml env st1).bind fun lo st2 => (mh env st2).bind fun hi st3 => R.lift (f x lo hi st3)
def fSl (md : Bool) : Val → Option Int → Option Int → Sto → Option (Val × Sto) := fun x lo hi st => match x with
  | .p (.str s) => some (.p (.str (cutL s lo hi)), st)
  | .p (.tup ds) => some (.p (.tup (cutL ds lo hi)), st)
  | _ => match viewL st x with
    | some ys => newLst md (cutL ys lo hi) st
    | none => none
theorem RpVs.take {K : Frag} {hid : List Addr} : ∀ {vs : List V} {ys : List Val} (n : Nat), RpVs K hid μ H vs ys → RpVs K hid μ H (vs.take n) (ys.take n)
  | _, _, 0, _ => .nil
  | _, _, _ + 1, .nil => .nil
  | _, _, n + 1, .cons r t => .cons r (RpVs.take n t)
theorem RpVs.drop {K : Frag} {hid : List Addr} : ∀ {vs : List V} {ys : List Val} (n : Nat), RpVs K hid μ H vs ys → RpVs K hid μ H (vs.drop n) (ys.drop n)
  | _, _, 0, h => h
  | _, _, _ + 1, .nil => .nil
  | _, _, n + 1, .cons r t => RpVs.drop n t
def rSlX (K : Frag) : V → Option Int → Option Int → Hp → VK → Prop := fun x lo hi H Q => rSlL K x lo hi H Q ∨ rSlF K x lo hi H Q ∨ rSlS x lo hi H Q
theorem slr_all : SlR X (rSlX X.K) := sl_list.or (sl_tupF.or sl_str)
theorem sem_sl {md : Bool} {lo hi : Option Int} {st' : Sto} {z : Val} {Q : VK} (s : Sim G μ H st) (rv : RpV G.K G.hid [] μ H v x) (e : fSl md x lo hi st = some (z, st'))
    (k : ∀ μ' H' q, Ext μ H μ' H' → Sim G μ' H' st' → RpV G.K G.hid [] μ' H' q z → Q q H') : rSlX G.K v lo hi H Q := by
  unfold fSl at e
  split at e
  · rename_i t
    cases e
    cases rv with
    | str _ hl =>
      have hz : (16000000 : Nat) ≤ sizeLine := by decide
      refine .inr (.inr ⟨_, rfl, by rw [toS_len]; exact Nat.le_trans hl hz, ?_⟩)
      have ec : cutS (toS t) lo hi = toS (cutL t lo hi) := by
        unfold cutS cutL
        rw [toS_len, cps_toS]
        unfold codes toS
        rw [← List.map_drop, ← List.map_take]
      rw [ec]
      refine k μ H _ Ext.refl s (.str _ (Nat.le_trans ?_ hl))
      unfold cutL
      rw [List.length_take, List.length_drop]
      omega
  · rename_i ds
    cases e
    cases rv with
    | tup h1 hpl h2 =>
      rename_i a vs
      refine .inr (.inl ⟨a, vs, rfl, h1, fun hw => ?_, fun _ p o hp hd => ?_⟩)
      · have e1 : cutL ds lo hi = ds := by
          unfold cutL
          rw [← h2.length, hw.1, hw.2]
          simp [h2.length]
        rw [e1] at k
        exact k μ H _ Ext.refl s (.tup h1 hpl h2)
      · have r2 : RpL G.K (Fz G.hid μ) H (cutV vs lo hi) (cutL ds lo hi) := by
          unfold cutV cutL
          rw [← h2.length]
          exact RpL.take _ (RpL.drop _ h2)
        exact k μ _ _ (Ext.new hp) (s.new hp) (.tup (.inl (.inr ⟨o, upd_same⟩)) (.inl ⟨o, _, upd_same, hd⟩) (RpL.carry (Ext.new hp).carry _ _ r2))
  · split at e
    · rename_i ys q
      obtain ⟨a, vs, rfl, h1, h2⟩ := viewL_sem s rv q
      have r2 : RpVs G.K G.hid μ H (cutV vs lo hi) (cutL ys lo hi) := by
        unfold cutV cutL
        rw [← h2.length]
        exact RpVs.take _ (RpVs.drop _ h2)
      exact .inl ⟨a, vs, rfl, h1, (newLst_sem s r2 e k).2⟩
    · cases e
theorem po_by {e : Option Expr} {t t' : TO} (h : PO X e t) (k : ∀ σ H Q, t' σ H Q → t σ H Q) : PO X e t' := ⟨fun pins s σ H Q I q => h.run pins s σ H Q I (k σ H Q q)⟩
theorem do_none {W : WX} : PO X none (RdO G W oNone) := po_by po_none fun σ H Q ⟨μ, env, st, s, en, f⟩ => by
  obtain ⟨_, _, _, q⟩ := f.ok s
  exact q
theorem do_some {W : WX} {e : Expr} {m : EM} (h : DE X G W e m) : PO X (some e) (RdO G W (oSome m)) := po_by (po_some h) fun σ H Q ⟨μ, env, st, s, en, f⟩ => by
  refine ⟨μ, env, st, s, en, f.bind.mono fun x st1 μ1 H1 e1 s1 h1 v rv => ?_⟩
  split at h1
  · rename_i i
    cases rv
    obtain ⟨_, _, _, q⟩ := h1.ok s1
    exact ⟨i, rfl, q⟩
  · exact h1.elim
theorem de_slice {W : WX} {a : Expr} {lo hi : Option Expr} {ma : EM} {ml mh : OM} {md : Bool} {pos p2 : Pos} (hK : X.K = G.K) (ha : DE X G W a ma) (hl : PO X lo (RdO G W ml)) (hh : PO X hi (RdO G W mh)) :
    DE X G W (.Subscript a (.Slice lo hi none p2) pos) (mSlice (fSl md) ma ml mh) := by
  refine PE.by (pe_slice (slr_all (X := X)) ha hl hh) ?_
  rw [hK]
  rintro σ H Q ⟨μ, env, st, s, en, f⟩
  refine ⟨μ, env, st, s, en, f.bind.mono fun x st1 μ1 H1 e1 s1 h1 v rv => ?_⟩
  refine ⟨μ1, env, st1, s1, en.ext e1, h1.bind.mono fun lo st2 μ2 H2 e2 s2 h2 => ⟨st2, s2, rfl, ?_⟩⟩
  refine ⟨μ2, env, st2, s2, (en.ext e1).ext e2, h2.bind.mono fun hi st3 μ3 H3 e3 s3 h3 => ⟨st3, s3, rfl, ?_⟩⟩
  cases q : fSl md x lo hi st3 with
  | none => rw [q] at h3; exact h3.elim
  | some p =>
    obtain ⟨z, st4⟩ := p
    rw [q] at h3
    exact sem_sl s3 ((rv.ext e2).ext e3) q fun μ4 H4 u e4 s4 r4 => h3 μ4 H4 e4 s4 u r4
def mTup (am : AM) : EM := fun env st => (am env st).bind fun xs st1 => R.lift (newTup xs st1)
def mLst (md : Bool) (am : AM) : EM := fun env st => (am env st).bind fun xs st1 => R.lift (newLst md xs st1)
theorem de_tup {W : WX} {es : List Expr} {am : AM} {k : Nat} {pos : Pos} (h : DA X G W es am) : DE X G W (.Tuple es k pos) (mTup am) :=
  PE.by (pe_tupF h) fun σ H Q ⟨μ, env, st, s, en, f⟩ => by
    refine ⟨μ, env, st, s, en, f.bind.mono fun xs st1 μ1 H1 e1 s1 h1 vs rv => ?_⟩
    cases q : newTup xs st1 with
    | none => rw [q] at h1; exact h1.elim
    | some p =>
      obtain ⟨z, st2⟩ := p
      rw [q] at h1
      exact newTup_sem s1 rv q fun μ4 H4 u e4 s4 r4 => h1 μ4 H4 e4 s4 u r4
theorem de_lst {W : WX} {es : List Expr} {am : AM} {md : Bool} {pos : Pos} (h : DA X G W es am) : DE X G W (.List es pos) (mLst md am) :=
  PE.by (pe_lst h) fun σ H Q ⟨μ, env, st, s, en, f⟩ => by
    refine ⟨μ, env, st, s, en, f.bind.mono fun xs st1 μ1 H1 e1 s1 h1 vs rv => ?_⟩
    cases q : newLst md xs st1 with
    | none => rw [q] at h1; exact h1.elim
    | some p =>
      obtain ⟨z, st2⟩ := p
      rw [q] at h1
      exact newLst_sem s1 rv q fun μ4 H4 u e4 s4 r4 => h1 μ4 H4 e4 s4 u r4
def mAndV (ma mb : EM) : EM := fun env st => (ma env st).bind fun x st1 => match x with
  | .p (.bl true) => mb env st1
  | .p (.bl false) => .ok (.p (.bl false)) st1
  | _ => .fail
def mOrV (ma mb : EM) : EM := fun env st => (ma env st).bind fun x st1 => match x with
  | .p (.bl false) => mb env st1
  | .p (.bl true) => .ok (.p (.bl true)) st1
  | _ => .fail
def mNotV (ma : EM) : EM := fun env st => (ma env st).bind fun x st1 => match x with
  | .p (.bl b) => .ok (.p (.bl (!b))) st1
  | _ => .fail
def mIf (mt : TM) (ma mb : EM) : EM := fun env st => (mt env st).bind fun b st1 => match b with
  | true => ma env st1
  | false => mb env st1
section
variable {W : WX} {a b c : Expr} {ma mb : EM} {mt mu : TM} {pos : Pos} {rest : List Expr}
theorem de_one {op : BoolOp} (h : DE X G W a ma) : DE X G W (.BoolOp op [a] pos) ma := pe_one h
theorem de_and (ha : DE X G W a ma) (hb : DE X G W (.BoolOp .And (b :: rest) pos) mb) : DE X G W (.BoolOp .And (a :: b :: rest) pos) (mAndV ma mb) :=
  PE.by (pe_and ha hb) fun σ H Q ⟨μ, env, st, s, en, f⟩ => by
    refine ⟨μ, env, st, s, en, f.bind.mono fun x st1 μ1 H1 e1 s1 h1 v rv => ?_⟩
    split at h1
    · cases rv
      exact ⟨true, rfl, iteT ⟨μ1, env, st1, s1, en.ext e1, h1⟩⟩
    · cases rv
      exact ⟨false, rfl, iteF (h1.ok s1 _ (.bl _))⟩
    · exact h1.elim
theorem de_or (ha : DE X G W a ma) (hb : DE X G W (.BoolOp .Or (b :: rest) pos) mb) : DE X G W (.BoolOp .Or (a :: b :: rest) pos) (mOrV ma mb) :=
  PE.by (pe_or ha hb) fun σ H Q ⟨μ, env, st, s, en, f⟩ => by
    refine ⟨μ, env, st, s, en, f.bind.mono fun x st1 μ1 H1 e1 s1 h1 v rv => ?_⟩
    split at h1
    · cases rv
      exact ⟨false, rfl, iteF ⟨μ1, env, st1, s1, en.ext e1, h1⟩⟩
    · cases rv
      exact ⟨true, rfl, iteT (h1.ok s1 _ (.bl _))⟩
    · exact h1.elim
theorem de_not (ha : DE X G W a ma) : DE X G W (.UnaryOp .Not a pos) (mNotV ma) :=
  PE.by (pe_not ha) fun σ H Q ⟨μ, env, st, s, en, f⟩ => by
    refine ⟨μ, env, st, s, en, f.bind.mono fun x st1 μ1 H1 e1 s1 h1 v rv => ?_⟩
    split at h1
    · cases rv
      exact ⟨_, rfl, h1.ok s1 _ (.bl _)⟩
    · exact h1.elim
theorem de_if (hc : DT X G W c mt) (ha : DE X G W a ma) (hb : DE X G W b mb) : DE X G W (.IfExp c a b pos) (mIf mt ma mb) :=
  PE.by (pe_ifExp hc ha hb) fun σ H Q ⟨μ, env, st, s, en, f⟩ => by
    refine ⟨μ, env, st, s, en, f.bind.mono fun x st1 μ1 H1 e1 s1 h1 => ?_⟩
    cases x with
    | true => exact iteT ⟨μ1, env, st1, s1, en.ext e1, h1⟩
    | false => exact iteF ⟨μ1, env, st1, s1, en.ext e1, h1⟩
def mNeg (ma : EM) : EM := fun env st => (ma env st).bind fun x st1 => match x with
  | .p (.int i) => .ok (.p (.int (-i))) st1
  | _ => .fail
theorem de_neg (ha : DE X G W a ma) : DE X G W (.UnaryOp .USub a pos) (mNeg ma) :=
  PE.by (pe_un un_neg ha) fun σ H Q ⟨μ, env, st, s, en, f⟩ => by
    refine ⟨μ, env, st, s, en, f.bind.mono fun x st1 μ1 H1 e1 s1 h1 v rv => ?_⟩
    split at h1
    · cases rv
      exact ⟨_, rfl, h1.ok s1 _ (.int _)⟩
    · exact h1.elim
abbrev DW (X : Cx) (G : Grd) (W : WX) (e : Expr) (m : TM) : Prop := PW X e (RdT G W m)
theorem PW.by {e : Expr} {t t' : TT} (h : PW X e t) (k : ∀ σ H Q, t' σ H Q → t σ H Q) : PW X e t' := ⟨fun wh pins s σ H Q I q => h.run wh pins s σ H Q I (k σ H Q q)⟩
def tAndM (t u : TM) : TM := fun env st => (t env st).bind fun b st1 => match b with
  | true => u env st1
  | false => .ok false st1
def tOrM (t u : TM) : TM := fun env st => (t env st).bind fun b st1 => match b with
  | true => .ok true st1
  | false => u env st1
def tNotM (t : TM) : TM := fun env st => (t env st).bind fun b st1 => .ok (!b) st1
theorem dw_and1 (h : DT X G W a mt) : DW X G W (.BoolOp .And [a] pos) mt := pw_and1 h
theorem dw_or1 (h : DT X G W a mt) : DW X G W (.BoolOp .Or [a] pos) mt := pw_or1 h
theorem dw_and (h : DT X G W a mt) (h2 : DW X G W (.BoolOp .And (b :: rest) pos) mu) : DW X G W (.BoolOp .And (a :: b :: rest) pos) (tAndM mt mu) :=
  PW.by (pw_and h h2) fun σ H Q ⟨μ, env, st, s, en, f⟩ => by
    refine ⟨μ, env, st, s, en, f.bind.mono fun x st1 μ1 H1 e1 s1 h1 => ?_⟩
    cases x with
    | true => exact iteT ⟨μ1, env, st1, s1, en.ext e1, h1⟩
    | false => exact iteF (h1.ok s1)
theorem dw_or (h : DT X G W a mt) (h2 : DW X G W (.BoolOp .Or (b :: rest) pos) mu) : DW X G W (.BoolOp .Or (a :: b :: rest) pos) (tOrM mt mu) :=
  PW.by (pw_or h h2) fun σ H Q ⟨μ, env, st, s, en, f⟩ => by
    refine ⟨μ, env, st, s, en, f.bind.mono fun x st1 μ1 H1 e1 s1 h1 => ?_⟩
    cases x with
    | true => exact iteT (h1.ok s1)
    | false => exact iteF ⟨μ1, env, st1, s1, en.ext e1, h1⟩
theorem dt_not (h : DT X G W a mt) : DT X G W (.UnaryOp .Not a pos) (tNotM mt) :=
  PT.by (pt_not h) fun σ H Q ⟨μ, env, st, s, en, f⟩ => by
    refine ⟨μ, env, st, s, en, f.bind.mono fun x st1 μ1 H1 e1 s1 h1 => ?_⟩
    exact h1.ok s1
def tVal (m : EM) : TM := fun env st => (m env st).bind fun x st1 => match x with
  | .p (.bl b) => .ok b st1
  | _ => .fail
theorem dt_cmp {op : CmpOp} {r : R2} {f : F2} (ho : OpR X (compareOp op) r) (o : OpSem G r f) (ha : DE X G W a ma) (hb : DE X G W b mb) (hm : behindInMarks op b = false) : DT X G W (.Compare a [op] [b] pos) (tVal (m2 f ma mb)) :=
  PT.by (pt_cmpR ho ha hb hm) fun σ H Q ⟨μ, env, st, s, en, f⟩ => rd2 o σ H _ ⟨μ, env, st, s, en, f.bind.mono fun x st1 μ1 H1 e1 s1 h1 v rv => by
    split at h1
    · cases rv
      exact ⟨_, rfl, h1.ok s1⟩
    · exact h1.elim⟩
def truth (st : Sto) : Val → Option Bool
  | .p .non => some false
  | .p (.bl b) => some b
  | .p (.int i) => some (i != 0)
  | .p (.str x) => some !x.isEmpty
  | .p (.tup ds) => some !ds.isEmpty
  | .p (.dct ks _) => none
  | x => match viewL st x with
    | some ys => some !ys.isEmpty
    | none => none
def tTruth (m : EM) : TM := fun env st => (m env st).bind fun x st1 => match truth st1 x with
  | some b => .ok b st1
  | none => .fail
theorem truth_sem {bb : Bool} (s : Sim G μ H st) (r : RpV G.K G.hid [] μ H v x) (e : truth st x = some bb) : TruV G.K v H bb := by
  have lst : ∀ {ys}, viewL st x = some ys → TruV G.K v H (!ys.isEmpty) := fun {ys} q => by
    obtain ⟨a, vs, rfl, h1, h2⟩ := viewL_sem s r q
    refine .inl ⟨vs, h1, ?_⟩
    have hl := h2.length
    cases vs <;> cases ys <;> simp_all
  unfold truth at e
  split at e
  · cases e; cases r; rfl
  · cases e; cases r; rfl
  · cases e; cases r; rfl
  · cases e
    cases r with
    | str _ hl =>
      rename_i t
      have hz : (16000000 : Nat) ≤ sizeLine := by decide
      refine ⟨by rw [toS_len]; exact Nat.le_trans hl hz, ?_⟩
      rw [toS_len]
      cases t <;> simp
      omega
  · cases e
    cases r with
    | tup h1 hp h2 =>
      refine .inr (.inl ⟨_, h1, ?_⟩)
      have hl := h2.length
      rename_i ds a vs
      cases ds <;> cases vs <;> simp_all
  · cases e
  · split at e
    · rename_i ys q
      cases e
      exact lst q
    · cases e
def plainTest : Expr → Bool
  | .UnaryOp .Not _ _ => false
  | .BoolOp _ _ _ => false
  | .IfExp _ _ _ _ => false
  | .Compare _ _ _ _ => false
  | _ => true
theorem isTrue_of {e : Expr} (h : plainTest e = true) (env : Env) (whole : Sem Value) : isTrue e env whole = (do let v ← whole; standAt e.pos; holding [v] (truthy v)) := by
  cases e
  case UnaryOp op x p =>
    cases op <;> first | rfl | cases h
  all_goals first | rfl | cases h
theorem dt_truth (hK : X.K = G.K) (ha : DE X G W a ma) (hp : plainTest a = true) : DT X G W a (tTruth ma) :=
  PT.by (pt_truth ha (isTrue_of hp X.env)) fun σ H Q ⟨μ, env, st, s, en, f⟩ => by
    refine ⟨μ, env, st, s, en, f.bind.mono fun x st1 μ1 H1 e1 s1 h1 v rv => ?_⟩
    cases q : truth st1 x with
    | none => rw [q] at h1; exact h1.elim
    | some b =>
      rw [q] at h1
      rw [hK]
      exact ⟨b, truth_sem s1 rv q, h1.ok s1⟩
def mChain (f g : F2) (ma mb mc : EM) : EM := fun env st => (ma env st).bind fun x st1 => (mb env st1).bind fun y st2 => match f x y st2 with
  | some (.p (.bl true), st3) => (mc env st3).bind fun z st4 => R.lift (g y z st4)
  | some (.p (.bl false), st3) => .ok (.p (.bl false)) st3
  | _ => .fail
theorem rdChain {r r' : R2} {f g : F2} {mc : EM} (o : OpSem G r f) (o' : OpSem G r' g) (σ : L2.St) (H : Hp) (Q : VK) (h : RdE G W (mChain f g ma mb mc) σ H Q) : tChain r r' (RdE G W ma) (RdE G W mb) (RdE G W mc) σ H Q := by
  obtain ⟨μ, env, st, s, en, h⟩ := h
  refine ⟨μ, env, st, s, en, h.bind.mono fun x st1 μ1 H1 e1 s1 h1 v rv => ?_⟩
  refine ⟨μ1, env, st1, s1, en.ext e1, h1.bind.mono fun y st2 μ2 H2 e2 s2 h2 w rw_ => ?_⟩
  have en2 := (en.ext e1).ext e2
  cases q : f x y st2 with
  | none => rw [q] at h2; exact h2.elim
  | some p =>
    obtain ⟨z, st3⟩ := p
    rw [q] at h2
    refine o μ2 H2 st2 v w x y z st3 _ s2 (rv.ext e2) rw_ q fun μ3 H3 u e3 s3 r3 => ?_
    split at h2
    · rename_i q'
      cases q'
      cases r3
      refine ⟨true, rfl, iteT ⟨μ3, env, _, s3, en2.ext e3, (Fin.ext e3 h2).bind.mono fun zz st4 μ4 H4 e4 s4 h4 u ru => ?_⟩⟩
      cases q4 : g y zz st4 with
      | none => rw [q4] at h4; exact h4.elim
      | some p4 =>
        obtain ⟨z5, st5⟩ := p4
        rw [q4] at h4
        exact o' μ4 H4 st4 w u y zz z5 st5 Q s4 ((rw_.ext e3).ext e4) ru q4 fun μ5 H5 t e5 s5 r5 => h4 μ5 H5 e5 s5 t r5
    · rename_i q'
      cases q'
      cases r3
      exact ⟨false, rfl, iteF ((Fin.ext e3 h2).ok s3 _ (.bl _))⟩
    · exact h2.elim
theorem marks2 {op op' : CmpOp} {b c : Expr} (h : behindInMarks op' c = false) : lastMarks [op, op'] [b, c] = false := h
theorem de_chain {op op' : CmpOp} {r r' : R2} {f g : F2} {mc : EM} (ho : OpR X (compareOp op) r) (ho' : OpR X (compareOp op') r') (o : OpSem G r f) (o' : OpSem G r' g) (ha : DE X G W a ma) (hb : DE X G W b mb) (hc : DE X G W c mc) (hm : behindInMarks op' c = false) :
    DE X G W (.Compare a [op, op'] [b, c] pos) (mChain f g ma mb mc) := PE.by (pe_chain ho ho' ha hb hc (marks2 hm)) (rdChain o o')
theorem dt_chain {op op' : CmpOp} {r r' : R2} {f g : F2} {mc : EM} (ho : OpR X (compareOp op) r) (ho' : OpR X (compareOp op') r') (o : OpSem G r f) (o' : OpSem G r' g) (ha : DE X G W a ma) (hb : DE X G W b mb) (hc : DE X G W c mc) (hm : behindInMarks op' c = false) :
    DT X G W (.Compare a [op, op'] [b, c] pos) (tVal (mChain f g ma mb mc)) := PT.by (pt_chain ho ho' ha hb hc (marks2 hm)) fun σ H Q ⟨μ, env, st, s, en, f⟩ => rdChain o o' σ H _ ⟨μ, env, st, s, en, f.bind.mono fun x st1 μ1 H1 e1 s1 h1 v rv => by
    split at h1
    · cases rv
      exact ⟨_, rfl, h1.ok s1⟩
    · exact h1.elim⟩
end
end
end Sl
end
section
set_option Elab.async false
set_option linter.all false
set_option maxRecDepth 100000
namespace Sl
open PySem PySem.Spec PyProof.Rows L2
def strL : List Val → Option (List T)
  | [] => some []
  | .p (.str b) :: vs => match strL vs with
    | some bs => some (b :: bs)
    | none => none
  | _ :: _ => none
def viewS (st : Sto) (x : Val) : Option (List Val) := match viewT x with
  | some ds => some (ds.map .p)
  | none => viewL st x
def joinT (sep : T) : List T → T
  | [] => []
  | [p] => p
  | p :: q :: r => p ++ (sep ++ joinT sep (q :: r))
def splitC (c : Char) : T → List T
  | [] => [[]]
  | d :: r => if d = c then [] :: splitC c r else match splitC c r with
    | w :: ws => (d :: w) :: ws
    | [] => [[d]]
section
variable {X : Cx} {G : Grd} {μ : List Addr} {H : Hp} {st : Sto} {v : V} {x : Val}
theorem RpVs.strs {K : Frag} {hid : List Addr} : ∀ {vs : List V} {xs : List Val} {bs : List T}, RpVs K hid μ H vs xs → strL xs = some bs → vs = (bs.map toS).map V.str ∧ ∀ b ∈ bs, b.length ≤ tMax
  | _, _, _, .nil, e => by cases e; exact ⟨rfl, fun _ h => nomatch h⟩
  | _, _, _, .cons (a := v) (b := x) (l₁ := vt) (l₂ := xt) r t, e => by
    cases x with
    | p d =>
      cases d with
      | str b =>
        cases q : strL xt with
        | none => simp [strL, q] at e
        | some bs =>
          simp [strL, q] at e
          subst e
          cases r with
          | str _ hl =>
            obtain ⟨h1, h2⟩ := RpVs.strs t q
            refine ⟨by rw [h1]; rfl, fun b hb => ?_⟩
            rcases List.mem_cons.mp hb with rfl | hb
            · exact hl
            · exact h2 b hb
      | _ => simp [strL] at e
    | _ => simp [strL] at e
theorem viewS_sem {ys : List Val} (s : Sim G μ H st) (r : RpV G.K G.hid [] μ H v x) (e : viewS st x = some ys) : ∃ a vs, v = .ref a ∧ (SqL G.K H a vs ∨ SqT G.K H a vs) ∧ RpVs G.K G.hid μ H vs ys := by
  unfold viewS at e
  split at e
  · rename_i ds q
    cases e
    obtain ⟨a, vs, rfl, h1, h2⟩ := viewT_sem r q
    exact ⟨a, vs, rfl, .inr h1, RpL.vals h2⟩
  · obtain ⟨a, vs, rfl, h1, h2⟩ := viewL_sem s r e
    exact ⟨a, vs, rfl, .inl h1, h2⟩
theorem tl_toS (x : T) : TL.tl (toS x) = codes x := cps_toS x
theorem joinL_codes (sep : T) : ∀ ys : List T, TL.joinL (codes sep) (ys.map codes) = codes (joinT sep ys)
  | [] => rfl
  | [p] => rfl
  | p :: q :: r => by
    show codes p ++ (codes sep ++ TL.joinL (codes sep) ((q :: r).map codes)) = codes (p ++ (sep ++ joinT sep (q :: r)))
    rw [joinL_codes sep (q :: r)]
    simp [codes]
theorem join_toS (sep : T) (ys : List T) : Txt.join (toS sep) (ys.map toS) = toS (joinT sep ys) := by
  rw [TL.join_eq]
  refine TL.ext_tl ?_
  rw [TL.tl_join, tl_toS, tl_toS, List.map_map]
  have : (ys.map (TL.tl ∘ toS)) = ys.map codes := List.map_congr_left fun y _ => tl_toS y
  rw [this, joinL_codes]
def joinLen (sep : T) (ys : List T) : Nat := (ys.map List.length).sum + ys.length * sep.length
theorem joinT_len (sep : T) : ∀ ys : List T, (joinT sep ys).length ≤ joinLen sep ys
  | [] => by simp [joinT, joinLen]
  | [p] => by simp [joinT, joinLen]
  | p :: q :: r => by
    have ih := joinT_len sep (q :: r)
    simp only [joinT, joinLen, List.length_append, List.map_cons, List.sum_cons, List.length_cons, Nat.succ_mul] at ih ⊢
    omega
def isStrV : Val → Sto → Bool := fun x _ => match x with
  | .p (.str _) => true
  | _ => false
theorem ty_str : TySem G "str" isStrV := fun μ H st v x s r e => by
  unfold isStrV at e
  split at e
  · cases r; rfl
  · cases e
def fJoin : Val → List Val → Sto → Option (Val × Sto) := fun x xs st => match x, xs with
  | .p (.str sep), [y] => match viewS st y with
    | some ys => match strL ys with
      | some ts => if joinLen sep ts ≤ tMax then some (.p (.str (joinT sep ts)), st) else none
      | none => none
    | none => none
  | _, _ => none
def rJoinX (K : Frag) : V → List V → Hp → VK → Prop := fun x xs H Q => ∃ a p, ∃ ys : List Str, x = .str a ∧ xs = [.ref p] ∧ (SqL K H p (ys.map V.str) ∨ SqT K H p (ys.map V.str)) ∧ (ys.map (·.length)).sum + ys.length * a.length ≤ 16777216 ∧ Q (.str (Txt.join a ys)) H
theorem sem_join : MtSem G "str" (rJoinX G.K) fJoin := by
  intro μ H st v x vs xs z st' Q s rx rv e k
  unfold fJoin at e
  split at e
  · rename_i sep y
    split at e
    · rename_i ys q
      split at e
      · rename_i ts qt
        split at e
        · rename_i hl
          cases e
          cases rx
          obtain ⟨w, rfl, r⟩ := rv.one
          obtain ⟨a, ws, rfl, h1, h2⟩ := viewS_sem s r q
          obtain ⟨h3, _⟩ := h2.strs qt
          subst h3
          refine ⟨_, a, ts.map toS, rfl, rfl, h1, ?_, ?_⟩
          · have e1 : (ts.map toS).map (·.length) = ts.map List.length := by
              rw [List.map_map]
              exact List.map_congr_left fun y _ => toS_len y
            have hz : tMax ≤ 16777216 := by decide
            rw [e1, List.length_map, toS_len]
            exact Nat.le_trans hl hz
          · rw [join_toS]
            exact k μ H _ Ext.refl s (.str _ (Nat.le_trans (joinT_len _ _) hl))
        · cases e
      · cases e
    · cases e
  · cases e
theorem splitC_ne (c : Char) : ∀ x : T, splitC c x ≠ []
  | [] => by simp [splitC]
  | d :: r => by
    unfold splitC
    split
    · simp
    · split <;> simp
theorem spl_codes (c : Char) : ∀ (x : T) (acc : List Nat), TL.spl [c.toNat] 0 acc (codes x) = match splitC c x with
    | w :: ws => (acc ++ codes w) :: ws.map codes
    | [] => []
  | [], acc => by simp [codes, TL.spl, splitC]
  | d :: r, acc => by
    have hc : codes (d :: r) = d.toNat :: codes r := rfl
    rw [hc]
    by_cases q : d = c
    · subst q
      have hp : TL.pre [d.toNat] (d.toNat :: codes r) = true := by simp [TL.pre]
      rw [TL.spl_hit hp]
      have ih := spl_codes d r []
      show acc :: TL.spl [d.toNat] 0 [] (codes r) = _
      rw [ih]
      have e2 : splitC d (d :: r) = [] :: splitC d r := by rw [splitC, if_pos rfl]
      rw [e2]
      cases hw : splitC d r with
      | nil => exact absurd hw (splitC_ne d r)
      | cons w ws => simp [codes]
    · have hp : TL.pre [c.toNat] (d.toNat :: codes r) = false := TL.pre_of_head _ _ fun z => q (char_inj z)
      rw [TL.spl_miss hp, spl_codes c r]
      have e2 : splitC c (d :: r) = (match splitC c r with | w :: ws => (d :: w) :: ws | [] => [[d]]) := by
        rw [splitC, if_neg q]
      rw [e2]
      cases hw : splitC c r with
      | nil => exact absurd hw (splitC_ne c r)
      | cons w ws => simp [codes]
theorem split_toS (c : Char) (h : c.toNat < 256) (x : T) : Txt.split (toS x) (toS [c]) = (splitC c x).map toS := by
  have hk : (toS [c]).cps.all (· < 256) = true := by simp [toS, h]
  have h1 := TL.split_spl (toS x) (toS [c]) (by rw [tl_toS]; simp [codes]) (TL.kind_ok hk)
  rw [tl_toS, tl_toS] at h1
  have h2 := spl_codes c x []
  refine TL.map_tl_inj ?_
  rw [h1]
  show TL.spl [c.toNat] 0 [] (codes x) = _
  rw [h2, List.map_map]
  cases hw : splitC c x with
  | nil => exact absurd hw (splitC_ne c x)
  | cons w ws =>
    have : (ws.map (TL.tl ∘ toS)) = ws.map codes := List.map_congr_left fun y _ => tl_toS y
    simp only [List.nil_append, List.map_cons, Function.comp, tl_toS] at this ⊢
    rw [this]
theorem splitC_len (c : Char) : ∀ x : T, (splitC c x).length ≤ x.length + 1 ∧ ∀ w ∈ splitC c x, w.length ≤ x.length
  | [] => by simp [splitC]
  | d :: r => by
    have ih := splitC_len c r
    unfold splitC
    split
    · refine ⟨by simp; exact ih.1, fun w hw => ?_⟩
      rcases List.mem_cons.mp hw with rfl | hw
      · simp
      · have := ih.2 w hw; simp; omega
    · cases hw : splitC c r with
      | nil => exact absurd hw (splitC_ne c r)
      | cons w ws =>
        rw [hw] at ih
        refine ⟨by simp at ih ⊢; omega, fun u hu => ?_⟩
        rcases List.mem_cons.mp hu with rfl | hu
        · have := ih.2 w (List.mem_cons_self ..); simp; omega
        · have := ih.2 u (List.mem_cons_of_mem _ hu); simp; omega
def fSplit (md : Bool) : Val → List Val → Sto → Option (Val × Sto) := fun x xs st => match x, xs with
  | .p (.str t), [.p (.str [c])] => if c.toNat < 256 then newLst md ((splitC c t).map fun w => .p (.str w)) st else none
  | _, _ => none
def rSplitX : V → List V → Hp → VK → Prop := fun x xs H Q => ∃ a b, x = .str a ∧ xs = [.str b] ∧ (b.length == 0) = false ∧ a.length + 2 ≤ sizeLine ∧ rNewStrs (Txt.split a b) H Q
theorem strs_rp {K : Frag} {hid : List Addr} : ∀ {ws : List T}, (∀ w ∈ ws, w.length ≤ tMax) → RpVs K hid μ H ((ws.map toS).map V.str) (ws.map fun w => .p (.str w))
  | [], _ => .nil
  | w :: ws, h => .cons (Rp.str w (h w (List.mem_cons_self ..))) (strs_rp fun u hu => h u (List.mem_cons_of_mem _ hu))
theorem sem_split {md : Bool} : MtSem G "str" rSplitX (fSplit md) := by
  intro μ H st v x vs xs z st' Q s rx rv e k
  unfold fSplit at e
  split at e
  · rename_i t c
    split at e
    · rename_i hc
      cases rx with
      | str _ hl =>
        obtain ⟨w, rfl, r⟩ := rv.one
        cases r
        have hz : (16000002 : Nat) ≤ sizeLine := by decide
        have hl' : t.length ≤ 16000000 := hl
        refine ⟨_, _, rfl, rfl, rfl, by rw [toS_len]; omega, ?_⟩
        rw [split_toS c hc]
        exact (newLst_sem s (strs_rp fun w hw => Nat.le_trans ((splitC_len c t).2 w hw) hl) e k).2
    · cases e
  · cases e
def mFmt (m : EM) : EM := fun env st => (m env st).bind fun x st1 => match strOf x with
  | some t => .ok (.p (.str t)) st1
  | none => .fail
theorem de_fmt {W : WX} {e : Expr} {m : EM} {pos : Pos} (h : DE X G W e m) : DE X G W (.FormattedValue e (-1) none pos) (mFmt m) :=
  PE.by (pe_fmt h) fun σ H Q ⟨μ, env, st, s, en, f⟩ => by
    refine ⟨μ, env, st, s, en, f.bind.mono fun x st1 μ1 H1 e1 s1 h1 v rv => ?_⟩
    split at h1
    · rename_i t q
      unfold strOf at q
      split at q
      · split at q
        · rename_i i hl
          cases q
          cases rv
          exact .inr ⟨i, rfl, hl, by rw [ofString_toS]; exact h1.ok s1 _ (.str _ (decT_len hl))⟩
        · cases q
      · cases q
        cases rv with
        | str _ hl =>
          have hz : (16000000 : Nat) ≤ sizeLine := by decide
          exact .inl ⟨_, rfl, by rw [toS_len]; exact Nat.le_trans hl hz, h1.ok s1 _ (.str _ hl)⟩
      · cases q
    · exact h1.elim
def mJs : List EM → T → EM
  | [], acc => fun _ st => .ok (.p (.str acc)) st
  | m :: ms, acc => fun env st => (m env st).bind fun x st1 => match x with
    | .p (.str t) => if (acc ++ t).length ≤ tMax then mJs ms (acc ++ t) env st1 else .fail
    | _ => .fail
inductive DJ (X : Cx) (G : Grd) (W : WX) : List Expr → List EM → Prop where
  | nil : DJ X G W [] []
  | cons {e : Expr} {m : EM} {es : List Expr} {ms : List EM} (h : DE X G W e m) (r : DJ X G W es ms) : DJ X G W (e :: es) (m :: ms)
theorem DJ.pj {W : WX} : ∀ {es : List Expr} {ms : List EM}, DJ X G W es ms → PJ X es (ms.map (RdE G W))
  | _, _, .nil => .nil
  | _, _, .cons h r => .cons h r.pj
theorem rdJs {W : WX} : ∀ (ms : List EM) (acc : T) (σ : L2.St) (H : Hp) (Q : VK), acc.length ≤ tMax → RdE G W (mJs ms acc) σ H Q → tJs (ms.map (RdE G W)) (toS acc) σ H fun out H1 => Q (.str out) H1
  | [], acc, σ, H, Q, hl, ⟨μ, env, st, s, en, f⟩ => f.ok s _ (.str _ hl)
  | m :: ms, acc, σ, H, Q, hl, ⟨μ, env, st, s, en, f⟩ => by
    refine ⟨μ, env, st, s, en, f.bind.mono fun x st1 μ1 H1 e1 s1 h1 v rv => ?_⟩
    split at h1
    · rename_i t
      split at h1
      · rename_i hl2
        cases rv
        have hz : (16000000 : Nat) ≤ sizeLine := by decide
        refine ⟨_, rfl, by rw [toS_app, toS_len]; exact Nat.le_trans hl2 hz, ?_⟩
        rw [toS_app]
        exact rdJs ms (acc ++ t) σ H1 Q hl2 ⟨μ1, env, st1, s1, en.ext e1, h1⟩
      · exact h1.elim
    · exact h1.elim
theorem de_joined {W : WX} {v1 v2 : Expr} {rest : List Expr} {ms : List EM} {pos : Pos} (h : DJ X G W (v1 :: v2 :: rest) ms) : DE X G W (.JoinedStr (v1 :: v2 :: rest) pos) (mJs ms []) :=
  PE.by (pe_joined h.pj) fun σ H Q q => rdJs ms [] σ H Q (by decide) q
end
end Sl
end
section
set_option Elab.async false
set_option linter.all false
set_option maxRecDepth 100000
namespace Sl
open PySem PySem.Spec PyProof.Rows L2
mutual
def sameD : D → D → Bool
  | .non, .non => true
  | .bl a, .bl b => a == b
  | .int a, .int b => a == b
  | .str a, .str b => a == b
  | .tup a, .tup b => sameDs a b
  | .lst a, .lst b => sameDs a b
  | .dct k a, .dct l b => decide (k = l) && sameDs a b
  | _, _ => false
def sameDs : List D → List D → Bool
  | [], [] => true
  | x :: xs, y :: ys => sameD x y && sameDs xs ys
  | _, _ => false
end
mutual
theorem sameD_eq : ∀ a b, sameD a b = true → a = b
  | .non, b, h => by cases b <;> simp_all [sameD]
  | .bl x, b, h => by cases b <;> simp_all [sameD]
  | .int x, b, h => by cases b <;> simp_all [sameD]
  | .str x, b, h => by cases b <;> simp_all [sameD]
  | .tup x, b, h => by
    cases b with
    | tup y => rw [sameDs_eq x y (by simpa [sameD] using h)]
    | _ => simp [sameD] at h
  | .lst x, b, h => by
    cases b with
    | lst y => rw [sameDs_eq x y (by simpa [sameD] using h)]
    | _ => simp [sameD] at h
  | .dct k x, b, h => by
    cases b with
    | dct l y =>
      simp only [sameD, Bool.and_eq_true, decide_eq_true_eq] at h
      rw [h.1, sameDs_eq x y h.2]
    | _ => simp [sameD] at h
theorem sameDs_eq : ∀ a b, sameDs a b = true → a = b
  | [], [], _ => rfl
  | [], _ :: _, h => by simp [sameDs] at h
  | _ :: _, [], h => by simp [sameDs] at h
  | x :: xs, y :: ys, h => by
    simp only [sameDs, Bool.and_eq_true] at h
    rw [sameD_eq x y h.1, sameDs_eq xs ys h.2]
end
mutual
theorem sameD_refl : ∀ a, sameD a a = true
  | .non => rfl
  | .bl x => by simp [sameD]
  | .int x => by simp [sameD]
  | .str x => by simp [sameD]
  | .tup x => by simp only [sameD]; exact sameDs_refl x
  | .lst x => by simp only [sameD]; exact sameDs_refl x
  | .dct k x => by simp only [sameD, Bool.and_eq_true]; exact ⟨by simp, sameDs_refl x⟩
theorem sameDs_refl : ∀ a, sameDs a a = true
  | [] => rfl
  | x :: xs => by simp only [sameDs, Bool.and_eq_true]; exact ⟨sameD_refl x, sameDs_refl xs⟩
end
def sameV : Val → Val → Bool
  | .p a, .p b => sameD a b
  | .r a, .r b => a == b
  | _, _ => false
def sameVs : List Val → List Val → Bool
  | [], [] => true
  | x :: xs, y :: ys => sameV x y && sameVs xs ys
  | _, _ => false
theorem sameVs_eq : ∀ {xs ys : List Val}, sameVs xs ys = true → xs = ys
  | [], [], _ => rfl
  | [], _ :: _, h => by simp [sameVs] at h
  | _ :: _, [], h => by simp [sameVs] at h
  | x :: xs, y :: ys, h => by
    simp only [sameVs, Bool.and_eq_true] at h
    rw [sameVs_eq h.2]
    have h1 := h.1
    cases x <;> cases y <;> simp only [sameV, beq_iff_eq, Bool.false_eq_true] at h1
    · rw [sameD_eq _ _ h1]
    · rw [h1]
inductive Src where
  | lst (l : Nat) | enm (l : Nat)
def enumItems (ds : List D) : List Val := ds.mapIdx fun i d => .p (.tup [.int (i : Nat), d])
abbrev IM := Slots → Sto → R (List Val × Option Src)
def watch (st : Sto) (src : Option Src) (xs : List Val) : Bool := match src with
  | none => true
  | some (.lst l) => match viewL st (.r l) with
    | some ys => sameVs ys xs
    | none => false
  | some (.enm l) => match viewL st (.r l) with
    | some ys => (match pureL ys with
      | some ds => sameVs (enumItems ds) xs
      | none => false)
    | none => false
def RpI (lo : Bool) (K : Frag) (hd : List Addr) (μ : List Addr) (H : Hp) (v : V) (x : Val) : Prop := RpV K hd [] μ H v x ∨ (lo = true ∧ ∃ a vs ds, v = .ref a ∧ x = .p (.tup ds) ∧ SqT K H a vs ∧ RpL K (Fz hd μ) H vs ds)
def tupT : Expr → Bool
  | .Tuple _ _ _ => true
  | _ => false
structure IterOk (lo : Bool) (G : Grd) (μ0 : List Addr) (H0 : Hp) (src : Option Src) (xs : List Val) (J : It) : Prop where
  go : ∀ (hd : List Addr), (∀ a ∈ hd, a ∈ G.hid ∨ H0 a = none) → ∀ (μ : List Addr) (H : Hp) (st : Sto) (i : Nat), Ext μ0 H0 μ H → Sim (G.h hd) μ H st → watch st src xs = true → i < xs.length → J.go i H
  yld : ∀ (hd : List Addr), (∀ a ∈ hd, a ∈ G.hid ∨ H0 a = none) → ∀ (μ : List Addr) (H : Hp) (st : Sto) (i : Nat) (v : V) (H' : Hp), Ext μ0 H0 μ H → Sim (G.h hd) μ H st → watch st src xs = true → i < xs.length → J.yld i H v H' →
    Ext μ H μ H' ∧ Sim (G.h hd) μ H' st ∧ ∀ x, xs[i]? = some x → RpI lo G.K hd μ H' v x
  stop : ∀ (hd : List Addr), (∀ a ∈ hd, a ∈ G.hid ∨ H0 a = none) → ∀ (μ : List Addr) (H : Hp) (st : Sto), Ext μ0 H0 μ H → Sim (G.h hd) μ H st → watch st src xs = true → J.stop xs.length H
def RdI (lo : Bool) (G : Grd) (W : WX) (mi : IM) : TI := fun σ H Q => ∃ μ env st, Sim G μ H st ∧ EnvRp G μ H env σ ∧ Fin G W σ μ H (mi env st) (fun p _ μ' H' => ∀ J, IterOk lo G μ' H' p.2 p.1 J → Q J H')
abbrev DI (X : Cx) (G : Grd) (W : WX) (tg e : Expr) (mi : IM) : Prop := PI X tg e (RdI (tupT tg) G W mi)
def itemsOf (st : Sto) : Val → Option (List Val × Option Src)
  | .p (.lst ds) => some (ds.map .p, none)
  | .p (.tup ds) => some (ds.map .p, none)
  | .p (.str t) => some (t.map fun c => .p (.str [c]), none)
  | .r l => match viewL st (.r l) with
    | some ys => some (ys, some (.lst l))
    | none => none
  | _ => none
def mIter (m : EM) : IM := fun env st => (m env st).bind fun x st1 => match itemsOf st1 x with
  | some p => .ok p st1
  | none => .fail
section
variable {tl : Bool} {X : Cx} {G : Grd} {W : WX} {μ : List Addr} {H : Hp} {st : Sto} {v : V} {x : Val}
theorem RpVs.itm {lo : Bool} {K : Frag} {hid : List Addr} {vs : List V} {ys : List Val} {i : Nat} {w : V} (r : RpVs K hid μ H vs ys) (e : vs[i]? = some w) : ∀ y, ys[i]? = some y → RpI lo K hid μ H w y := fun y ey => by
  obtain ⟨u, h1, h2⟩ := r.get ey
  rw [e] at h1
  cases h1
  exact .inl h2
theorem RpVs.at {K : Frag} {hid : List Addr} {vs : List V} {ys : List Val} {i : Nat} {w : V} (r : RpVs K hid μ H vs ys) (e : vs[i]? = some w) : ∀ y, ys[i]? = some y → RpV K hid [] μ H w y := fun y ey => by
  obtain ⟨u, h1, h2⟩ := r.get ey
  rw [e] at h1
  cases h1
  exact h2
theorem sqT_ext {K : Frag} {μ μ' : List Addr} {H H' : Hp} (e : Ext μ H μ' H') {a : Addr} {vs : List V} (h : SqT K H a vs) : SqT K H' a vs := by
  rcases h with h | h
  · exact .inl (e.tup _ _ h)
  · exact .inr h
theorem iter_tup {a : Addr} {vs : List V} {ds : List D} (h1 : SqT G.K H a vs) (h2 : RpL G.K (Fz G.hid μ) H vs ds) : IterOk tl G μ H none (ds.map .p) (Itt G.K a) := by
  have hl : vs.length = (ds.map Val.p).length := by rw [h2.length, List.length_map]
  refine ⟨fun hd hh μ' H' st i e s _ hi => ?_, fun hd hh μ' H' st i v H2 e s _ hi y => ?_, fun hd hh μ' H' st e s _ => ?_⟩
  · exact walk_tup.goes i H' (by omega) (sqT_ext e h1)
  · obtain ⟨rfl, hv⟩ := walk_tup.yields i H' v H2 (by omega) (sqT_ext e h1) y
    exact ⟨Ext.refl, s, RpVs.itm (hid := hd) (RpL.vals (RpL.carry (e.carryH hh) _ _ h2)) hv⟩
  · rw [← hl]
    exact walk_tup.stops H' (sqT_ext e h1)
theorem iter_lst {a : Addr} {vs : List V} {ds : List D} (h1 : H a = some (.lst vs)) (hF : Fz G.hid μ a) (h2 : RpL G.K (Fz G.hid μ) H vs ds) : IterOk tl G μ H none (ds.map .p) (Itl G.K a) := by
  have hl : vs.length = (ds.map Val.p).length := by rw [h2.length, List.length_map]
  have hs : ∀ {μ' : List Addr} {H' : Hp}, Ext μ H μ' H' → SqL G.K H' a vs := fun e => .inl (.inl (e.lst _ _ hF.1 h1))
  refine ⟨fun hd hh μ' H' st i e s _ hi => ?_, fun hd hh μ' H' st i v H2 e s _ hi y => ?_, fun hd hh μ' H' st e s _ => ?_⟩
  · exact walk_list.goes i H' (by omega) (hs e)
  · obtain ⟨rfl, hv⟩ := walk_list.yields i H' v H2 (by omega) (hs e) y
    exact ⟨Ext.refl, s, RpVs.itm (hid := hd) (RpL.vals (RpL.carry (e.carryH hh) _ _ h2)) hv⟩
  · rw [← hl]
    exact walk_list.stops H' (hs e)
theorem iter_sto {l : Nat} {a : Addr} {ys : List Val} (h1 : μ[l]? = some a) : IterOk tl G μ H (some (.lst l)) ys (Itl G.K a) := by
  have key : ∀ {hd : List Addr} {μ' : List Addr} {H' : Hp} {st : Sto}, Ext μ H μ' H' → Sim (G.h hd) μ' H' st → watch st (some (.lst l)) ys = true → ∃ vs, SqL G.K H' a vs ∧ RpVs G.K hd μ' H' vs ys := fun {hd μ' H' st} e s w => by
    unfold watch at w
    dsimp only at w
    split at w
    · rename_i zs q
      have ez := sameVs_eq w
      subst ez
      have hr : RpV (G.h hd).K (G.h hd).hid [] μ' H' (.ref a) (.r l) := ⟨a, rfl, by
        obtain ⟨t, ht⟩ := e.pre
        rw [← ht, List.getElem?_append_left (List.getElem?_eq_some_iff.mp h1).1]
        exact h1⟩
      obtain ⟨b, vs, eb, k1, k2⟩ := viewL_sem s hr q
      cases eb
      exact ⟨vs, k1, k2⟩
    · cases w
  refine ⟨fun hd hh μ' H' st i e s w hi => ?_, fun hd hh μ' H' st i v H2 e s w hi y => ?_, fun hd hh μ' H' st e s w => ?_⟩
  · obtain ⟨vs, k1, k2⟩ := key e s w
    exact walk_list.goes i H' (by rw [k2.length]; exact hi) k1
  · obtain ⟨vs, k1, k2⟩ := key e s w
    obtain ⟨rfl, hv⟩ := walk_list.yields i H' v H2 (by rw [k2.length]; exact hi) k1 y
    exact ⟨Ext.refl, s, RpVs.itm k2 hv⟩
  · obtain ⟨vs, k1, k2⟩ := key e s w
    rw [← k2.length]
    exact walk_list.stops H' k1
theorem iter_str {t : T} : IterOk tl G μ H none (t.map fun c => .p (.str [c])) (Its (toS t)) := by
  have hl : (toS t).cps.size = (t.map fun c => Val.p (.str [c])).length := by simp [toS]
  refine ⟨fun hd hh μ' H' st i e s _ hi => ?_, fun hd hh μ' H' st i v H2 e s _ hi y => ?_, fun hd hh μ' H' st e s _ => ?_⟩
  · exact walk_str.goes i H' (by omega) trivial
  · obtain ⟨rfl, c, hc, rfl⟩ := walk_str.yields i H' v H2 (by omega) trivial y
    refine ⟨Ext.refl, s, fun x ex => ?_⟩
    rw [List.getElem?_map] at ex
    obtain ⟨d, hd, rfl⟩ := Option.map_eq_some_iff.mp ex
    have : c = d.toNat := by
      have h2 : (toS t).cps[i]? = some d.toNat := by simp [toS, hd]
      rw [hc] at h2
      exact Option.some.inj h2
    subst this
    exact .inl (Rp.str [d] (by show 1 ≤ tMax; decide))
  · rw [← hl]
    exact walk_str.stops H' trivial
theorem di_val {tg iter : Expr} {m : EM} (hK : X.K = G.K) (h : DE X G W iter m) : DI X G W tg iter (mIter m) := by
  refine ⟨fun pins s σ H Rr I ⟨μ, env, st, si, en, f⟩ => ?_⟩
  unfold mIter at f
  have f0 := f
  cases q : m env st with
  | fail => rw [q] at f; exact f.elim
  | exc c fs st1 =>
    rw [q] at f
    exact (pi_tup h).run pins s σ H Rr I ⟨μ, env, st, si, en, by rw [q]; exact f⟩
  | ok x st1 =>
    rw [q] at f
    have f1 : Fin G W σ μ H (match itemsOf st1 x with | some p => R.ok p st1 | none => R.fail) (fun p _ μ' H' => ∀ J, IterOk _ G μ' H' p.2 p.1 J → Rr J H') := f
    cases qi : itemsOf st1 x with
    | none => rw [qi] at f1; exact f1.elim
    | some p =>
      rw [qi] at f1
      obtain ⟨xs, src⟩ := p
      unfold itemsOf at qi
      split at qi
      · cases qi
        refine (pi_list h).run pins s σ H Rr I ⟨μ, env, st, si, en, ?_⟩
        rw [q]
        intro μ1 H1 e1 s1 v rv
        rw [hK]
        cases rv with
        | lst h1 h2 h3 => exact ⟨_, rfl, ⟨_, .inl (.inl h1)⟩, f1 μ1 H1 e1 s1 _ (iter_lst h1 h2 h3)⟩
      · cases qi
        refine (pi_tup h).run pins s σ H Rr I ⟨μ, env, st, si, en, ?_⟩
        rw [q]
        intro μ1 H1 e1 s1 v rv
        rw [hK]
        cases rv with
        | tup h1 hp h2 => exact ⟨_, rfl, ⟨_, h1⟩, f1 μ1 H1 e1 s1 _ (iter_tup h1 h2)⟩
      · cases qi
        refine (pi_str h).run pins s σ H Rr I ⟨μ, env, st, si, en, ?_⟩
        rw [q]
        intro μ1 H1 e1 s1 v rv
        cases rv with
        | str _ hl => exact ⟨_, rfl, f1 μ1 H1 e1 s1 _ iter_str⟩
      · split at qi
        · rename_i l ys qv
          cases qi
          refine (pi_list h).run pins s σ H Rr I ⟨μ, env, st, si, en, ?_⟩
          rw [q]
          intro μ1 H1 e1 s1 v rv
          rw [hK]
          obtain ⟨b, vs, rfl, k1, k2⟩ := viewL_sem s1 rv qv
          obtain ⟨a, ea, ha⟩ := rv
          cases ea
          exact ⟨_, rfl, ⟨_, k1⟩, f1 μ1 H1 e1 s1 _ (iter_sto ha)⟩
        · cases qi
      · cases qi
def rngItems (lo : Int) (n : Nat) : List Val := (List.range n).map fun i => .p (.int (lo + (i : Nat)))
def inW (i : Int) : Bool := decide (-(2 ^ 62) ≤ i) && decide (i < 2 ^ 62)
theorem inW_ok {i : Int} (h : inW i = true) : -(2 ^ 62) ≤ i ∧ i < 2 ^ 62 := by
  simp only [inW, Bool.and_eq_true, decide_eq_true_eq] at h
  exact h
def mRng1 (am : AM) : IM := fun env st => (am env st).bind fun xs st1 => match xs with
  | [.p (.int j)] => if inW j = true then .ok (rngItems 0 j.toNat, none) st1 else .fail
  | _ => .fail
def mRng2 (am : AM) : IM := fun env st => (am env st).bind fun xs st1 => match xs with
  | [.p (.int i), .p (.int j)] => if inW i = true ∧ inW j = true then .ok (rngItems i (j - i).toNat, none) st1 else .fail
  | _ => .fail
def rngItemsC (lo c : Int) (n : Nat) : List Val := (List.range n).map fun i => .p (.int (lo + (i : Nat) * c))
def mRng3 (am : AM) : IM := fun env st => (am env st).bind fun xs st1 => match xs with
  | [.p (.int i), .p (.int j), .p (.int c)] => if c ≠ 0 ∧ c.natAbs < 1073741824 ∧ Builtin.Range.small i j c = true ∧ Builtin.Range.rangeSize i j c = ((Builtin.Range.rangeSize i j c).toNat : Int) then .ok (rngItemsC i c (Builtin.Range.rangeSize i j c).toNat, none) st1 else .fail
  | _ => .fail
theorem iter_rng {lo : Int} {n : Nat} : IterOk tl G μ H none (rngItems lo n) (Itr lo n) := by
  have hl : n = (rngItems lo n).length := by simp [rngItems]
  refine ⟨fun hd hh μ' H' st i e s _ hi => ?_, fun hd hh μ' H' st i v H2 e s _ hi y => ?_, fun hd hh μ' H' st e s _ => ?_⟩
  · exact walk_range.goes i H' (by omega) trivial
  · obtain ⟨rfl, rfl⟩ := walk_range.yields i H' v H2 (by omega) trivial y
    refine ⟨Ext.refl, s, fun x ex => ?_⟩
    unfold rngItems at ex
    rw [List.getElem?_map] at ex
    obtain ⟨d, hd, rfl⟩ := Option.map_eq_some_iff.mp ex
    have hin : i < n := by omega
    rw [List.getElem?_range hin] at hd
    cases hd
    exact .inl (Rp.int _)
  · rw [← hl]
    exact walk_range.stops H' trivial
theorem iter_rngC {lo c : Int} {n : Nat} : IterOk tl G μ H none (rngItemsC lo c n) (Itc lo c n) := by
  have hl : n = (rngItemsC lo c n).length := by simp [rngItemsC]
  refine ⟨fun hd hh μ' H' st i e s _ hi => ?_, fun hd hh μ' H' st i v H2 e s _ hi y => ?_, fun hd hh μ' H' st e s _ => ?_⟩
  · exact walk_rangeC.goes i H' (by omega) trivial
  · obtain ⟨rfl, rfl⟩ := walk_rangeC.yields i H' v H2 (by omega) trivial y
    refine ⟨Ext.refl, s, fun x ex => ?_⟩
    unfold rngItemsC at ex
    rw [List.getElem?_map] at ex
    obtain ⟨d, hd, rfl⟩ := Option.map_eq_some_iff.mp ex
    have hin : i < n := by omega
    rw [List.getElem?_range hin] at hd
    cases hd
    exact .inl (Rp.int _)
  · rw [← hl]
    exact walk_rangeC.stops H' trivial
theorem RpVs.three {K : Frag} {hid : List Addr} {vs : List V} {x y z : Val} (h : RpVs K hid μ H vs [x, y, z]) : ∃ v w u, vs = [v, w, u] ∧ RpV K hid [] μ H v x ∧ RpV K hid [] μ H w y ∧ RpV K hid [] μ H u z := by
  cases h with
  | cons r t =>
    obtain ⟨w, u, rfl, q⟩ := RpVs.two t
    exact ⟨_, _, _, rfl, r, q⟩
theorem di_rng1 {tg a : Expr} {am : AM} {p pos : Pos} (hg : Gl X "range") (hm : X.mg "range" = none) (h : DA X G W [a] am) (hn : notStar a = true) : DI X G W tg (.Call (.Name "range" p) [a] [] pos) (mRng1 am) := by
  refine ⟨fun pins s σ H Rr I ⟨μ, env, st, si, en, f⟩ => (pi_range1 (tg := tg) (p := p) (pos := pos) hg hm h (starEach_plain hn [] X.env)).run pins s σ H Rr I ⟨μ, env, st, si, en, f.bind.mono fun xs st1 μ1 H1 e1 s1 h1 vs rv => ?_⟩⟩
  split at h1
  · split at h1
    · rename_i j hj
      obtain ⟨v, rfl, r⟩ := rv.one
      cases r
      exact ⟨j, rfl, (inW_ok hj).1, (inW_ok hj).2, h1.ok s1 _ iter_rng⟩
    · exact h1.elim
  · exact h1.elim
theorem di_rng2 {tg a b : Expr} {am : AM} {p pos : Pos} (hg : Gl X "range") (hm : X.mg "range" = none) (h : DA X G W [a, b] am) (hn : notStar a = true) (hn' : notStar b = true) : DI X G W tg (.Call (.Name "range" p) [a, b] [] pos) (mRng2 am) := by
  refine ⟨fun pins s σ H Rr I ⟨μ, env, st, si, en, f⟩ => (pi_range2 (tg := tg) (p := p) (pos := pos) hg hm h (by rw [starEach_plain hn, starEach_plain hn']; rfl) (starEach_plain hn' [] X.env)).run pins s σ H Rr I ⟨μ, env, st, si, en, f.bind.mono fun xs st1 μ1 H1 e1 s1 h1 vs rv => ?_⟩⟩
  split at h1
  · split at h1
    · rename_i i j hj
      obtain ⟨v, w, rfl, r, r'⟩ := rv.two
      cases r
      cases r'
      exact ⟨i, j, rfl, ⟨(inW_ok hj.1).1, (inW_ok hj.1).2, (inW_ok hj.2).1, (inW_ok hj.2).2⟩, h1.ok s1 _ iter_rng⟩
    · exact h1.elim
  · exact h1.elim
theorem di_rng3 {tg a b c : Expr} {am : AM} {p pos : Pos} (hg : Gl X "range") (hm : X.mg "range" = none) (h : DA X G W [a, b, c] am) (hn : ([a, b, c] : List Expr).all notStar = true) : DI X G W tg (.Call (.Name "range" p) [a, b, c] [] pos) (mRng3 am) := by
  have hn' := hn
  simp only [List.all_cons, Bool.and_eq_true] at hn'
  refine ⟨fun pins s σ H Rr I ⟨μ, env, st, si, en, f⟩ => (pi_range3 (tg := tg) (p := p) (pos := pos) hg hm h (starEach_plain hn'.1 _ _) (star_all pos X.env (by simp [hn'.2.1, hn'.2.2]))).run pins s σ H Rr I ⟨μ, env, st, si, en, f.bind.mono fun xs st1 μ1 H1 e1 s1 h1 vs rv => ?_⟩⟩
  split at h1
  · split at h1
    · rename_i i j c hj
      obtain ⟨v, w, u, rfl, r, r', r''⟩ := rv.three
      cases r
      cases r'
      cases r''
      exact ⟨i, j, c, _, rfl, ⟨hj.1, hj.2.1, hj.2.2.1, hj.2.2.2⟩, h1.ok s1 _ iter_rngC⟩
    · exact h1.elim
  · exact h1.elim
def srcOf (st : Sto) : Val → Option (List D × Option Src)
  | .p (.lst ds) => some (ds, none)
  | .r l => match viewL st (.r l) with
    | some ys => match pureL ys with
      | some ds => some (ds, some (.enm l))
      | none => none
    | none => none
  | _ => none
theorem srcOf_lst {ds : List D} {src : Option Src} (r : RpV G.K G.hid [] μ H v x) (e : srcOf st x = some (ds, none)) : ∃ a vs, v = .ref a ∧ H a = some (.lst vs) ∧ Fz G.hid μ a ∧ RpL G.K (Fz G.hid μ) H vs ds := by
  unfold srcOf at e
  split at e
  · cases e
    cases r with
    | lst h1 h2 h3 => exact ⟨_, _, rfl, h1, h2, h3⟩
  · split at e
    · split at e
      · cases e
      · cases e
    · cases e
  · cases e
theorem iter_enum {a : Addr} {vs : List V} {ds : List D} (h1 : H a = some (.lst vs)) (hF : Fz G.hid μ a) (h2 : RpL G.K (Fz G.hid μ) H vs ds) : IterOk true G μ H none (enumItems ds) (Ite G.K a) := by
  have hl : vs.length = (enumItems ds).length := by simp [enumItems, h2.length]
  have hs : ∀ {μ' : List Addr} {H' : Hp}, Ext μ H μ' H' → SqL G.K H' a vs := fun e => .inl (.inl (e.lst _ _ hF.1 h1))
  refine ⟨fun hd hh μ' H' st i e s _ hi => ?_, fun hd hh μ' H' st i v H2 e s _ hi y => ?_, fun hd hh μ' H' st e s _ => ?_⟩
  · exact walk_enum.goes i H' (by omega) (hs e)
  · obtain ⟨T, x, z, rfl, nT, rfl, hx, hz⟩ := walk_enum.yields i H' v H2 (by omega) (hs e) y
    have hz' : vs[i]? = some z := hz
    cases hx
    refine ⟨Ext.new nT, s.new nT, fun q eq => ?_⟩
    unfold enumItems at eq
    rw [List.getElem?_mapIdx] at eq
    obtain ⟨d, hd, rfl⟩ := Option.map_eq_some_iff.mp eq
    obtain ⟨w, hw, rw_⟩ := (RpL.carry (Ext.new nT).carry _ _ (RpL.carry (e.carryH hh) _ _ h2)).get hd
    rw [hz'] at hw
    cases hw
    exact .inr ⟨rfl, _, _, _, rfl, rfl, .inl (.inl upd_same), .cons (.int _) (.cons rw_ .nil)⟩
  · rw [← hl]
    exact walk_enum.stops H' (hs e)
theorem iter_enumS {l : Nat} {a : Addr} {ds : List D} (h1 : μ[l]? = some a) : IterOk true G μ H (some (.enm l)) (enumItems ds) (Ite G.K a) := by
  have key : ∀ {hd : List Addr} {μ' : List Addr} {H' : Hp} {st : Sto}, Ext μ H μ' H' → Sim (G.h hd) μ' H' st → watch st (some (.enm l)) (enumItems ds) = true → ∃ vs ds', SqL G.K H' a vs ∧ RpL G.K (Fz hd μ') H' vs ds' ∧ enumItems ds' = enumItems ds := fun {hd μ' H' st} e s w => by
    unfold watch at w
    dsimp only at w
    split at w
    · rename_i zs q
      split at w
      · rename_i ds' qd
        have ez := sameVs_eq w
        have hr : RpV (G.h hd).K (G.h hd).hid [] μ' H' (.ref a) (.r l) := ⟨a, rfl, by
          obtain ⟨t, ht⟩ := e.pre
          rw [← ht, List.getElem?_append_left (List.getElem?_eq_some_iff.mp h1).1]
          exact h1⟩
        obtain ⟨b, vs, eb, k1, k2⟩ := viewL_sem s hr q
        cases eb
        exact ⟨vs, ds', k1, RpVs.pure k2 qd, ez⟩
      · cases w
    · cases w
  have hlen : ∀ ds' : List D, enumItems ds' = enumItems ds → ds'.length = (enumItems ds).length := fun ds' h => by rw [← h]; simp [enumItems]
  refine ⟨fun hd hh μ' H' st i e s w hi => ?_, fun hd hh μ' H' st i v H2 e s w hi y => ?_, fun hd hh μ' H' st e s w => ?_⟩
  · obtain ⟨vs, ds', k1, k2, k3⟩ := key e s w
    exact walk_enum.goes i H' (by rw [k2.length, hlen ds' k3]; exact hi) k1
  · obtain ⟨vs, ds', k1, k2, k3⟩ := key e s w
    obtain ⟨T, x, z, rfl, nT, rfl, hx, hz⟩ := walk_enum.yields i H' v H2 (by rw [k2.length, hlen ds' k3]; exact hi) k1 y
    have hz' : vs[i]? = some z := hz
    cases hx
    refine ⟨Ext.new nT, s.new nT, fun q eq => ?_⟩
    rw [← k3] at eq
    unfold enumItems at eq
    rw [List.getElem?_mapIdx] at eq
    obtain ⟨d, hd, rfl⟩ := Option.map_eq_some_iff.mp eq
    obtain ⟨w, hw, rw_⟩ := (RpL.carry (Ext.new nT).carry _ _ k2).get hd
    rw [hz'] at hw
    cases hw
    exact .inr ⟨rfl, _, _, _, rfl, rfl, .inl (.inl upd_same), .cons (.int _) (.cons rw_ .nil)⟩
  · obtain ⟨vs, ds', k1, k2, k3⟩ := key e s w
    rw [← hlen ds' k3, ← k2.length]
    exact walk_enum.stops H' k1
end
end Sl
end
section
set_option Elab.async false
set_option linter.all false
set_option maxRecDepth 100000
namespace Sl
open PySem PySem.Spec PyProof.Rows L2
section
variable {G : Grd} {K : Frag} {hid hid' : List Addr} {xs : List (Addr × Addr)} {μ μ' : List Addr} {H H' : Hp} {st : Sto} {env : Slots} {σ : L2.St}
theorem ObjRp.map {cls : Str → Option Addr} {a : Addr} {o : SObj} (hb : H' a = H a) (c : ∀ {vs : List V} {ys : List Val}, RpVs K hid μ H vs ys → RpVs K hid' μ' H' vs ys) (h : ObjRp cls K hid μ H a o) : ObjRp cls K hid' μ' H' a o := by
  cases o with
  | lst vs => obtain ⟨xs, h1, h2⟩ := h; exact ⟨xs, hb.trans h1, c h2⟩
  | dct ks vs => obtain ⟨kvs, h1, h2, h3⟩ := h; exact ⟨kvs, hb.trans h1, h2, c h3⟩
  | ldct ks vs => obtain ⟨o, kvs, h1, h2, h3⟩ := h; exact ⟨o, kvs, hb.trans h1, h2, c h3⟩
  | ins cc fs => obtain ⟨C, dx, fvs, h0, h1, h2, h3⟩ := h; exact ⟨C, dx, fvs, h0, hb.trans h1, h2, c h3⟩
  | scr ns => obtain ⟨o, h1⟩ := h; exact ⟨o, hb.trans h1⟩
theorem Rp.over {F F' : Addr → Prop} (k : ∀ a, F a → F' a) : ∀ {d : D} {v : V}, Rp K F H v d → Rp K F' H v d := fun {d v} h => Rp.carry ⟨fun _ _ q => q, fun _ q => q, fun a _ q r => ⟨r, k a q⟩, fun a _ q r => ⟨r, k a q⟩⟩ d v h
theorem RpV.over {v : V} (k : ∀ a, Fz hid μ a → Fz hid' μ' a) (pre : μ <+: μ') : ∀ {x : Val}, RpV K hid [] μ H v x → RpV K hid' [] μ' H v x
  | .p d, h => Rp.over k h
  | .r l, ⟨a, h1, h2⟩ => ⟨a, h1, by
    obtain ⟨t, ht⟩ := pre
    rw [← ht, List.getElem?_append_left (List.getElem?_eq_some_iff.mp h2).1]
    exact h2⟩
  | .x _ _, ⟨_, _, _, _, h2, _⟩ => nomatch h2
theorem RpVs.over (k : ∀ a, Fz hid μ a → Fz hid' μ' a) (pre : μ <+: μ') : ∀ {vs : List V} {ys : List Val}, RpVs K hid μ H vs ys → RpVs K hid' μ' H vs ys
  | _, _, .nil => .nil
  | _, _, .cons r t => .cons (RpV.over k pre r) (RpVs.over k pre t)
theorem Sim.hide {p : Addr} {u : HO} (s : Sim G μ H st) (hp : H p = none) : Sim (G.h (p :: G.hid)) μ (L2.upd H p u) st where
  len := s.len
  nd := s.nd
  hid := fun a h => by
    rcases List.mem_cons.mp h with rfl | h
    · rw [upd_same]; exact fun z => nomatch z
    · exact (Ext.new (μ := μ) hp).on a (s.hid a h)
  dis := fun a h z => by
    rcases List.mem_cons.mp h with rfl | h
    · obtain ⟨l, hl, el⟩ := List.getElem_of_mem z
      exact s.at_some (l := l) (a := a) (by simp [hl, el]) hp
    · exact s.dis a h z
  obj := fun l a o h1 h2 => ObjRp.map (upd_ne fun z => s.at_some h1 (by rw [z]; exact hp)) (fun r => RpVs.extH (Ext.new hp) (fun a h => by
    rcases List.mem_cons.mp h with rfl | h
    · exact .inr hp
    · exact .inl h) r) (s.obj l a o h1 h2)
theorem Sim.unhide {p : Addr} (s : Sim (G.h (p :: G.hid)) μ H st) : Sim G μ H st where
  len := s.len
  nd := s.nd
  hid := fun a h => s.hid a (List.mem_cons_of_mem _ h)
  dis := fun a h => s.dis a (List.mem_cons_of_mem _ h)
  obj := fun l a o h1 h2 => ObjRp.map rfl (fun r => RpVs.over (fun a h => ⟨h.1, fun z => h.2 (List.mem_cons_of_mem _ z)⟩) (List.prefix_refl _) r) (s.obj l a o h1 h2)
theorem Sim.unhideS {p : Addr} {o : SObj} (s : Sim (G.h (p :: G.hid)) μ H st) (hn : p ∉ μ) (hnh : p ∉ G.hid) (ho : ObjRp G.cls G.K G.hid (μ ++ [p]) H p o) : Sim G (μ ++ [p]) H (st ++ [o]) where
  len := by simp [s.len]
  nd := by
    rw [List.nodup_append]
    refine ⟨s.nd, by simp, fun a ha b hb => ?_⟩
    rw [List.mem_singleton.mp hb]
    intro z
    subst z
    exact hn ha
  hid := fun a h => s.hid a (List.mem_cons_of_mem _ h)
  dis := fun a h z => by
    rcases List.mem_append.mp z with z | z
    · exact s.dis a (List.mem_cons_of_mem _ h) z
    · exact hnh (by rw [← List.mem_singleton.mp z]; exact h)
  obj := fun j b w hj hw => by
    by_cases q : j < μ.length
    · rw [List.getElem?_append_left q] at hj
      rw [List.getElem?_append_left (by rw [← s.len]; exact q)] at hw
      refine ObjRp.map rfl (fun r => RpVs.over (fun a h => ⟨fun z => ?_, fun z => h.2 (List.mem_cons_of_mem _ z)⟩) ⟨[p], rfl⟩ r) (s.obj j b w hj hw)
      rcases List.mem_append.mp z with z | z
      · exact h.1 z
      · exact h.2 (by rw [List.mem_singleton.mp z]; exact List.mem_cons_self ..)
    · have hjl : j = μ.length := by
        have := (List.getElem?_eq_some_iff.mp hj).1
        simp at this
        omega
      subst hjl
      rw [List.getElem?_append_right (Nat.le_refl _)] at hj
      rw [List.getElem?_append_right (by rw [s.len]; exact Nat.le_refl _)] at hw
      simp at hj
      rw [s.len] at hw
      simp at hw
      subst hj
      subst hw
      exact ho
end
abbrev GM := Val → Slots → Option Slots
def RdG (lo : Bool) (G : Grd) (gs : List Nat) (gm : GM) : TG := fun v σ H Q => ∃ μ env st x env', Sim G μ H st ∧ EnvRp G μ H env σ ∧ RpI lo G.K G.hid μ H v x ∧ gm x env = some env' ∧
  ∀ σ', EnvRp G μ H env' σ' → σ'.length = σ.length → (∀ j, j ∉ gs → σ'[j]? = σ[j]?) → Q σ' H
def gN (i : Nat) : GM := fun x env => some (env.set i (some x))
def gsGo : List GM → List D → Slots → Option Slots
  | [], [], env => some env
  | g :: gs, d :: ds, env => match g (.p d) env with
    | some env' => gsGo gs ds env'
    | none => none
  | _, _, _ => none
def gT (gms : List GM) : GM := fun x env => match x with
  | .p (.tup ds) => gsGo gms ds env
  | _ => none
theorem PG.by {X : Cx} {e : Expr} {t t' : TG} (h : PG X e t) (k : ∀ v σ H Q, t' v σ H Q → t v σ H Q) : PG X e t' := ⟨fun pins s σ H v u Q I r q => h.run pins s σ H v u Q I r (k v σ H Q q)⟩
theorem PG.ex {X : Cx} {e : Expr} {f : List Addr → TG} (h : ∀ a, PG X e (f a)) : PG X e (fun v σ H Q => ∃ a, f a v σ H Q) := ⟨fun pins s σ H v u Q I r ⟨a, q⟩ => (h a).run pins s σ H v u Q I r q⟩
theorem PE.ex {X : Cx} {e : Expr} {f : List Addr → TE} (h : ∀ a, PE X e (f a)) : PE X e (fun σ H Q => ∃ a, f a σ H Q) := ⟨fun pins s σ H Q I ⟨a, q⟩ => (h a).run pins s σ H Q I q⟩
theorem PTs.ex {X : Cx} {e : List Expr} {f : List Addr → TT} (h : ∀ a, PTs X e (f a)) : PTs X e (fun σ H Q => ∃ a, f a σ H Q) := ⟨fun pins s σ H Q I ⟨a, q⟩ => (h a).run pins s σ H Q I q⟩
section
variable {X : Cx} {G : Grd} {pos : Pos}
theorem EnvRp.set {μ : List Addr} {H : Hp} {env : Slots} {σ : L2.St} {i : Nat} {v : V} {x : Val} (r : EnvRp G μ H env σ) (h : RpV G.K G.hid [] μ H v x) : EnvRp G μ H (env.set i (some x)) (σ.set i (some v)) := by
  refine ⟨by rw [List.length_set, List.length_set]; exact r.len, fun j y e => ?_⟩
  by_cases q : i = j
  · subst q
    by_cases hi : i < env.length
    · rw [List.getElem?_set_self hi] at e
      cases e
      refine ⟨v, by rw [List.getElem?_set_self (by rw [← r.len]; exact hi)], ?_⟩
      cases x with
      | p d => exact h
      | r l => exact h
      | x c fs => obtain ⟨_, _, _, _, h2, _⟩ := h; exact nomatch h2
    · rw [List.getElem?_eq_none (by simpa using hi)] at e
      cases e
  · rw [List.getElem?_set_ne q] at e ⊢
    exact r.at_ j y e
theorem dg_name {i : Nat} {x : Str} (hN : X.N.Nodup) (hi : X.N[i]? = some x) (hx : Loc X.env.scope x) (hf : X.fn x = true ∨ X.env.scope.names.lookup x = some .local) : PG X (.Name x pos) (RdG (tupT (.Name x pos)) G [i] (gN i)) :=
  PG.by (pg_name hN hi hx hf) fun v σ H Q ⟨μ, env, st, y, env', s, en, rv, e, k⟩ => by
    cases e
    have rv : RpV G.K G.hid [] μ H v y := rv.elim id fun z => nomatch z.1
    exact k _ (en.set rv) (by rw [List.length_set]) fun j hj => List.getElem?_set_ne (fun z => hj (by simp [z]))
def RdGs (G : Grd) (gs : List Nat) (gms : List GM) : TGs := fun vs σ H Q => ∃ μ env st ds env', Sim G μ H st ∧ EnvRp G μ H env σ ∧ RpL G.K (Fz G.hid μ) H vs ds ∧ gsGo gms ds env = some env' ∧
  ∀ σ', EnvRp G μ H env' σ' → σ'.length = σ.length → (∀ j, j ∉ gs → σ'[j]? = σ[j]?) → Q σ' H
theorem PGs.by {es : List Expr} {t t' : TGs} (h : PGs X es t) (k : ∀ v σ H Q, t' v σ H Q → t v σ H Q) : PGs X es t' := ⟨fun pins s σ H v u Q I r q => h.run pins s σ H v u Q I r (k v σ H Q q)⟩
theorem dgs_nil : PGs X [] (RdGs G [] []) := PGs.by pgs_nil fun vs σ H Q ⟨μ, env, st, ds, env', s, en, rv, e, k⟩ => by
  cases ds with
  | nil =>
    cases e
    cases rv
    exact ⟨rfl, k _ en rfl fun _ _ => rfl⟩
  | cons d ds => cases e
def plainTg : Expr → Bool
  | .Name _ _ => true
  | .Tuple _ _ _ => true
  | _ => false
theorem assignEach_plain {e : Expr} (h : plainTg e = true) (es : List Expr) (env : Env) : assignEach (e :: es) env = (false, assign e env) :: assignEach es env := by
  cases e <;> first | rfl | cases h
theorem dgs_cons {e : Expr} {es : List Expr} {gs gs' : List Nat} {gm : GM} {gms : List GM} (h : PG X e (RdG (tupT e) G gs gm)) (hs : PGs X es (RdGs G gs' gms)) (hp : plainTg e = true) : PGs X (e :: es) (RdGs G (gs ++ gs') (gm :: gms)) :=
  PGs.by (pgs_cons h hs (by rw [assignEach_plain hp]; rfl)) fun vs σ H Q ⟨μ, env, st, ds, env', s, en, rv, e, k⟩ => by
    cases ds with
    | nil => cases e
    | cons d ds =>
      cases rv with
      | cons r1 r2 =>
        unfold gsGo at e
        split at e
        · rename_i env1 q
          refine ⟨_, _, rfl, μ, env, st, .p d, env1, s, en, .inl r1, q, fun σ1 en1 hl1 hj1 => ?_⟩
          exact ⟨μ, env1, st, ds, env', s, en1, r2, e, fun σ2 en2 hl2 hj2 => k σ2 en2 (hl2.trans hl1) fun j hj => (hj2 j fun z => hj (List.mem_append_right _ z)).trans (hj1 j fun z => hj (List.mem_append_left _ z))⟩
        · cases e
theorem each_len : ∀ {es : List Expr} (env : Env), es.all plainTg = true → (assignEach es env).length = es.length ∧ (assignEach es env).findIdx? (·.1) = none
  | [], _, _ => ⟨rfl, rfl⟩
  | e :: es, env, h => by
    simp only [List.all_cons, Bool.and_eq_true] at h
    rw [assignEach_plain h.1]
    obtain ⟨h1, h2⟩ := each_len env h.2
    exact ⟨by simp [h1], by simp [List.findIdx?_cons, h2]⟩
theorem gsGo_len : ∀ {gms : List GM} {ds : List D} {env env' : Slots}, gsGo gms ds env = some env' → ds.length = gms.length
  | [], [], _, _, _ => rfl
  | [], _ :: _, _, _, h => by cases h
  | _ :: _, [], _, _, h => by cases h
  | g :: gs, d :: ds, env, env', h => by
    unfold gsGo at h
    split at h
    · simp [gsGo_len h]
    · cases h
theorem dg_tup {es : List Expr} {k : Nat} {gs : List Nat} {gms : List GM} (hK : X.K = G.K) (hc : X.calm = true) (h : PGs X es (RdGs G gs gms)) (hp : es.all plainTg = true) (hl : gms.length = es.length) : PG X (.Tuple es k pos) (RdG (tupT (.Tuple es k pos)) G gs (gT gms)) :=
  PG.by (pg_tup hc h (each_len X.env hp).1 (each_len X.env hp).2) fun v σ H Q ⟨μ, env, st, x, env', s, en, rv, e, k⟩ => by
    unfold gT at e
    split at e
    · rename_i ds
      rcases rv with rv | ⟨_, a, vs, ds', rfl, e3, h1, h2⟩
      · cases rv with
        | tup h1 hp h2 => exact ⟨_, _, rfl, by rw [hK]; exact h1, by rw [h2.length, gsGo_len e, hl], μ, env, st, ds, env', s, en, h2, e, k⟩
      · cases e3
        exact ⟨_, _, rfl, by rw [hK]; exact h1, by rw [h2.length, gsGo_len e, hl], μ, env, st, ds, env', s, en, h2, e, k⟩
    · cases e
end
def R.noExc {α : Type} : R α → R α
  | .exc _ _ _ => .fail
  | r => r
def wipeE (env : Slots) : List Nat → Slots
  | [] => env
  | v :: vs => (wipeE env vs).set v none
def lcGo (src : Option Src) (all : List Val) (gm : GM) (mt : TM) (me : EM) (env : Slots) : List Val → Sto → R (List Val)
  | [], st => if watch st src all = true then .ok [] st else .fail
  | x :: rest, st => if watch st src all = true then match gm x env with
    | none => .fail
    | some env1 => (mt env1 st).bind fun b st1 => match b with
      | true => (me env1 st1).bind fun y st2 => (lcGo src all gm mt me env rest st2).bind fun ys st3 => .ok (y :: ys) st3
      | false => lcGo src all gm mt me env rest st1
    else .fail
def mComp (md : Bool) (own : List Nat) (mi : IM) (gm : GM) (mt : TM) (me : EM) : EM := fun env st => (mi env st).bind fun p st1 =>
  (lcGo p.2 p.1 gm mt me (wipeE env own) p.1 st1).noExc.bind fun ys st2 => R.lift (newLst md ys st2)
def tmYes : TM := fun _ st => .ok true st
section
variable {X : Cx} {G : Grd} {W : WX}
abbrev WF : WX := fun _ _ _ _ => False
theorem wipe_env {μ : List Addr} {H : Hp} {env : Slots} {σ : L2.St} (r : EnvRp G μ H env σ) : ∀ vs : List Nat, EnvRp G μ H (wipeE env vs) (wipe σ vs)
  | [] => r
  | v :: vs => by
    have ih := wipe_env r vs
    unfold wipeE wipe
    refine ⟨by rw [List.length_set, List.length_set]; exact ih.len, fun j y e => ?_⟩
    by_cases q : v = j
    · subst q
      by_cases hi : v < (wipeE env vs).length
      · rw [List.getElem?_set_self hi] at e
        cases e
      · rw [List.getElem?_eq_none (by simpa using hi)] at e
        cases e
    · rw [List.getElem?_set_ne q] at e ⊢
      exact ih.at_ j y e
theorem wipe_at {σ : L2.St} : ∀ {vs : List Nat} (j : Nat), (wipe σ vs)[j]? = if j ∈ vs ∧ j < σ.length then some none else σ[j]?
  | [], j => by simp [wipe]
  | v :: vs, j => by
    unfold wipe
    by_cases q : v = j
    · subst q
      by_cases hi : v < σ.length
      · rw [List.getElem?_set_self (by rw [wipe_length]; exact hi)]
        simp [hi]
      · rw [List.getElem?_eq_none (by rw [List.length_set, wipe_length]; omega)]
        rw [if_neg (fun z => hi z.2), List.getElem?_eq_none (by omega)]
    · rw [List.getElem?_set_ne q, wipe_at]
      by_cases hj : j ∈ vs <;> simp [hj, Ne.symm q]
theorem wipe_same {σ σ' : L2.St} {vs : List Nat} (hl : σ'.length = σ.length) (h : ∀ j, j ∉ vs → σ'[j]? = σ[j]?) : wipe σ' vs = wipe σ vs := by
  refine List.ext_getElem? fun j => ?_
  rw [wipe_at, wipe_at, hl]
  by_cases hj : j ∈ vs
  · by_cases hi : j < σ.length
    · simp [hj, hi]
    · rw [if_neg (fun z => hi z.2), if_neg (fun z => hi z.2), List.getElem?_eq_none (by omega), List.getElem?_eq_none (by omega)]
  · simp [hj, h j hj]
theorem wipe_wipe {σ : L2.St} {vs : List Nat} : wipe (wipe σ vs) vs = wipe σ vs := wipe_same (wipe_length _ _) fun j hj => by rw [wipe_at]; simp [hj]
end
end Sl
end
section
set_option Elab.async false
set_option linter.all false
set_option maxRecDepth 100000
set_option maxHeartbeats 1000000
namespace Sl
open PySem PySem.Spec PyProof.Rows L2
section
variable {X : Cx} {G : Grd} {W : WX} {K : Frag} {hid : List Addr} {μ μ' : List Addr} {H H' : Hp} {st : Sto}
theorem Ext.later {a : Addr} {u : HO} (e : Ext μ H μ' H') (h : H a = none) : Ext μ H μ' (L2.upd H' a u) where
  pre := e.pre
  tup := fun b vs q => by
    have nb : b ≠ a := fun z => rd_some q (by rw [z]; exact h)
    have := e.tup b vs q
    unfold Rd at this ⊢
    rw [upd_ne nb]; exact this
  pl := fun b q => by
    have nb : b ≠ a := fun z => by obtain ⟨o, vs, q, _⟩ := q; rw [z, h] at q; cases q
    obtain ⟨o, vs, q, hd⟩ := e.pl b q
    exact ⟨o, vs, by rw [upd_ne nb]; exact q, hd⟩
  lst := fun b vs hm q => by
    have nb : b ≠ a := fun z => by rw [z, h] at q; cases q
    rw [upd_ne nb]; exact e.lst b vs hm q
  dcx := fun b vs hm q => (upd_ne fun z => rd_some q (by rw [z]; exact h)).trans (e.dcx b vs hm q)
  xd := fun b vs q => by
    have nb : b ≠ a := fun z => by rw [z, h] at q; cases q
    rw [upd_ne nb]; exact e.xd b vs q
  fresh := e.fresh
  fz := fun b o v q => by
    have nb : b ≠ a := fun z => by rw [z, h] at q; cases q
    rw [upd_ne nb]; exact e.fz b o v q
  on := fun b q => by
    by_cases z : b = a
    · rw [z, upd_same]; exact fun z => nomatch z
    · rw [upd_ne z]; exact e.on b q
theorem carry_hid {D : Addr} {vs ws : List V} (h : H D = some (.lst vs)) (hm : D ∈ hid) : Carry (Fz hid μ) (Fz hid μ) H (upd H D (.lst ws)) := by
  have nt : ∀ {b : Addr} {xs : List V}, Rd H b (.tup xs) → b ≠ D := fun q z => by
    subst z
    rcases q with q | ⟨o, q⟩ <;> (rw [h] at q; cases q)
  refine ⟨fun b xs q => ?_, fun b ⟨o, xs, q, hd⟩ => ⟨o, xs, by rw [upd_ne fun z => by rw [z, h] at q; cases q]; exact q, hd⟩, fun b xs hb q => ⟨?_, hb⟩, fun b xs hb q => ⟨?_, hb⟩⟩
  · have nb := nt q
    unfold Rd at q ⊢
    rw [upd_ne nb]; exact q
  · rw [upd_ne fun z => hb.2 (by rw [z]; exact hm)]; exact q
  · have nb : b ≠ D := fun z => hb.2 (by rw [z]; exact hm)
    unfold Rd at q ⊢
    rw [upd_ne nb]; exact q
theorem RpV.by (c : Carry (Fz hid μ) (Fz hid μ) H H') {v : V} : ∀ {x : Val}, RpV K hid [] μ H v x → RpV K hid [] μ H' v x
  | .p d, h => Rp.carry c d v h
  | .r l, h => h
  | .x _ _, ⟨_, _, _, _, h2, _⟩ => nomatch h2
theorem RpVs.by (c : Carry (Fz hid μ) (Fz hid μ) H H') : ∀ {vs : List V} {ys : List Val}, RpVs K hid μ H vs ys → RpVs K hid μ H' vs ys
  | _, _, .nil => .nil
  | _, _, .cons r t => .cons (RpV.by c r) (RpVs.by c t)
theorem Sim.hidSet {D : Addr} {vs ws : List V} (s : Sim G μ H st) (h : H D = some (.lst vs)) (hm : D ∈ G.hid) (hn : D ∉ μ) : Sim G μ (L2.upd H D (.lst ws)) st where
  len := s.len
  nd := s.nd
  hid := fun a ha => by
    by_cases z : a = D
    · rw [z, upd_same]; exact fun z => nomatch z
    · rw [upd_ne z]; exact s.hid a ha
  dis := s.dis
  obj := fun l a o h1 h2 => ObjRp.map (upd_ne fun z => hn (z ▸ List.mem_of_getElem? h1)) (fun r => RpVs.by (carry_hid h hm) r) (s.obj l a o h1 h2)
theorem pureL_len : ∀ {xs : List Val} {ds : List D}, pureL xs = some ds → xs.length = ds.length
  | [], ds, h => by cases h; rfl
  | .p d :: xs, ds, h => by
    cases w : pureL xs with
    | none => simp [pureL, w] at h
    | some es =>
      simp [pureL, w] at h
      subst h
      simp [pureL_len w]
  | .r l :: xs, ds, h => by cases h
  | .x c fs :: xs, ds, h => by cases h
theorem notSet_of {e : Expr} (h : (match e with | .Set _ _ _ => false | _ => true) = true) (env : Env) : ∀ x, foldedSetIterable e env x = pure x := fun x => by
  cases e <;> first | rfl | cases h
theorem rd_lc {lo : Bool} {mi : IM} {gs ow : List Nat} {gm : GM} {mt : TM} {me : EM} {md : Bool} (hgs : ∀ j ∈ gs, j ∈ ow) : ∀ σ H Q, RdE G W (mComp md ow mi gm mt me) σ H Q →
    tLc (RdI lo G W mi) (fun v σ H Q => ∃ h, RdG lo (G.h h) gs gm v σ H Q) (fun σ H Q => ∃ h, RdT (G.h h) WF mt σ H Q) (fun σ H Q => ∃ h, RdE (G.h h) WF me σ H Q) ow σ H Q := by
  rintro σ H Q ⟨μ, env, st, s, en, f⟩
  refine ⟨μ, env, st, s, en, f.bind.mono fun p st1 μ1 H1 e1 s1 h1 J hJ D hD => ?_⟩
  obtain ⟨all, src⟩ := p
  dsimp only at h1 hJ
  cases r : lcGo src all gm mt me (wipeE env ow) all st1 with
  | fail => rw [r] at h1; exact h1.elim
  | exc c fs st2 => rw [r] at h1; exact h1.elim
  | ok yall stN =>
    rw [r] at h1
    have h1 : Fin G W σ μ1 H1 (R.lift (newLst md yall stN)) (PV G Q) := h1
    cases q : newLst md yall stN with
    | none => rw [q] at h1; exact h1.elim
    | some zs =>
      obtain ⟨z, st'⟩ := zs
      rw [q] at h1
      have h1 : Fin G W σ μ1 H1 (.ok z st') (PV G Q) := h1
      have hlen : yall.length ≤ sizeLine := by
        unfold newLst at q
        cases md with
        | true =>
          dsimp only at q
          split at q
          · assumption
          · cases q
        | false =>
          dsimp only at q
          split at q
          · rename_i ds qd
            split at q
            · rw [pureL_len qd]; assumption
            · cases q
          · cases q
      have hh : ∀ a ∈ D :: G.hid, a ∈ G.hid ∨ H1 a = none := fun a ha => by
        rcases List.mem_cons.mp ha with rfl | ha
        · exact .inr hD
        · exact .inl ha
      have hDμ : D ∉ μ1 := fun hm => by
        obtain ⟨l, hl, el⟩ := List.getElem_of_mem hm
        exact s1.at_some (l := l) (a := D) (by simp [hl, el]) hD
      refine ⟨fun i m H => m = all.length - i ∧ i ≤ all.length ∧ ∃ μi sti ys vs, Ext μ1 H1 μi H ∧ Sim (G.h (D :: G.hid)) μi H sti ∧ H D = some (.lst vs) ∧ RpVs G.K (D :: G.hid) μi H vs ys ∧ D ∉ μi ∧
        ∃ zs, lcGo src all gm mt me (wipeE env ow) (all.drop i) sti = .ok zs stN ∧ yall = ys ++ zs, ⟨all.length, by simp, Nat.zero_le _, μ1, st1, [], [], Ext.new hD, s1.hide hD, upd_same, .nil, hDμ, yall, by rw [List.drop_zero]; exact r, rfl⟩, ?_⟩
      rintro i m H2 ⟨rfl, hi2, μi, sti, ys, vs, ei, si, hHD, rvs, hDi, zs, hgo, hy⟩
      by_cases hlt : i < all.length
      · refine .inr ?_
        obtain ⟨x, hx⟩ : ∃ x, all[i]? = some x := ⟨all[i], by simp [hlt]⟩
        have hdrop : all.drop i = x :: all.drop (i + 1) := by
          rw [List.drop_eq_getElem_cons hlt]
          congr 1
          rw [List.getElem?_eq_getElem hlt] at hx
          exact Option.some.inj hx
        rw [hdrop] at hgo
        unfold lcGo at hgo
        split at hgo
        · rename_i hw
          cases qg : gm x (wipeE env ow) with
          | none => rw [qg] at hgo; cases hgo
          | some env1 =>
            rw [qg] at hgo
            dsimp only at hgo
            cases qt : mt env1 sti with
            | fail => rw [qt] at hgo; cases hgo
            | exc c fs st2 => rw [qt] at hgo; cases hgo
            | ok b st2 =>
              rw [qt] at hgo
              dsimp only [R.bind] at hgo
              refine ⟨hJ.go _ hh μi H2 sti i ei si hw hlt, fun H' => all.length - (i + 1) = all.length - (i + 1) ∧ i + 1 ≤ all.length ∧ ∃ μi sti ys vs, Ext μ1 H1 μi H' ∧ Sim (G.h (D :: G.hid)) μi H' sti ∧ H' D = some (.lst vs) ∧ RpVs G.K (D :: G.hid) μi H' vs ys ∧ D ∉ μi ∧
                ∃ zs, lcGo src all gm mt me (wipeE env ow) (all.drop (i + 1)) sti = .ok zs stN ∧ yall = ys ++ zs, fun H' q => ⟨_, by omega, q⟩, fun v H' y => ?_⟩
              obtain ⟨e2, s2, rv⟩ := hJ.yld _ hh μi H2 sti i v H' ei si hw hlt y
              have rx := rv x hx
              have en' : EnvRp (G.h (D :: G.hid)) μi H' (wipeE env ow) (wipe σ ow) := wipe_env (EnvRp.extH (h := G.hid) (ei.trans e2) hh (en.ext e1)) ow
              refine ⟨D :: G.hid, μi, wipeE env ow, sti, x, env1, s2, en', rx, qg, fun σ2 en2 hl2 hj2 => ⟨?_, ?_⟩⟩
              · rw [wipe_same (vs := ow) hl2 fun j hj => hj2 j fun z => hj (hgs j z), wipe_wipe]
              · refine ⟨D :: G.hid, μi, env1, sti, s2, en2, ?_⟩
                rw [qt]
                intro μ3 H3 e3 s3
                have e23 := e2.trans e3
                cases b with
                | true =>
                  dsimp only at hgo
                  cases qe : me env1 st2 with
                  | fail => rw [qe] at hgo; cases hgo
                  | exc c fs st3 => rw [qe] at hgo; cases hgo
                  | ok y1 st3 =>
                    rw [qe] at hgo
                    have hgo : ((lcGo src all gm mt me (wipeE env ow) (all.drop (i + 1)) st3).bind fun ys st4 => .ok (y1 :: ys) st4) = R.ok zs stN := hgo
                    cases qr : lcGo src all gm mt me (wipeE env ow) (all.drop (i + 1)) st3 with
                    | fail => rw [qr] at hgo; cases hgo
                    | exc c fs st3 => rw [qr] at hgo; cases hgo
                    | ok ws st4 =>
                      rw [qr] at hgo
                      cases hgo
                      refine iteT ⟨D :: G.hid, μ3, env1, st2, s3, en2.ext e3, ?_⟩
                      rw [qe]
                      intro μ4 H4 e4 s4 v4 rv4
                      have e24 := e23.trans e4
                      have hH4 : H4 D = some (.lst vs) := e24.lst D vs hDi hHD
                      have hD4 : D ∉ μ4 := e24.stay hDi (.inl hHD)
                      refine ⟨vs, hH4, ?_, rfl, hlt, μ4, st3, ys ++ [y1], vs ++ [v4], (ei.trans e24).later hD, s4.hidSet hH4 (List.mem_cons_self ..) hD4, upd_same, ?_, hD4, ws, qr, by rw [hy]; simp⟩
                      · have l1 := rvs.length
                        have l2 : yall.length = ys.length + (ws.length + 1) := by rw [hy]; simp
                        omega
                      · exact RpVs.by (carry_hid hH4 (List.mem_cons_self ..)) (RpVs.append (rvs.ext e24) (.cons rv4 .nil))
                | false =>
                  dsimp only at hgo
                  exact iteF ⟨rfl, hlt, μ3, st2, ys, vs, ei.trans e23, s3, e23.lst D vs hDi hHD, rvs.ext e23, e23.stay hDi (.inl hHD), zs, hgo, hy⟩
        · cases hgo
      · have ei2 : i = all.length := by omega
        subst ei2
        rw [List.drop_length] at hgo
        unfold lcGo at hgo
        split at hgo
        · rename_i hw
          cases hgo
          rw [List.append_nil] at hy
          subst hy
          refine .inl ⟨hJ.stop _ hh μi H2 stN ei si hw, ?_⟩
          unfold newLst at q
          cases md with
          | true =>
            dsimp only at q
            rw [if_pos hlen] at q
            cases q
            have e3 : Ext μ1 H1 (μi ++ [D]) H2 := { ei with
              pre := ei.pre.trans ⟨[D], rfl⟩
              fresh := fun a ha hn => by
                rcases List.mem_append.mp ha with ha | ha
                · exact ei.fresh a ha hn
                · rw [List.mem_singleton.mp ha]; exact hD }
            refine h1 (μi ++ [D]) H2 e3 (si.unhideS hDi (fun z => s1.hid D z hD) ⟨vs, hHD, RpVs.over (fun a h => ⟨fun z => ?_, fun z => h.2 (List.mem_cons_of_mem _ z)⟩) ⟨[D], rfl⟩ rvs⟩) _ ⟨D, rfl, ?_⟩
            · rcases List.mem_append.mp z with z | z
              · exact h.1 z
              · exact h.2 (by rw [List.mem_singleton.mp z]; exact List.mem_cons_self ..)
            · have := si.len
              rw [← this]
              simp
          | false =>
            dsimp only at q
            split at q
            · rename_i ds qd
              split at q
              · cases q
                have hnh : D ∉ G.hid := fun z => s1.hid D z hD
                exact h1 μi H2 ei si.unhide _ (.lst hHD ⟨hDi, hnh⟩ (RpL.carry ⟨fun _ _ z => z, fun _ z => z, fun a _ z w => ⟨w, z.1, fun y => z.2 (List.mem_cons_of_mem _ y)⟩, fun a _ z w => ⟨w, z.1, fun y => z.2 (List.mem_cons_of_mem _ y)⟩⟩ _ _ (RpVs.pure (hid := D :: G.hid) rvs qd)))
              · cases q
            · cases q
        · cases hgo
theorem de_lc {elt tg iter : Expr} {ifs : List Expr} {scope : Scope} {own : List (Str × Nat)} {pos : Pos} {mi : IM} {gs : List Nat} {gm : GM} {mt : TM} {me : EM} {md : Bool} (hc : X.calm = true) (hN : X.N.Nodup) (hi : DI X G W tg iter mi) (ok : BlkOk X.N X.env.scope scope own)
    (hg : ∀ (h : List Addr) (s : Shared) (H : Hp) (C : Addr) (cl : List (Str × Addr)) (fp : List Addr), PG (X.blk s H scope (compEnvC scope cl C X.env) fp) tg (RdG (tupT tg) (G.h h) gs gm))
    (ht : ∀ (h : List Addr) (s : Shared) (H : Hp) (C : Addr) (cl : List (Str × Addr)) (fp : List Addr), PTs (X.blk s H scope (compEnvC scope cl C X.env) fp) ifs (RdT (G.h h) WF mt))
    (he : ∀ (h : List Addr) (s : Shared) (H : Hp) (C : Addr) (cl : List (Str × Addr)) (fp : List Addr), PE (X.blk s H scope (compEnvC scope cl C X.env) fp) elt (RdE (G.h h) WF me))
    (hgs : ∀ j ∈ gs, j ∈ own.map (·.2)) (hs : ∀ x, foldedSetIterable iter X.env x = pure x) :
    DE X G W (.ListComp elt [⟨tg, iter, ifs, 0⟩] scope pos) (mComp md (own.map (·.2)) mi gm mt me) :=
  PE.by (pe_lc (g := fun v σ H Q => ∃ h, RdG (tupT tg) (G.h h) gs gm v σ H Q) (tt := fun σ H Q => ∃ h, RdT (G.h h) WF mt σ H Q) (te := fun σ H Q => ∃ h, RdE (G.h h) WF me σ H Q) hc hN hi ok
    (fun s H C cl fp => PG.ex fun h => hg h s H C cl fp) (fun s H C cl fp => PTs.ex fun h => ht h s H C cl fp) (fun s H C cl fp => PE.ex fun h => he h s H C cl fp) hs) (rd_lc hgs)
end
end Sl
end
section
set_option Elab.async false
set_option linter.all false
set_option maxRecDepth 100000
set_option maxHeartbeats 1000000
namespace Sl
open PySem PySem.Spec PyProof.Rows L2
inductive SR where
  | fail | nx (env : Slots) (st : Sto) | rt (v : Val) (st : Sto) | bk (env : Slots) (st : Sto) | ct (env : Slots) (st : Sto) | exc (c : Str) (fs : List (Str × D)) (env : Slots) (st : Sto)
abbrev SM := Slots → Sto → SR
def FinS (G : Grd) (W : WX) (μ0 : List Addr) (H0 : Hp) (μ : List Addr) (H : Hp) (r : SR) (E : Ends) : Prop := match r with
  | .fail => False
  | .nx env st => ∀ μ' H' σ', Ext μ H μ' H' → Sim G μ' H' st → EnvRp G μ' H' env σ' → E.nx σ' H'
  | .rt v st => ∀ μ' H' w, Ext μ0 H0 μ' H' → Sim G μ' H' st → RpV G.K G.hid [] μ' H' w v → E.rt w H'
  | .bk env st => ∀ μ' H' σ', Ext μ H μ' H' → Sim G μ' H' st → EnvRp G μ' H' env σ' → E.bk σ' H'
  | .ct env st => ∀ μ' H' σ', Ext μ H μ' H' → Sim G μ' H' st → EnvRp G μ' H' env σ' → E.ct σ' H'
  | .exc c fs env st => ∀ μ' H' σ' cls d, Ext μ H μ' H' → Sim G μ' H' st → EnvRp G μ' H' env σ' → ExRp G μ' H' c fs cls d → W cls d σ' H'
structure At (G : Grd) (n0 : Nat) (μ0 : List Addr) (H0 : Hp) (μ : List Addr) (H : Hp) (env : Slots) (st : Sto) (σ : L2.St) : Prop where
  n0 : μ0.length = n0
  ext : Ext μ0 H0 μ H
  sim : Sim G μ H st
  env : EnvRp G μ H env σ
def RdS (G : Grd) (W : WX) (n0 : Nat) (m : SM) : TS := fun E σ H => ∃ μ0 H0 μ env st, At G n0 μ0 H0 μ H env st σ ∧ FinS G W μ0 H0 μ H (m env st) E
abbrev DS (X : Cx) (G : Grd) (W : WX) (n0 : Nat) (st : Stmt) (m : SM) : Prop := PS X st (RdS G W n0 m)
abbrev DSs (X : Cx) (G : Grd) (W : WX) (n0 : Nat) (st : List Stmt) (m : SM) : Prop := PSs X st (RdS G W n0 m)
theorem PS.by {X : Cx} {e : Stmt} {t t' : TS} (h : PS X e t) (k : ∀ E σ H, t' E σ H → t E σ H) : PS X e t' := ⟨fun pins s σ H E I q => h.run pins s σ H E I (k E σ H q)⟩
theorem PSs.by {X : Cx} {e : List Stmt} {t t' : TS} (h : PSs X e t) (k : ∀ E σ H, t' E σ H → t E σ H) : PSs X e t' := ⟨fun pins s σ H E I q => h.run pins s σ H E I (k E σ H q)⟩
section
variable {X : Cx} {G : Grd} {W : WX} {n0 : Nat} {μ0 μ μ' : List Addr} {H0 H H' : Hp} {env env' : Slots} {st st' : Sto} {σ σ' : L2.St} {r : SR} {E E' : Ends} {pos : Pos}
theorem FinS.ext (e : Ext μ H μ' H') (h : FinS G W μ0 H0 μ H r E) : FinS G W μ0 H0 μ' H' r E := by
  cases r with
  | fail => exact h
  | nx env st => exact fun μ2 H2 σ2 e2 s2 n2 => h μ2 H2 σ2 (e.trans e2) s2 n2
  | rt v st => exact h
  | bk env st => exact fun μ2 H2 σ2 e2 s2 n2 => h μ2 H2 σ2 (e.trans e2) s2 n2
  | ct env st => exact fun μ2 H2 σ2 e2 s2 n2 => h μ2 H2 σ2 (e.trans e2) s2 n2
  | exc c fs env st => exact fun μ2 H2 σ2 cls d e2 s2 n2 x => h μ2 H2 σ2 cls d (e.trans e2) s2 n2 x
theorem At.go (a : At G n0 μ0 H0 μ H env st σ) (e : Ext μ H μ' H') (s : Sim G μ' H' st') : At G n0 μ0 H0 μ' H' env st' σ := ⟨a.n0, a.ext.trans e, s, a.env.ext e⟩
theorem At.to (a : At G n0 μ0 H0 μ H env st σ) (e : Ext μ H μ' H') (s : Sim G μ' H' st') (n : EnvRp G μ' H' env' σ') : At G n0 μ0 H0 μ' H' env' st' σ' := ⟨a.n0, a.ext.trans e, s, n⟩
def R.then {α : Type} (m : R α) (env : Slots) (k : α → Sto → SR) : SR := match m with
  | .fail => .fail
  | .ok a st => k a st
  | .exc c fs st => .exc c fs env st
theorem FinS.thn {α : Type} {m : R α} {k : α → Sto → SR} (a : At G n0 μ0 H0 μ H env st σ) (h : FinS G W μ0 H0 μ H (m.then env k) E) : Fin G W σ μ H m (fun x st' μ' H' => FinS G W μ0 H0 μ' H' (k x st') E) := by
  cases m with
  | fail => exact h
  | ok x st' => exact fun μ' H' e s => FinS.ext e h
  | exc c fs st' => exact fun μ' H' cls d e s x => h μ' H' σ cls d e s (a.env.ext e) x
def sNil : SM := fun env st => .nx env st
def sSeq (m k : SM) : SM := fun env st => match m env st with
  | .nx env' st' => k env' st'
  | r => r
theorem dss_nil : DSs X G W n0 [] sNil := PSs.by pss_nil fun E σ H ⟨μ0, H0, μ, env, st, a, f⟩ => f μ H σ Ext.refl a.sim a.env
theorem FinS.seq {k : SM} (a : At G n0 μ0 H0 μ H env st σ) (h : FinS G W μ0 H0 μ H (match r with | .nx env' st' => k env' st' | r => r) E) : FinS G W μ0 H0 μ H r { E with nx := RdS G W n0 k E } := by
  cases r with
  | nx env' st' => exact fun μ' H' σ' e s n => ⟨μ0, H0, μ', env', st', a.to e s n, FinS.ext e h⟩
  | _ => exact h
theorem dss_cons {s : Stmt} {ss : List Stmt} {m k : SM} (h : DS X G W n0 s m) (hs : DSs X G W n0 ss k) : DSs X G W n0 (s :: ss) (sSeq m k) :=
  PSs.by (pss_cons h hs) fun E σ H ⟨μ0, H0, μ, env, st, a, f⟩ => ⟨μ0, H0, μ, env, st, a, FinS.seq a f⟩
def sBrk : SM := fun env st => .bk env st
def sCt : SM := fun env st => .ct env st
theorem ds_break : DS X G W n0 (.Break pos) sBrk := PS.by ps_break fun E σ H ⟨μ0, H0, μ, env, st, a, f⟩ => f μ H σ Ext.refl a.sim a.env
def sExpr (m : EM) : SM := fun env st => (m env st).then env fun _ st' => .nx env st'
def notComp : Expr → Bool
  | .ListComp _ _ _ _ => false
  | .SetComp _ _ _ _ => false
  | .DictComp _ _ _ _ _ => false
  | _ => true
theorem swaps_none {e : Expr} (h : notComp e = true) (t : Option Expr) (l : Nat) (env : Env) : swapsWith e t l env = pure false := by
  cases e <;> first | rfl | cases h
theorem ds_expr {e : Expr} {m : EM} (h : DE X G W e m) (hn : notComp e = true) : DS X G W n0 (.Expr e pos) (sExpr m) :=
  PS.by (ps_expr h (swaps_none hn none pos.line X.env)) fun E σ H ⟨μ0, H0, μ, env, st, a, f⟩ => ⟨μ, env, st, a.sim, a.env, (FinS.thn a f).mono fun x st1 μ1 H1 e1 s1 h1 v rv => h1 μ1 H1 σ Ext.refl s1 (a.env.ext e1)⟩
def sAsg (m : EM) (gm : GM) : SM := fun env st => (m env st).then env fun x st' => match gm x env with
  | some env' => .nx env' st'
  | none => .fail
theorem tAsg_name {m : EM} {i : Nat} {E : Ends} {σ : L2.St} {H : Hp} (h : RdS G W n0 (sAsg m (gN i)) E σ H) : tAsg (RdE G W m) (gName i) E σ H := by
  obtain ⟨μ0, H0, μ, env, st, a, f⟩ := h
  refine ⟨μ, env, st, a.sim, a.env, (FinS.thn a f).mono fun x st1 μ1 H1 e1 s1 h1 v rv => ?_⟩
  exact h1 μ1 H1 _ Ext.refl s1 ((a.env.ext e1).set rv)
theorem ds_set {i : Nat} {x : Str} {e : Expr} {m : EM} {p : Pos} (hN : X.N.Nodup) (hi : X.N[i]? = some x) (hx : Loc X.env.scope x) (hf : X.fn x = true ∨ X.env.scope.names.lookup x = some .local) (h : DE X G W e m) (hn : notComp e = true) :
    DS X G W n0 (.Assign [.Name x p] e pos) (sAsg m (gN i)) :=
  PS.by (ps_set hN hi hx h (swaps_none hn _ _ _) hf) fun E σ H q => tAsg_name q
theorem ds_setLc {i : Nat} {x : Str} {px : Pos} {elt tg iter : Expr} {ifs : List Expr} {scope : Scope} {own : List (Str × Nat)} {spos : Pos} {mi : IM} {gs : List Nat} {gm : GM} {mt : TM} {me : EM} {md : Bool} (hc : X.calm = true) (hN : X.N.Nodup) (hy : X.N[i]? = some x) (hyl : X.env.scope.names.lookup x = some .local)
    (hsw : swapsWith (.ListComp elt [⟨tg, iter, ifs, 0⟩] scope pos) (some (.Name x px)) spos.line X.env = pure true) (hi : DI X G W tg iter mi) (ok : BlkOk X.N X.env.scope scope own)
    (hg : ∀ (h : List Addr) (s : Shared) (H : Hp) (C : Addr) (cl : List (Str × Addr)) (fp : List Addr), PG (X.blk s H scope (compEnvC scope cl C X.env) fp) tg (RdG (tupT tg) (G.h h) gs gm))
    (ht : ∀ (h : List Addr) (s : Shared) (H : Hp) (C : Addr) (cl : List (Str × Addr)) (fp : List Addr), PTs (X.blk s H scope (compEnvC scope cl C X.env) fp) ifs (RdT (G.h h) WF mt))
    (he : ∀ (h : List Addr) (s : Shared) (H : Hp) (C : Addr) (cl : List (Str × Addr)) (fp : List Addr), PE (X.blk s H scope (compEnvC scope cl C X.env) fp) elt (RdE (G.h h) WF me))
    (hgs : ∀ j ∈ gs, j ∈ own.map (·.2)) (hs : ∀ x, foldedSetIterable iter X.env x = pure x) :
    DS X G W n0 (.Assign [.Name x px] (.ListComp elt [⟨tg, iter, ifs, 0⟩] scope pos) spos) (sAsg (mComp md (own.map (·.2)) mi gm mt me) (gN i)) :=
  PS.by (ps_setLc (g := fun v σ H Q => ∃ h, RdG (tupT tg) (G.h h) gs gm v σ H Q) (tt := fun σ H Q => ∃ h, RdT (G.h h) WF mt σ H Q) (te := fun σ H Q => ∃ h, RdE (G.h h) WF me σ H Q) hc hN hy hyl hsw hi ok
    (fun s H C cl fp => PG.ex fun h => hg h s H C cl fp) (fun s H C cl fp => PTs.ex fun h => ht h s H C cl fp) (fun s H C cl fp => PE.ex fun h => he h s H C cl fp) hs) fun E σ H q => rd_lc hgs σ H _ (tAsg_name q)
def sIf (t : TM) (m k : SM) : SM := fun env st => (t env st).then env fun b st' => match b with
  | true => m env st'
  | false => k env st'
theorem ds_if {c : Expr} {a b : List Stmt} {t : TM} {m k : SM} (hc : DT X G W c t) (ha : DSs X G W n0 a m) (hb : DSs X G W n0 b k) : DS X G W n0 (.If c a b pos) (sIf t m k) :=
  PS.by (ps_if hc ha hb) fun E σ H ⟨μ0, H0, μ, env, st, at_, f⟩ => ⟨μ, env, st, at_.sim, at_.env, (FinS.thn at_ f).mono fun x st1 μ1 H1 e1 s1 h1 => by
    cases x with
    | true => exact iteT ⟨μ0, H0, μ1, env, st1, at_.go e1 s1, h1⟩
    | false => exact iteF ⟨μ0, H0, μ1, env, st1, at_.go e1 s1, h1⟩⟩
def sRetK (m : EM) : SM := fun env st => (m env st).then env fun x st' => .rt x st'
mutual
def closedV (n0 : Nat) : Val → Bool
  | .p _ => true
  | .r l => decide (l < n0)
  | .x _ _ => false
end
def closedO (n0 : Nat) : SObj → Bool
  | .lst vs => vs.all (closedV n0)
  | .dct _ vs => vs.all (closedV n0)
  | .ldct _ vs => vs.all (closedV n0)
  | .ins _ fs => fs.all fun p => closedV n0 p.2
  | .scr _ => true
mutual
def frzV (n0 : Nat) (st : Sto) : Nat → Val → Option D
  | _, .p d => some d
  | 0, _ => none
  | n + 1, .r l => if l < n0 then none else match st[l]? with
    | some (.lst vs) => match frzL n0 st n vs with
      | some ds => some (.lst ds)
      | none => none
    | some (.dct ks vs) => match frzL n0 st n vs with
      | some ds => some (.dct ks ds)
      | none => none
    | _ => none
  | _, .x _ _ => none
def frzL (n0 : Nat) (st : Sto) : Nat → List Val → Option (List D)
  | _, [] => some []
  | n, v :: vs => match frzV n0 st n v, frzL n0 st n vs with
    | some d, some ds => some (d :: ds)
    | _, _ => none
end
def frzS (n0 : Nat) (st : Sto) : Option Val → Option Val
  | some (.p d) => some (.p d)
  | some (.r l) => if l < n0 then some (.r l) else match frzV n0 st 4 (.r l) with
    | some d => some (.p d)
    | none => none
  | _ => none
def settle (n0 : Nat) (env : Slots) (st : Sto) : Option (Slots × Sto) :=
  if st.length = n0 then some (env, st) else if (st.take n0).all (closedO n0) = true then some (env.map (frzS n0 st), st.take n0) else none
def sRet (n0 : Nat) (m : EM) : SM := fun env st => if st.length = n0 then sRetK m env st else match settle n0 env st with
  | some (env', st') => (match m env' st' with
    | .ok x st2 => .rt x st2
    | _ => .fail)
  | none => .fail
mutual
theorem frzV_sem {K : Frag} (s : Sim G μ H st) : ∀ (n : Nat) (x : Val) (v : V) (d : D), RpV G.K G.hid [] μ H v x → frzV n0 st n x = some d → Rp G.K (Fz G.hid (μ.take n0)) H v d
  | n, .p d', v, d, r, e => by
    have e' : d' = d := by cases n <;> (simp only [frzV] at e; exact Option.some.inj e)
    subst e'
    exact Rp.over (fun a h => ⟨fun z => h.1 (List.mem_of_mem_take z), h.2⟩) r
  | 0, .r l, v, d, r, e => by simp [frzV] at e
  | n + 1, .r l, v, d, r, e => by
    obtain ⟨a, rfl, ha⟩ := r
    have hnt : ¬ l < n0 → a ∉ μ.take n0 := fun hl z => by
      obtain ⟨j, hj, ej⟩ := List.getElem_of_mem z
      have hj' : j < n0 := by simp at hj; omega
      have hjm : j < μ.length := by simp at hj; omega
      have e1 : μ[j]? = some a := by
        rw [List.getElem_take] at ej
        simp [hjm, ej]
      have := nodup_at s.nd e1 ha
      omega
    have hnh : a ∉ G.hid := fun z => s.dis a z (List.mem_of_getElem? ha)
    simp only [frzV] at e
    split at e
    · cases e
    · rename_i hl
      split at e
      · rename_i vs q
        split at e
        · rename_i ds qd
          cases e
          obtain ⟨xs, h1, h2⟩ := s.obj _ _ _ ha q
          exact .lst h1 ⟨hnt hl, hnh⟩ (frzL_sem (K := K) s n vs xs ds h2 qd)
        · cases e
      · rename_i ks vs q
        split at e
        · rename_i ds qd
          cases e
          obtain ⟨kvs, h1, h2, h3⟩ := s.obj _ _ _ ha q
          exact .dct (.inl h1) ⟨hnt hl, hnh⟩ h2 (frzL_sem (K := K) s n vs _ ds h3 qd)
        · cases e
      · cases e
  | 0, .x c fs, v, d, r, e => by simp [frzV] at e
  | n + 1, .x c fs, v, d, r, e => by simp [frzV] at e
theorem frzL_sem {K : Frag} (s : Sim G μ H st) : ∀ (n : Nat) (xs : List Val) (vs : List V) (ds : List D), RpVs G.K G.hid μ H vs xs → frzL n0 st n xs = some ds → RpL G.K (Fz G.hid (μ.take n0)) H vs ds
  | n, [], _, ds, r, e => by
    cases r
    have e' : [] = ds := by cases n <;> (simp only [frzL] at e; exact Option.some.inj e)
    subst e'
    exact .nil
  | n, x :: xs, _, ds, r, e => by
    cases r with
    | cons r1 r2 =>
      rename_i v vs
      have e' : (match frzV n0 st n x, frzL n0 st n xs with | some d, some ds => some (d :: ds) | _, _ => none) = some ds := by
        cases n <;> (simp only [frzL] at e; exact e)
      split at e'
      · rename_i d ds' q1 q2
        cases e'
        exact .cons (frzV_sem (K := K) s n x v d r1 q1) (frzL_sem (K := K) s n xs vs ds' r2 q2)
      · cases e'
end
theorem closedV_sem {n : Nat} {v : V} : ∀ {x : Val}, closedV n x = true → RpV G.K G.hid [] μ H v x → RpV G.K G.hid [] (μ.take n) H v x
  | .p d, _, r => Rp.over (fun a h => ⟨fun z => h.1 (List.mem_of_mem_take z), h.2⟩) r
  | .r l, c, ⟨a, h1, h2⟩ => ⟨a, h1, by
    have hl : l < n := by simpa [closedV] using c
    rw [List.getElem?_take]
    simp [hl, h2]⟩
  | .x _ _, c, _ => by simp [closedV] at c
theorem closedVs_sem {n : Nat} : ∀ {vs : List V} {xs : List Val}, xs.all (closedV n) = true → RpVs G.K G.hid μ H vs xs → RpVs G.K G.hid (μ.take n) H vs xs
  | _, _, _, .nil => .nil
  | _, _, c, .cons r t => by
    simp only [List.all_cons, Bool.and_eq_true] at c
    exact .cons (closedV_sem c.1 r) (closedVs_sem c.2 t)
theorem Sim.cut {n : Nat} (s : Sim G μ H st) (c : (st.take n).all (closedO n) = true) : Sim G (μ.take n) H (st.take n) where
  len := by simp [s.len]
  nd := s.nd.sublist (List.take_sublist _ _)
  hid := s.hid
  dis := fun a h z => s.dis a h (List.mem_of_mem_take z)
  obj := fun l a o h1 h2 => by
    have hc := List.all_eq_true.mp c o (List.mem_of_getElem? h2)
    have h1' : μ[l]? = some a := by
      rw [List.getElem?_take] at h1
      split at h1
      · exact h1
      · cases h1
    have h2' : st[l]? = some o := by
      rw [List.getElem?_take] at h2
      split at h2
      · exact h2
      · cases h2
    have k := s.obj l a o h1' h2'
    cases o with
    | lst vs => obtain ⟨xs, k1, k2⟩ := k; exact ⟨xs, k1, closedVs_sem hc k2⟩
    | dct ks vs => obtain ⟨kvs, k1, k2, k3⟩ := k; exact ⟨kvs, k1, k2, closedVs_sem hc k3⟩
    | ldct ks vs => obtain ⟨o, kvs, k1, k2, k3⟩ := k; exact ⟨o, kvs, k1, k2, closedVs_sem hc k3⟩
    | ins cc fs =>
      obtain ⟨C, dx, fvs, k0, k1, k2, k3⟩ := k
      refine ⟨C, dx, fvs, k0, k1, k2, closedVs_sem ?_ k3⟩
      have hc' : fs.all (fun p => closedV n p.2) = true := hc
      rw [List.all_map]
      exact hc'
    | scr ns => exact k
theorem Ext.base (e : Ext μ0 H0 μ H) : Ext μ0 H0 μ0 H := ⟨⟨List.prefix_refl _, e.tup, e.pl, e.lst, e.dcx, e.xd, fun a h n => absurd h n, e.on⟩, e.fz⟩
theorem settle_sem (a : At G n0 μ0 H0 μ H env st σ) (e : settle n0 env st = some (env', st')) : ∃ μ', Ext μ0 H0 μ' H ∧ Sim G μ' H st' ∧ EnvRp G μ' H env' σ := by
  unfold settle at e
  split at e
  · cases e
    exact ⟨μ, a.ext, a.sim, a.env⟩
  · split at e
    · rename_i hc
      cases e
      have em : μ.take n0 = μ0 := by
        obtain ⟨t, ht⟩ := a.ext.pre
        rw [← ht, ← a.n0]
        simp
      refine ⟨μ.take n0, by rw [em]; exact a.ext.base, a.sim.cut hc, ⟨by rw [List.length_map]; exact a.env.len, fun i x q => ?_⟩⟩
      rw [List.getElem?_map] at q
      obtain ⟨o, ho, hf⟩ := Option.map_eq_some_iff.mp q
      cases o with
      | none => simp [frzS] at hf
      | some y =>
        obtain ⟨v, h1, h2⟩ := a.env.at_ i y ho
        refine ⟨v, h1, ?_⟩
        cases y with
        | p d =>
          simp only [frzS, Option.some.injEq] at hf
          subst hf
          exact Rp.over (fun a h => ⟨fun z => h.1 (List.mem_of_mem_take z), h.2⟩) h2
        | r l =>
          simp only [frzS] at hf
          split at hf
          · rename_i hl
            cases hf
            exact closedV_sem (G := G) (H := H) (x := .r l) (by simpa [closedV] using hl) h2
          · split at hf
            · rename_i d qd
              cases hf
              exact frzV_sem (K := G.K) a.sim 4 (.r l) v d h2 qd
            · cases hf
        | x c fs => simp [frzS] at hf
    · cases e
theorem ds_ret {e : Expr} {m : EM} (h : DE X G W e m) : DS X G W n0 (.Return (some e) pos) (sRet n0 m) :=
  PS.by (ps_ret h) fun E σ H ⟨μ0, H0, μ, env, st, a, f⟩ => by
    unfold sRet at f
    split at f
    · exact ⟨μ, env, st, a.sim, a.env, (FinS.thn a f).mono fun x st1 μ1 H1 e1 s1 h1 v rv => h1 μ1 H1 v (a.ext.trans e1) s1 rv⟩
    · cases q : settle n0 env st with
      | none => rw [q] at f; exact f.elim
      | some p =>
        obtain ⟨env', st'⟩ := p
        rw [q] at f
        obtain ⟨μ', e', s', n'⟩ := settle_sem a q
        refine ⟨μ', env', st', s', n', ?_⟩
        have f : FinS G W μ0 H0 μ H (match m env' st' with | .ok x st2 => .rt x st2 | _ => .fail) E := f
        cases qm : m env' st' with
        | fail => rw [qm] at f; exact f.elim
        | ok x st2 =>
          rw [qm] at f
          exact fun μ2 H2 e2 s2 v rv => f μ2 H2 v (e'.trans e2) s2 rv
        | exc c fs st2 => rw [qm] at f; exact f.elim
end
end Sl
end
section
set_option Elab.async false
set_option linter.all false
set_option maxRecDepth 100000
set_option maxHeartbeats 1000000
namespace Sl
open PySem PySem.Spec PyProof.Rows L2
def forGo (src : Option Src) (all : List Val) (gm : GM) (mb : SM) : List Val → SM
  | [], env, st => if watch st src all = true then .nx env st else .fail
  | x :: rest, env, st => if watch st src all = true then match gm x env with
    | none => .fail
    | some env1 => match mb env1 st with
      | .nx env2 st2 => forGo src all gm mb rest env2 st2
      | .ct env2 st2 => forGo src all gm mb rest env2 st2
      | .bk env2 st2 => .nx env2 st2
      | r => r
    else .fail
def sFor (mi : IM) (gm : GM) (mb : SM) : SM := fun env st => (mi env st).then env fun p st1 => forGo p.2 p.1 gm mb p.1 env st1
section
variable {X : Cx} {G : Grd} {W : WX} {n0 : Nat} {pos : Pos}
theorem ds_for {tg iter : Expr} {body : List Stmt} {mi : IM} {gs : List Nat} {gm : GM} {mb : SM} (hp : PassesOwn (model X.prog X.w) X.A X.env X.xe) (hc : X.calm = true) (hi : DI X G W tg iter mi) (hg : PG X tg (RdG (tupT tg) G gs gm)) (hb : DSs X G W n0 body mb)
    (hs : ∀ x, foldedSetIterable iter X.env x = pure x) : DS X G W n0 (.For tg iter body [] pos) (sFor mi gm mb) := by
  refine PS.by (ps_for hp hc hi hg hb hs) ?_
  rintro D σ H ⟨μ0, H0, μ, env, st, at0, f⟩
  refine ⟨μ, env, st, at0.sim, at0.env, (FinS.thn at0 f).mono fun p st1 μ1 H1 e1 s1 h1 J hJ => ?_⟩
  obtain ⟨all, src⟩ := p
  dsimp only at h1 hJ
  have hh : ∀ a ∈ G.hid, a ∈ G.hid ∨ H1 a = none := fun a ha => .inl ha
  refine ⟨fun i m σ H => m = all.length - i ∧ i ≤ all.length ∧ ∃ μi env st, Ext μ1 H1 μi H ∧ At G n0 μ0 H0 μi H env st σ ∧ FinS G W μ0 H0 μi H (forGo src all gm mb (all.drop i) env st) D,
    ⟨all.length, by simp, Nat.zero_le _, μ1, env, st1, Ext.refl, at0.go e1 s1, by rw [List.drop_zero]; exact h1⟩, ?_⟩
  rintro i m σ2 H2 ⟨rfl, hi2, μi, envi, sti, ei, ati, fi⟩
  by_cases hlt : i < all.length
  · refine .inr ?_
    obtain ⟨x, hx⟩ : ∃ x, all[i]? = some x := ⟨all[i], by simp [hlt]⟩
    have hdrop : all.drop i = x :: all.drop (i + 1) := by
      rw [List.drop_eq_getElem_cons hlt]
      congr 1
      rw [List.getElem?_eq_getElem hlt] at hx
      exact Option.some.inj hx
    rw [hdrop] at fi
    unfold forGo at fi
    split at fi
    · rename_i hw
      cases qg : gm x envi with
      | none => rw [qg] at fi; exact fi.elim
      | some env1 =>
        rw [qg] at fi
        dsimp only at fi
        refine ⟨hJ.go _ hh μi H2 sti i ei ati.sim hw hlt, fun σ' H' => all.length - (i + 1) = all.length - (i + 1) ∧ i + 1 ≤ all.length ∧ ∃ μi env st, Ext μ1 H1 μi H' ∧ At G n0 μ0 H0 μi H' env st σ' ∧ FinS G W μ0 H0 μi H' (forGo src all gm mb (all.drop (i + 1)) env st) D, fun σ' H' q => ⟨_, by omega, q⟩, fun v H' y => ?_⟩
        obtain ⟨e2, s2, rv⟩ := hJ.yld _ hh μi H2 sti i v H' ei ati.sim hw hlt y
        refine ⟨μi, envi, sti, x, env1, s2, ati.env.ext e2, rv x hx, qg, fun σ3 en3 _ _ => ?_⟩
        refine ⟨μ0, H0, μi, env1, sti, ati.to e2 s2 en3, ?_⟩
        have fi := FinS.ext e2 fi
        cases qb : mb env1 sti with
        | fail => rw [qb] at fi; exact fi
        | nx env2 st2 =>
          rw [qb] at fi
          intro μ3 H3 σ3' e3 s3 n3
          exact ⟨rfl, hlt, μ3, env2, st2, (ei.trans e2).trans e3, (ati.to e2 s2 en3).to e3 s3 n3, FinS.ext e3 fi⟩
        | ct env2 st2 =>
          rw [qb] at fi
          intro μ3 H3 σ3' e3 s3 n3
          exact ⟨rfl, hlt, μ3, env2, st2, (ei.trans e2).trans e3, (ati.to e2 s2 en3).to e3 s3 n3, FinS.ext e3 fi⟩
        | rt v st2 => rw [qb] at fi; exact fi
        | bk env2 st2 => rw [qb] at fi; exact fi
        | exc c fs env2 st2 => rw [qb] at fi; exact fi
    · exact fi.elim
  · have hie : i = all.length := by omega
    subst hie
    rw [List.drop_length] at fi
    unfold forGo at fi
    split at fi
    · rename_i hw
      exact .inl ⟨hJ.stop _ hh μi H2 sti ei ati.sim hw, fi μi H2 σ2 Ext.refl ati.sim ati.env⟩
    · exact fi.elim
end
end Sl
end
section
set_option Elab.async false
set_option linter.all false
set_option maxRecDepth 100000
set_option maxHeartbeats 1000000
namespace Sl
open PySem PySem.Spec PyProof.Rows L2
def cutSt (n0 : Nat) (st : Sto) : Option Sto := if st.length = n0 then some st else if (st.take n0).all (closedO n0) = true then some (st.take n0) else none
def bodyF (k : Nat) (m : Nat → SM) : FS := fun xs st => match m st.length (xs.map some ++ List.replicate (k - xs.length) none) st with
  | .nx _ st' => (match cutSt st.length st' with
    | some s => .ok (.p .non) s
    | none => .fail)
  | .rt v st' => .ok v st'
  | .exc c fs _ st' => .exc c fs ((cutSt st.length st').getD st')
  | _ => .fail
section
variable {G : Grd} {W : WX} {n0 : Nat} {μ0 μ μ' : List Addr} {H0 H H' : Hp} {st st' : Sto}
theorem cut_sem (ln : μ0.length = n0) (e0 : Ext μ0 H0 μ H) (s : Sim G μ H st) (e : cutSt n0 st = some st') : ∃ μ', Ext μ0 H0 μ' H ∧ Sim G μ' H st' ∧ (∀ a, Fz G.hid μ a → Fz G.hid μ' a) := by
  unfold cutSt at e
  split at e
  · cases e
    exact ⟨μ, e0, s, fun a h => h⟩
  · split at e
    · rename_i hc
      cases e
      have em : μ.take n0 = μ0 := by
        obtain ⟨t, ht⟩ := e0.pre
        rw [← ht, ← ln]
        simp
      exact ⟨μ.take n0, by rw [em]; exact e0.base, s.cut hc, fun a h => ⟨fun z => h.1 (List.mem_of_mem_take z), h.2⟩⟩
    · cases e
theorem ExRp.over {c : Str} {fs : List (Str × D)} {cls : Value} {d : Option Addr} (k : ∀ a, Fz G.hid μ a → Fz G.hid μ' a) (h : ExRp G μ H c fs cls d) : ExRp G μ' H c fs cls d := by
  obtain ⟨C, dx, fvs, h1, h2, h3, h4, h5, h6⟩ := h
  exact ⟨C, dx, fvs, h1, h2, h3, h4, h5, RpL.carry ⟨fun _ _ q => q, fun _ q => q, fun a _ q r => ⟨r, k a q⟩, fun a _ q r => ⟨r, k a q⟩⟩ _ _ h6⟩
theorem args_env {vs : List V} {xs : List Val} {N : List Str} (r : RpVs G.K G.hid μ H vs xs) : EnvRp G μ H (xs.map some ++ List.replicate (N.length - xs.length) none) (L2.start N vs) := by
  have hl := r.length
  unfold L2.start
  refine ⟨by simp [hl], fun i x e => ?_⟩
  by_cases hi : i < xs.length
  · rw [List.getElem?_append_left (by simpa using hi), List.getElem?_map] at e
    obtain ⟨y, hy, ey⟩ := Option.map_eq_some_iff.mp e
    cases ey
    obtain ⟨v, h1, h2⟩ := r.get hy
    refine ⟨v, by rw [List.getElem?_append_left (by simp; omega), List.getElem?_map, h1]; rfl, ?_⟩
    cases x with
    | p d => exact h2
    | r l => exact h2
    | x c fs => obtain ⟨_, _, _, _, h3, _⟩ := h2; exact nomatch h3
  · rw [List.getElem?_append_right (by simpa using hi)] at e
    rw [List.getElem?_replicate] at e
    split at e <;> cases e
end
structure FC where
  P : Program
  w : World
  K : Frag
  mg : Str → Option Value
  base : Heap
  f : Addr
  cdv : Value
  A : Around
  outer : List Env
  s : Shared
  H : Hp
  E : XK
@[reducible] def FC.X (c : FC) (N : List Str) (qual : Str) (scope : Scope) : Cx := cxOf (L2.CX c.P c.w) c.P c.w c.K c.mg c.base N qual scope c.f c.cdv c.A c.outer c.s c.H c.E
@[reducible] def FC.W (c : FC) : WX := fun cls d _ H => c.E cls d H
theorem FC.tk (c : FC) (N : List Str) (qual : Str) (scope : Scope) : Takes (c.X N qual scope) c.W :=
  takes_of (X := c.X N qual scope) (E := c.E) rfl rfl rfl (E₁ := fun e s'' => L2.CX c.P c.w c.outer c.H c.s c.E e s'') rfl
theorem FC.own (c : FC) (N : List Str) (qual : Str) (scope : Scope) : PassesOwn (model (c.X N qual scope).prog (c.X N qual scope).w) (c.X N qual scope).A (c.X N qual scope).env (c.X N qual scope).xe :=
  passes_of (X := c.X N qual scope) (K := fun e s'' => L2.CX c.P c.w c.outer c.H c.s c.E e s'') (E₁ := fun e s'' => L2.CX c.P c.w c.outer c.H c.s c.E e s'') rfl
theorem fn_ok {P : Program} {w : World} {K : Frag} {mg : Str → Option Value} {base : Heap} {x qual : Str} {params : Arguments} {body : List Stmt} {scope : Scope} {dvs : List V} {kws : List (Str × V)} {f : Addr} {fd : FuncData} {N ps : List Str} {k : Nat} {G : Grd} {m : Nat → SM}
    (F : FunD K x qual params body scope dvs kws f fd) (S : FnScope N ps scope)
    (hb : ∀ (cdv : Value) (A : Around) (outer : List Env) (s : Shared) (H : Hp) (E : XK) (n0 : Nat), Room k (A.deeper (envOfC qual scope s.heap.objs.size f cdv)) →
      DSs ((FC.mk P w K mg base f cdv A outer s H E).X N qual scope) G (FC.mk P w K mg base f cdv A outer s H E).W n0 body (m n0)) :
    FnOk P w K mg base (L2.CX P w) (k + 1) f fd ps (spF G ps.length (bodyF N.length m)) := by
  refine F.ok S (fun vs H Q E h => ?_) fun cdv A outer s H vs Q E hr h => ?_
  · obtain ⟨μ, st, xs, _, r, hl, _⟩ := h
    rw [r.length, hl]
  · obtain ⟨μ, st, xs, si, r, hl, f⟩ := h
    refine ⟨_, hb cdv A outer s H E μ.length hr, μ, H, μ, xs.map some ++ List.replicate (N.length - xs.length) none, st, ⟨rfl, Ext.refl, si, args_env r⟩, ?_⟩
    rw [si.len]
    unfold bodyF at f
    revert f
    generalize m st.length (xs.map some ++ List.replicate (N.length - xs.length) none) st = res
    intro f
    cases res with
    | fail => exact f
    | nx env' st' =>
      intro μ' H' σ' e' s' n'
      dsimp only at f
      cases q : cutSt st.length st' with
      | none => rw [q] at f; exact f.elim
      | some st2 =>
        rw [q] at f
        obtain ⟨μ2, e2, s2, _⟩ := cut_sem si.len e' s' q
        exact f μ2 H' e2 s2 .non .non
    | rt v st' => exact fun μ' H' u e' s' rv => f μ' H' e' s' u rv
    | bk env' st' => exact f.elim
    | ct env' st' => exact f.elim
    | exc c fs env' st' =>
      intro μ' H' σ' cls d e' s' n' x'
      dsimp only at f
      cases q : cutSt st.length st' with
      | none => rw [q] at f; exact f μ' H' cls d e' s' x'
      | some st2 =>
        rw [q] at f
        obtain ⟨μ2, e2, s2, k2⟩ := cut_sem si.len e' s' q
        exact f μ2 H' cls d e2 s2 (x'.over k2)
end Sl
end
section
set_option Elab.async false
set_option linter.all false
set_option maxRecDepth 100000
set_option maxHeartbeats 1000000
namespace Sl
open PySem PySem.Spec PyProof.Rows L2
section
variable {X : Cx} {G : Grd} {W : WX} {μ : List Addr} {H : Hp} {st : Sto} {pos : Pos} {n0 : Nat}
theorem ObjRp.no_tup {cls : Str → Option Addr} {K : Frag} {hid : List Addr} {a : Addr} {o : SObj} {vs : List V} (h : ObjRp cls K hid μ H a o) : ¬ Rd H a (.tup vs) := by
  rintro (q | ⟨oo, q⟩) <;> cases o
  all_goals (first
    | (obtain ⟨xs, h1, _⟩ := h; rw [h1] at q; cases q)
    | (obtain ⟨o2, xs, h1, _⟩ := h; rw [h1] at q; cases q)
    | (obtain ⟨C, dx, fvs, _, h1, _⟩ := h; rw [h1] at q; cases q)
    | (obtain ⟨o2, h1⟩ := h; rw [h1] at q; cases q))
theorem objRp_no_xd {cls : Str → Option Addr} {K : Frag} {hid : List Addr} {a : Addr} {o : SObj} {fvs : List (Str × V)} (h : ObjRp cls K hid μ H a o) : H a ≠ some (HO.xd fvs) := by
  intro q
  cases o
  all_goals (first
    | (obtain ⟨xs, h1, _⟩ := h; rw [h1] at q; cases q)
    | (obtain ⟨o2, xs, h1, _⟩ := h; rw [h1] at q; cases q)
    | (obtain ⟨C, dx, fvs, _, h1, _⟩ := h; rw [h1] at q; cases q)
    | (obtain ⟨o2, h1⟩ := h; rw [h1] at q; cases q))
theorem Ext0.put {l : Nat} {a : Addr} {u : HO} (s : Sim G μ H st) (hl : μ[l]? = some a) : Ext0 μ H μ (L2.upd H a u) := by
  have hlt : l < st.length := by rw [← s.len]; exact (List.getElem?_eq_some_iff.mp hl).1
  have ho : ObjRp G.cls G.K G.hid μ H a st[l] := s.obj l a st[l] hl (by simp [hlt])
  have hm : a ∈ μ := List.mem_of_getElem? hl
  refine ⟨List.prefix_refl _, fun b vs q => ?_, fun b ⟨o, vs, q, hd⟩ => ⟨o, vs, by rw [upd_ne fun z => ho.no_tup (vs := vs) (by rw [← z]; exact .inr ⟨o, q⟩)]; exact q, hd⟩, fun b vs hb q => ?_, fun b kvs hb q => ?_, fun b fvs q => ?_, fun b h n => absurd h n, fun b q => ?_⟩
  · have nb : b ≠ a := fun z => ho.no_tup (by rw [← z]; exact q)
    unfold Rd at q ⊢
    rw [upd_ne nb]; exact q
  · rw [upd_ne fun z => hb (by rw [z]; exact hm)]; exact q
  · exact upd_ne fun z => hb (by rw [z]; exact hm)
  · rw [upd_ne fun z => objRp_no_xd ho (by rw [← z]; exact q)]; exact q
  · by_cases z : b = a
    · rw [z, upd_same]; exact fun z => nomatch z
    · rw [upd_ne z]; exact q
theorem Ext.put {l : Nat} {a : Addr} {u : HO} (s : Sim G μ H st) (hl : μ[l]? = some a) (nf : ∀ o v, H a ≠ some (.frz o v)) : Ext μ H μ (L2.upd H a u) :=
  ⟨Ext0.put s hl, fun b o v q => by rw [upd_ne fun z => nf o v (by rw [← z]; exact q)]; exact q⟩
theorem Sim.putL {l : Nat} {a : Addr} {xs : List V} {ys : List Val} (s : Sim G μ H st) (hl : μ[l]? = some a) (r : RpVs G.K G.hid μ H xs ys) : Sim G μ (L2.upd H a (.lst xs)) (st.set l (.lst ys)) :=
  s.upd0 hl (Ext0.put s hl) ⟨xs, upd_same, RpVs.ext0 (Ext0.put s hl) r⟩
theorem RpVs.set {K : Frag} {hid : List Addr} {v : V} {x : Val} (r : RpV K hid [] μ H v x) : ∀ {vs : List V} {xs : List Val} (n : Nat), RpVs K hid μ H vs xs → RpVs K hid μ H (vs.set n v) (xs.set n x)
  | _, _, _, .nil => .nil
  | _, _, 0, .cons _ t => .cons r t
  | _, _, n + 1, .cons q t => .cons q (RpVs.set r n t)
theorem RpVs.dropLast {K : Frag} {hid : List Addr} : ∀ {vs : List V} {xs : List Val}, RpVs K hid μ H vs xs → RpVs K hid μ H vs.dropLast xs.dropLast
  | _, _, .nil => .nil
  | _, _, .cons q .nil => .nil
  | _, _, .cons q (.cons q2 t) => .cons q (RpVs.dropLast (.cons q2 t))
def setSub (o i v : Val) (st : Sto) : Option Sto := match o, i with
  | .r l, .p (.int k) => (match st[l]? with
    | some (.lst vs) => (match ixN vs.length k with
      | some j => some (st.set l (.lst (vs.set j v)))
      | none => none)
    | _ => none)
  | _, _ => none
def sSub (mo mi m : EM) : SM := fun env st => (m env st).then env fun v st1 => (mo env st1).then env fun o st2 => (mi env st2).then env fun i st3 => match setSub o i v st3 with
  | some st4 => .nx env st4
  | none => .fail
theorem setSub_sem {o i x : Val} {ov iv v : V} {st' : Sto} {Q : Hp → Prop} (s : Sim G μ H st) (ro : RpV G.K G.hid [] μ H ov o) (ri : RpV G.K G.hid [] μ H iv i) (rv : RpV G.K G.hid [] μ H v x) (e : setSub o i x st = some st')
    (k : ∀ H', Ext μ H μ H' → Sim G μ H' st' → Q H') : rSetL ov iv v H Q := by
  unfold setSub at e
  split at e
  · rename_i l kk
    split at e
    · rename_i vs q
      split at e
      · rename_i j qj
        cases e
        obtain ⟨a, rfl, ha⟩ := ro
        cases ri
        obtain ⟨xs, h1, h2⟩ := s.obj _ _ _ ha q
        exact ⟨a, xs, kk, j, rfl, rfl, h1, by rw [h2.length]; exact qj, k _ (Ext.put s ha (fun _ _ z => by rw [h1] at z; cases z)) (s.putL ha (RpVs.set rv j h2))⟩
      · cases e
    · cases e
  · cases e
theorem ds_sub {o i e : Expr} {p' : Pos} {mo mi m : EM} (h : DE X G W e m) (ho : DE X G W o mo) (hi : DE X G W i mi) (hn : notComp e = true) (hw : swappedStores [.Subscript o i p'] e X.env = pure none)
    (ha : ∀ v, assign (.Subscript o i p') X.env v = (do
      let ov ← holding [v] (eval o X.env)
      let iv ← holding [v, ov] (eval i X.env)
      standAt p'
      holding [v, ov, iv] (setItem ov iv v)
      release [v, ov, iv] [])) : DS X G W n0 (.Assign [.Subscript o i p'] e pos) (sSub mo mi m) :=
  PS.by (ps_asg h (pg_sub ho hi set_list ha) (by show swapsWith e (some (.Subscript o i p')) pos.line X.env = pure false; exact swaps_none hn _ _ _) hw (by rfl)) fun E σ H ⟨μ0, H0, μ, env, st, a, f⟩ => by
    refine ⟨μ, env, st, a.sim, a.env, (FinS.thn a f).mono fun x st1 μ1 H1 e1 s1 h1 v rv => ?_⟩
    have a1 := a.go e1 s1
    refine ⟨μ1, env, st1, s1, a1.env, (FinS.thn a1 h1).mono fun xo st2 μ2 H2 e2 s2 h2 ov ro => ?_⟩
    have a2 := a1.go e2 s2
    refine ⟨μ2, env, st2, s2, a2.env, (FinS.thn a2 h2).mono fun xi st3 μ3 H3 e3 s3 h3 iv ri => ?_⟩
    cases q : setSub xo xi x st3 with
    | none => rw [q] at h3; exact h3.elim
    | some st4 =>
      rw [q] at h3
      have a3 := a2.go e3 s3
      exact setSub_sem s3 (ro.ext e3) ri (rv.ext (e2.trans e3)) q fun H4 e4 s4 => h3 μ3 H4 σ e4 s4 (a3.env.ext e4)
def isLstV : Val → Sto → Bool := fun x st => match x with
  | .p (.lst _) => true
  | .r l => (match st[l]? with
    | some (.lst _) => true
    | _ => false)
  | _ => false
theorem ty_list : TySem G "list" isLstV := fun μ H st v x s r e => by
  unfold isLstV at e
  split at e
  · cases r with
    | lst h1 h2 h3 => exact .inl ⟨rfl, _, .inl (.inl h1)⟩
  · split at e
    · rename_i l vs q
      obtain ⟨a, rfl, ha⟩ := r
      obtain ⟨xs, h1, h2⟩ := s.obj _ _ _ ha q
      exact .inl ⟨rfl, _, .inl (.inl h1)⟩
    · cases e
  · cases e
def fApp : Val → List Val → Sto → Option (Val × Sto) := fun x xs st => match x, xs with
  | .r l, [y] => (match st[l]? with
    | some (.lst vs) => if vs.length < sizeLine then some (.p .non, st.set l (.lst (vs ++ [y]))) else none
    | _ => none)
  | _, _ => none
theorem sem_app : MtSem G "list" rAppend fApp := by
  intro μ H st v x vs xs z st' Q s rv rvs e k
  unfold fApp at e
  split at e
  · rename_i l y
    split at e
    · rename_i ys q
      split at e
      · rename_i hz
        cases e
        obtain ⟨a, rfl, ha⟩ := rv
        obtain ⟨w, rfl, rw_⟩ := RpVs.one rvs
        obtain ⟨us, h1, h2⟩ := s.obj _ _ _ ha q
        exact ⟨a, us, w, rfl, rfl, h1, by rw [h2.length]; exact hz, k _ _ _ (Ext.put s ha (fun _ _ z => by rw [h1] at z; cases z)) (s.putL ha (RpVs.append h2 (.cons rw_ .nil))) .non⟩
      · cases e
    · cases e
  · cases e
def fPop : Val → List Val → Sto → Option (Val × Sto) := fun x xs st => match x, xs with
  | .r l, [] => (match st[l]? with
    | some (.lst vs) => (match vs[vs.length - 1]? with
      | some y => some (y, st.set l (.lst vs.dropLast))
      | none => none)
    | _ => none)
  | _, _ => none
theorem sem_pop : MtSem G "list" rPop fPop := by
  intro μ H st v x vs xs z st' Q s rv rvs e k
  unfold fPop at e
  split at e
  · rename_i l
    split at e
    · rename_i ys q
      split at e
      · rename_i y qy
        cases e
        obtain ⟨a, rfl, ha⟩ := rv
        cases rvs
        obtain ⟨us, h1, h2⟩ := s.obj _ _ _ ha q
        obtain ⟨w, hw, rw_⟩ := h2.get qy
        exact ⟨a, us, w, rfl, rfl, h1, by rw [h2.length]; exact hw, k _ _ _ (Ext.put s ha (fun _ _ z => by rw [h1] at z; cases z)) (s.putL ha (RpVs.dropLast h2)) (rw_.ext (Ext.put s ha (fun _ _ z => by rw [h1] at z; cases z)))⟩
      · cases e
    · cases e
  · cases e
end
end Sl
end
section
set_option Elab.async false
set_option linter.all false
set_option maxRecDepth 100000
set_option maxHeartbeats 1000000
namespace Sl
open PySem PySem.Spec PyProof.Rows L2
def alikeB (ds : List D) : Bool := ds.all fun d => ds.all fun e => PySem.W.alike (toPy d) (toPy e)
def isTup1 : D → Bool
  | .tup (_ :: _) => true
  | _ => false
def isFlat : D → Bool
  | .tup _ => false
  | .non => false
  | .dct _ _ => false
  | _ => true
def sortOk (ds : List D) : Bool := noDctL ds && alikeB ds && (ds.all isTup1 || ds.all isFlat) && decide (depL ds ≤ 60) && decide (ds.length ≤ sizeLine)
def sortD (ds : List D) : List D := ds.mergeSort (PySem.W.dataLe false toPy)
theorem depL_all : ∀ {ds : List D} {n : Nat}, depL ds ≤ n → ∀ d ∈ ds, dep d ≤ n
  | [], _, _, d, h => by cases h
  | e :: ds, n, h, d, hd => by
    simp only [depL] at h
    rcases List.mem_cons.mp hd with rfl | hd
    · omega
    · exact depL_all (ds := ds) (by omega) d hd
section
variable {X : Cx} {G : Grd}
theorem each_of {K : Frag} {F : Addr → Prop} {H : Hp} : ∀ {xs : List V} {its : List Value} {ds : List D}, Vals xs its → RpL K F H xs ds → PySem.W.EachIs (fun u d => ∃ v, RelV v u ∧ Rp K F H v d) its ds
  | _, _, _, .nil, .nil => .nil
  | _, _, _, .cons r t, .cons r' t' => .cons ⟨_, r, r'⟩ (each_of t t')
theorem each_to {K : Frag} {F : Addr → Prop} {H : Hp} : ∀ {its : List Value} {ds : List D}, PySem.W.EachIs (fun u d => ∃ v, RelV v u ∧ Rp K F H v d) its ds → ∃ xs, Vals xs its ∧ RpL K F H xs ds
  | _, _, .nil => ⟨[], .nil, .nil⟩
  | _, _, .cons ⟨v, r, r'⟩ t => by
    obtain ⟨xs, h1, h2⟩ := each_to t
    exact ⟨v :: xs, .cons r h1, .cons r' h2⟩
theorem each_reads {pins : List (Addr × Obj)} {s : Shared} {σ : L2.St} {F : Addr → Prop} {H : Hp} (I : Inv X pins σ H s) : ∀ {its : List Value} {ds : List D}, noDctL ds = true → PySem.W.EachIs (fun u d => ∃ v, RelV v u ∧ Rp X.K F H v d) its ds → PySem.W.EachIs (fun v b => ∃ as, Reads s.heap v (toPy b) as) its ds
  | _, _, h, e => by
    induction e with
    | nil => exact .nil
    | @cons u d us ds hd t ih =>
      obtain ⟨v, r, r'⟩ := hd
      simp only [noDctL, Bool.and_eq_true] at h
      exact .cons (Dp.reads I _ v _ (Rp.dp d v h.1 r') r) (ih h.2)
def rSrt (K : Frag) : List V → Hp → VK → Prop := fun vs H Q => ∃ (F : Addr → Prop) (a : Addr) (xs : List V) (ds : List D), vs = [.ref a] ∧ SqL K H a xs ∧ RpL K F H xs ds ∧ sortOk ds = true ∧ ∀ ys p, RpL K F H ys (sortD ds) → ys.length = xs.length → H p = none → Q (.ref p) (upd H p (.lst ys))
theorem cr_srt (hu : X.A.units + 64 < cLine) : CallR X (.builtin "sorted") (rSrt X.K) := by
  intro pins s σ H vs us Q I r h
  obtain ⟨F, a, xs, ds, rfl, hs, hr, ok, q⟩ := h
  obtain ⟨its, rv, hl, hz⟩ := I.list hs
  rw [Vals.ref1 r]
  simp only [sortOk, Bool.and_eq_true, Bool.or_eq_true, decide_eq_true_eq] at ok
  obtain ⟨⟨⟨⟨o1, o2⟩, o3⟩, o4⟩, o5⟩ := ok
  have e1 := each_of rv hr
  refine PySem.W.sorted_data (bs := ds) (enc := toPy) (vs := its) hl.isList e1 (each_reads I o1 e1) (fun d hd d' hd' => ?_) ?_ o5 (fun b hb => ?_) fun out ol eo => ?_
  · obtain ⟨b, hb, rfl⟩ := List.mem_map.mp hd
    obtain ⟨b', hb', rfl⟩ := List.mem_map.mp hd'
    exact List.all_eq_true.mp (List.all_eq_true.mp o2 b hb) b' hb'
  · rcases o3 with o3 | o3
    · refine .inl fun d hd => ?_
      obtain ⟨b, hb, rfl⟩ := List.mem_map.mp hd
      have hb' := List.all_eq_true.mp o3 b hb
      unfold isTup1 at hb'
      split at hb'
      · exact ⟨_, _, rfl⟩
      · cases hb'
    · refine .inr fun d hd => ?_
      obtain ⟨b, hb, rfl⟩ := List.mem_map.mp hd
      have hb' := List.all_eq_true.mp o3 b hb
      cases b <;> simp_all [isFlat, toPy]
  · have := depL_all o4 b hb
    rw [dep_eq]
    omega
  · obtain ⟨ys, h1, h2⟩ := each_to eo
    obtain ⟨ep, he'⟩ := PyProof.Rows.sortedAll_at s.heap its out.toArray
    have hly : ys.length = xs.length := by rw [h2.length, List.length_mergeSort, hr.length]
    have hlen : ys.length ≤ sizeLine := by rw [hly, hr.length]; exact o5
    exact ⟨.ref _, upd H (s.heap.objs.size + 1) (.lst ys), I.laid (t' := s.toks) (fun _ _ => PyProof.Rows.sortedAll_old) (Nat.le_succ _) ⟨hlen, out, ep, h1, he'⟩, rfl, q ys _ h2 hly (I.hok.fresh (Nat.le_succ _))⟩
def textKs : List DK → Option (List T)
  | [] => some []
  | .inr x :: ks => (match textKs ks with
    | some xs => some (x :: xs)
    | none => none)
  | _ => none
def sortT (xs : List T) : List T := xs.mergeSort fun x y => !tlt y x
def fSorted (md : Bool) : FL := fun xs st => match xs with
  | [x] => (match viewL st x with
    | some ys => (match pureL ys with
      | some ds => if sortOk ds = true then newLst md ((sortD ds).map .p) st else none
      | none => none)
    | none => (match viewK st x with
      | some (ks, _) => (match textKs ks with
        | some ts => if ts.length < 64 ∧ ts.all (fun t => decide (t.length ≤ tMax)) = true then newLst md ((sortT ts).map fun t => .p (.str t)) st else none
        | none => none)
      | none => none))
  | _ => none
def rSrtD : List V → Hp → VK → Prop := fun xs H Q => ∃ (a : Addr) (kvs : List (Key × V)) (ks : List Str), xs = [.ref a] ∧ Rd H a (.dK kvs) ∧ kvs.map (·.1) = ks.map Sum.inr ∧ ks.length < 64 ∧
    ∀ ys p, ys.Perm ks → sortedS ys = true → H p = none → Q (.ref p) (upd H p (.lst (ys.map V.str)))
def rSrtX (K : Frag) : List V → Hp → VK → Prop := fun vs H Q => rSrt K vs H Q ∨ rSrtD vs H Q
theorem cr_srtX (hc : X.calm = true) (hu : X.A.units + 64 < cLine) : CallR X (.builtin "sorted") (rSrtX X.K) := by
  intro pins s σ H vs us Q I r h
  rcases h with h | h
  · exact cr_srt hu pins s σ H vs us Q I r h
  · exact call_sortedD hc pins s σ H vs us Q I r h
theorem textKs_keys : ∀ {ks : List DK} {ts : List T}, textKs ks = some ts → ks.map toK = (ts.map toS).map Sum.inr
  | [], ts, h => by cases h; rfl
  | .inr x :: ks, ts, h => by
    simp only [textKs] at h
    split at h
    · rename_i xs q
      cases h
      simp [toK, textKs_keys q]
    · cases h
  | .inl i :: ks, ts, h => by simp [textKs] at h
theorem tlt_trans {a b c : T} (h1 : (!tlt b a) = true) (h2 : (!tlt c b) = true) : (!tlt c a) = true := by
  simp only [tlt, Bool.not_eq_true', decide_eq_false_iff_not, List.not_lt] at h1 h2 ⊢
  exact List.le_trans h1 h2
theorem tlt_total (a b : T) : (!tlt b a || !tlt a b) = true := by
  simp only [tlt, Bool.or_eq_true, Bool.not_eq_true', decide_eq_false_iff_not, List.not_lt]
  exact List.le_total _ _
theorem tlt_antisymm {a b : T} (h1 : (!tlt b a) = true) (h2 : (!tlt a b) = true) : a = b := by
  simp only [tlt, Bool.not_eq_true', decide_eq_false_iff_not, List.not_lt] at h1 h2
  exact map_char_inj (List.le_antisymm h1 h2)
theorem eq_of_sorted {α : Type} {le : α → α → Bool} (anti : ∀ a b, le a b = true → le b a = true → a = b) : ∀ {xs ys : List α}, xs.Perm ys → xs.Pairwise (fun a b => le a b = true) → ys.Pairwise (fun a b => le a b = true) → xs = ys
  | [], ys, p, _, _ => by rw [List.Perm.nil_eq p]
  | x :: xs, [], p, _, _ => absurd p.length_eq (by simp)
  | x :: xs, y :: ys, p, h1, h2 => by
    have h1' := List.pairwise_cons.mp h1
    have h2' := List.pairwise_cons.mp h2
    have e : x = y := by
      rcases List.mem_cons.mp (p.mem_iff.mp (List.mem_cons_self ..)) with e | hx
      · exact e
      · rcases List.mem_cons.mp (p.mem_iff.mpr (List.mem_cons_self ..)) with e | hy
        · exact e.symm
        · exact anti _ _ (h1'.1 y hy) (h2'.1 x hx)
    subst e
    rw [eq_of_sorted anti (List.perm_cons x |>.mp p) h1'.2 h2'.2]
def fromS (s : Str) : T := s.cps.toList.map Char.ofNat
theorem fromS_toS (x : T) : fromS (toS x) = x := by
  simp only [fromS, toS, List.map_map]
  exact (List.map_congr_left fun c _ => by simp [Char.ofNat_toNat]).trans (List.map_id _)
theorem rising_pw : ∀ {l : List Str} {p : Str}, risingS p l = true → ∀ y ∈ l, ltCps y.cps.toList p.cps.toList = false
  | [], _, _, y, hy => by cases hy
  | x :: l, p, h, y, hy => by
    simp only [risingS, Bool.and_eq_true, Bool.not_eq_true'] at h
    rcases List.mem_cons.mp hy with rfl | hy
    · exact h.1
    · have h2 := rising_pw h.2 y hy
      have h1 := h.1
      rw [ltCps_eq, decide_eq_false_iff_not, List.not_lt] at h1 h2 ⊢
      exact List.le_trans h1 h2
theorem rising_pairs : ∀ {l : List Str} {p : Str}, risingS p l = true → l.Pairwise (fun a b => ltCps b.cps.toList a.cps.toList = false)
  | [], _, _ => .nil
  | x :: l, p, h => by
    simp only [risingS, Bool.and_eq_true] at h
    exact .cons (rising_pw h.2) (rising_pairs h.2)
theorem sortedS_pairs {l : List Str} (h : sortedS l = true) : l.Pairwise (fun a b => ltCps b.cps.toList a.cps.toList = false) := by
  cases l with
  | nil => exact .nil
  | cons x l => exact .cons (rising_pw h) (rising_pairs h)
theorem sortT_of {ts : List T} {ys : List Str} (p : ys.Perm (ts.map toS)) (h : sortedS ys = true) : ys = (sortT ts).map toS := by
  have e1 : ys = (ys.map fromS).map toS := by
    rw [List.map_map]
    refine ((List.map_congr_left fun y hy => ?_).trans (List.map_id _)).symm
    obtain ⟨t, _, rfl⟩ := List.mem_map.mp (p.mem_iff.mp hy)
    simp only [Function.comp, fromS_toS, id]
  have p2 : (ys.map fromS).Perm ts := by
    have := p.map fromS
    rw [List.map_map] at this
    have e2 : ts.map (fromS ∘ toS) = ts := (List.map_congr_left fun t _ => by simp only [Function.comp, fromS_toS, id]).trans (List.map_id _)
    rwa [e2] at this
  have q : (ys.map fromS).Pairwise (fun a b => (!tlt b a) = true) := by
    have := sortedS_pairs h
    rw [e1] at this
    rw [List.pairwise_map] at this
    refine this.imp fun {a b} hab => ?_
    rw [ltCps_eq, cps_toS, cps_toS] at hab
    simp only [tlt, hab, Bool.not_false]
  have hs : sortT ts = ys.map fromS := by
    refine eq_of_sorted (le := fun a b => !tlt b a) (fun a b h1 h2 => tlt_antisymm h1 h2) ((List.mergeSort_perm ts _).trans p2.symm) ?_ q
    exact List.pairwise_mergeSort (le := fun a b => !tlt b a) (fun a b c h1 h2 => tlt_trans h1 h2) (fun a b => tlt_total a b) ts
  rw [hs]
  exact e1
theorem sem_sorted {md : Bool} : CallSem G (rSrtX G.K) (fSorted md) := by
  intro μ H st vs xs z st' Q s rvs e k
  unfold fSorted at e
  split at e
  · rename_i x
    obtain ⟨v, rfl, rv⟩ := RpVs.one rvs
    split at e
    · rename_i ys qv
      split at e
      · rename_i ds qd
        split at e
        · rename_i ok
          obtain ⟨a, us, rfl, hs, hr⟩ := viewL_sem s rv qv
          have hr' := RpVs.pure hr qd
          refine .inl ⟨Fz G.hid μ, a, us, ds, rfl, hs, hr', ok, fun zs p rz lz hp => ?_⟩
          exact (newLst_sem s (RpL.vals rz) e k).2 p hp
        · cases e
      · cases e
    · split at e
      · rename_i ks ys qk
        split at e
        · rename_i ts qt
          split at e
          · rename_i ok
            obtain ⟨a, kvs, rfl, hd, hk, hr⟩ := viewK_sem s rv qk
            refine .inr ⟨a, kvs, ts.map toS, rfl, hd, by rw [hk, textKs_keys qt], by simpa using ok.1, fun ws p pm hs hp => ?_⟩
            rw [sortT_of pm hs, List.map_map]
            refine (newLst_sem s ?_ e k).2 p hp
            have hok := List.all_eq_true.mp ok.2
            have hmem : ∀ t ∈ sortT ts, t.length ≤ tMax := fun t ht => by simpa using hok t ((List.mergeSort_perm ts _).mem_iff.mp ht)
            generalize sortT ts = us at hmem
            induction us with
            | nil => exact .nil
            | cons u us ih => exact .cons (Rp.str u (hmem u (List.mem_cons_self ..))) (ih fun t ht => hmem t (List.mem_cons_of_mem _ ht))
          · cases e
        · cases e
      · cases e
  · cases e
end
end Sl
end
section
set_option Elab.async false
set_option linter.all false
set_option maxRecDepth 100000
set_option maxHeartbeats 1000000
namespace Sl
open PySem PySem.Spec PyProof.Rows L2
def dput {α : Type} (k : DK) (v : α) (ks : List DK) (vs : List α) : List DK × List α :=
  if (ks.any fun k' => decide (k' = k)) = true then (ks, List.zipWith (fun k' x => if k' = k then v else x) ks vs) else (ks ++ [k], vs ++ [v])
def newDct (md : Bool) (ks : List DK) (vs : List Val) (st : Sto) : Option (Val × Sto) := match md with
  | true => some (.r st.length, st ++ [.dct ks vs])
  | false => match pureL vs with
    | some ds => some (.p (.dct ks ds), st)
    | none => none
section
variable {X : Cx} {G : Grd} {W : WX} {K : Frag} {hid : List Addr} {μ μ' : List Addr} {H H' : Hp} {st : Sto} {pos : Pos}
theorem any_key {kvs : List (Key × V)} : ∀ {ks : List DK} {k : DK}, kvs.map Prod.fst = ks.map toK → (kvs.any fun kv => decide (kv.1 = toK k)) = ks.any fun k' => decide (k' = k) := by
  induction kvs with
  | nil => intro ks k h; cases ks with | nil => rfl | cons a b => cases h
  | cons p kvs ih =>
    intro ks k h
    cases ks with
    | nil => cases h
    | cons a ks =>
      simp only [List.map_cons, List.cons.injEq] at h
      simp only [List.any_cons]
      rw [ih h.2, h.1]
      congr 1
      by_cases e : a = k
      · subst e; simp
      · rw [decide_eq_false e, decide_eq_false (fun z => e (toK_inj z))]
def hasK (k : DK) (ks : List DK) : Bool := ks.any fun k' => decide (k' = k)
def fInD (neg : Bool) : F2 := fun x y st => match viewK st y with
  | some (ks, _) => (match keyOf x with
    | some k => some (.p (.bl (if neg then !hasK k ks else hasK k ks)), st)
    | none => none)
  | none => none
def fInX (neg : Bool) : F2 := fun x y st => match fInD neg x y st with
  | some p => some p
  | none => fIn neg x y st
def rInD (neg : Bool) : R2 := fun x y H Q => ∃ a o, y = .ref a ∧ DGet H a x o ∧ Q (.bl (if neg then !o.isSome else o.isSome)) H
theorem opr_inD (hu : X.A.units + 65 < cLine) : OpR X (compareOp .In) (rInD false) := by
  intro pins s σ H x y v u Q I rx ry h
  obtain ⟨a, o, rfl, g, q⟩ := h
  cases ry
  exact d_in (by omega) I g rx fun s' I' => ⟨.bl o.isSome, H, I', rfl, q⟩
theorem opr_notinD (hu : X.A.units + 65 < cLine) : OpR X (compareOp .NotIn) (rInD true) := by
  intro pins s σ H x y v u Q I rx ry h
  obtain ⟨a, o, rfl, g, q⟩ := h
  cases ry
  exact d_notIn (by omega) I g rx fun s' I' => ⟨.bl (!o.isSome), H, I', rfl, q⟩
theorem sem_inD {neg : Bool} : OpSem G (rInD neg) (fInD neg) := by
  intro μ H st v w x y z st' Q s rv rw_ e k
  unfold fInD at e
  split at e
  · rename_i ks ys qv
    split at e
    · rename_i kk qk
      cases e
      obtain ⟨a, kvs, rfl, h1, h2, h3⟩ := viewK_sem s rw_ qv
      refine ⟨a, valV kvs (toK kk), rfl, .inl ⟨kvs, toK kk, h1, keyOf_sem rv qk, rfl⟩, ?_⟩
      rw [← valV_any, any_key h2]
      exact k μ H _ Ext.refl s (.bl _)
    · cases e
  · cases e
def rInXX (K : Frag) (neg : Bool) : R2 := fun x y H Q => rInD neg x y H Q ∨ rInX K neg x y H Q
theorem opr_inX (hu : X.A.units + 65 < cLine) : OpR X (compareOp .In) (rInXX X.K false) := OpR.or (opr_inD hu) (opr_in hu)
theorem opr_notinX (hu : X.A.units + 65 < cLine) : OpR X (compareOp .NotIn) (rInXX X.K true) := OpR.or (opr_notinD hu) (opr_notin hu)
theorem sem_inX {neg : Bool} : OpSem G (rInXX G.K neg) (fInX neg) := OpSem.or sem_inD sem_in
def pairsOf : List D → Option (List (DK × D))
  | [] => some []
  | .tup [x, y] :: ds => (match keyOf (.p x), pairsOf ds with
    | some k, some ps => some ((k, y) :: ps)
    | _, _ => none)
  | _ => none
def mergeD : List (DK × D) → List DK → List Val → List DK × List Val
  | [], ks, vs => (ks, vs)
  | (k, d) :: ps, ks, vs => mergeD ps (dput k (.p d) ks vs).1 (dput k (.p d) ks vs).2
def fDict (md : Bool) : FL := fun xs st => match xs with
  | [.p (.tup ds)] => (match pairsOf ds with
    | some ps => newDct md (mergeD ps [] []).1 (mergeD ps [] []).2 st
    | none => none)
  | [x] => (match viewL st x with
    | some ys => (match pureL ys with
      | some ds => (match pairsOf ds with
        | some ps => newDct md (mergeD ps [] []).1 (mergeD ps [] []).2 st
        | none => none)
      | none => none)
    | none => none)
  | _ => none
end
end Sl
end
section
set_option Elab.async false
set_option linter.all false
set_option maxRecDepth 100000
set_option maxHeartbeats 1000000
namespace Sl
open PySem PySem.Spec PyProof.Rows L2
def Def (P : Program) (w : World) (K : Frag) (mg : Str → Option Value) (base : Heap) (cls : Str → Option Addr) (x : Str) (n k : Nat) (F : FS) : Prop :=
  ∃ f fd ps, mg x = some (.ref f) ∧ PySem.W.keepIn K (.ref f) = true ∧ Binds K fd ps [] ∧ ∀ (xs : List (Addr × Addr)) (hid : List Addr), FnOk P w K mg base (L2.CX P w) k f fd ps (spF ⟨K, cls, xs, hid⟩ n F)
theorem de_callD {X : Cx} {G : Grd} {W : WX} {cls : Str → Option Addr} {x : Str} {p pos : Pos} {k n : Nat} {F : FS} {e : Expr} {es : List Expr} {am : AM} (h : Def X.prog X.w X.K X.mg X.base cls x n k F) (hG : G.K = X.K) (hC : G.cls = cls) (hr : Room k X.A) (hg : Gl X x) (tk : Takes X W)
    (ha : DA X G W (e :: es) am) (hp : (e :: es).all notStar = true) (hdb : (x == ("__debug__" : Str)) = false) : DE X G W (.Call (.Name x p) (e :: es) [] pos) (mApp n F am) := by
  obtain ⟨f, fd, ps, h1, h2, h3, h4⟩ := h
  obtain ⟨K', cls', xs, hid⟩ := G
  cases hG
  cases hC
  exact de_call (h4 xs hid) hr hg h1 h2 h3 tk ha hp hdb
theorem def_ok {P : Program} {w : World} {K : Frag} {mg : Str → Option Value} {base : Heap} {cls : Str → Option Addr} {x qual : Str} {params : Arguments} {body : List Stmt} {scope : Scope} {kws : List (Str × V)} {f : Addr} {fd : FuncData} {N ps : List Str} {k n : Nat} {m : Nat → SM}
    (F : FunD K x qual params body scope [] kws f fd) (hm : mg x = some (.ref f)) (hb : ∀ (kV doc pm : Value) (an : Option Addr) (cdv ct : Value) (us : List Value), us.length = ps.length → bindArgs (PySem.W.fnOf x qual params body scope .none kV doc pm an cdv ct) ⟨us, []⟩ = pure (ps.zip us))
    (S : FnScope N ps scope) (hn : ps.length = n) (hN : N.length = nn)
    (h : ∀ (xs : List (Addr × Addr)) (hid : List Addr) (cdv : Value) (A : Around) (outer : List Env) (s : Shared) (H : Hp) (E : XK) (n0 : Nat), Room k (A.deeper (envOfC qual scope s.heap.objs.size f cdv)) →
      DSs ((FC.mk P w K mg base f cdv A outer s H E).X N qual scope) ⟨K, cls, xs, hid⟩ (FC.mk P w K mg base f cdv A outer s H E).W n0 body (m n0)) : Def P w K mg base cls x n (k + 1) (bodyF nn m) := by
  subst hn
  subst hN
  exact ⟨f, fd, ps, hm, F.kp, F.bindsN hb, fun xs hid => fn_ok F S (h xs hid)⟩
theorem def_fail {P : Program} {w : World} {K : Frag} {mg : Str → Option Value} {base : Heap} {cls : Str → Option Addr} {x qual : Str} {params : Arguments} {body : List Stmt} {scope : Scope} {kws : List (Str × V)} {f : Addr} {fd : FuncData} {ps : List Str} {k n : Nat}
    (F : FunD K x qual params body scope [] kws f fd) (hm : mg x = some (.ref f)) (hb : ∀ (kV doc pm : Value) (an : Option Addr) (cdv ct : Value) (us : List Value), us.length = ps.length → bindArgs (PySem.W.fnOf x qual params body scope .none kV doc pm an cdv ct) ⟨us, []⟩ = pure (ps.zip us)) : Def P w K mg base cls x n k (fun _ _ => .fail) :=
  ⟨f, fd, ps, hm, F.kp, F.bindsN hb, fun xs hid => ⟨fun vs H Q E ⟨_, _, _, _, _, _, z⟩ => z.elim, fun A outer s H args us vs Q E hr e0 hb r ⟨_, _, _, _, _, _, z⟩ => z.elim⟩⟩
theorem lookup_in {K : Frag} {a : Addr} {o : Obj} : K.lookup a = some o → ∃ b, (b, o) ∈ K := by
  induction K with
  | nil => intro h; cases h
  | cons q K ih =>
    intro h
    obtain ⟨b, u⟩ := q
    rw [List.lookup_cons] at h
    split at h
    · cases h
      exact ⟨b, List.mem_cons_self ..⟩
    · obtain ⟨b', hb⟩ := ih h
      exact ⟨b', List.mem_cons_of_mem _ hb⟩
theorem noLst_no {K : Frag} (h : noLst K = true) {a : Addr} {o : Obj} (e : K.lookup a = some o) (c : o.cls = .type "list") : False := by
  obtain ⟨b, hb⟩ := lookup_in e
  have := List.all_eq_true.mp h _ hb
  simp [c] at this
theorem walk_sl {l : PySem.W.OpenLaw} {n k : Nat} {q : Program} {loose : List Str} {XP : (Str → Option Value) → Heap → Prop} {YP : World → Heap → Prop} {d : DefRec} {x : Str} {Fs : FS} (hn : l.most = some n) (hn2 : n ≤ sizeLine) (hdf : d.params.defaults = []) (hr : Room k callerA)
    (hF : ∀ ns : List Int, ns.length ≤ n → (∀ z ∈ ns, z.natAbs.log2 < 1048577) → ∃ st, Fs [.r 0] [.scr ns] = .ok (.p (.bl true)) st)
    (F : ∀ (w : World) (mg : Str → Option Value) (fa : Addr) (h : Heap), YP w h → h.Ns mainGlobals mg → mg d.name = some (.ref fa) →
      ∃ (K : Frag) (fd : FuncData) (cls : Str → Option Addr), K.In h ∧ noLst K = true ∧ (∀ (s : Shared) (u : Value), BindsTo s fd ⟨[u], []⟩ [(x, u)]) ∧
        ∀ base : Heap, K.In base → base.Ns mainGlobals mg → FnOk l.prog w K mg base (L2.CX l.prog w) k fa fd [x] (spF ⟨K, cls, [], []⟩ 1 Fs)) : PySem.W.WalkO q loose XP YP l.row.toRowW d [] (fun f vs => PySem.call f vs) := by
  refine Att.attach_callB hn hdf fun w s₀ s₁ mg mb fa o pm cd doc a vs ns G Y ho hd hcd hmg hobj hints hlen hbits hg => ?_
  obtain ⟨K, fd, cls, KX, hl, hb, hF2⟩ := F w mg fa _ Y G.T.g hmg
  refine law_call KX G.T.g G.T.b G.T.builtins G.T.nolimit hg hobj hints (Nat.le_trans hlen hn2) hr hF2 hb (fun H hO hS => ?_) fun H e s' ⟨_, _, _, _, _, _, _, _, _, _, _, _, z⟩ => z.elim
  obtain ⟨st, est⟩ := hF ns hlen fun z hz => by
    have h1 := hbits z hz
    unfold Builtin.Int.intBits at h1
    split at h1 <;> simp_all <;> omega
  have ho : ∃ o, H a = some (.frz o (.lst (ns.map V.int))) := by
    rcases hS with (h1 | h1) | ⟨o, its, m, h1, h2, _⟩
    · rcases hO a with z | ⟨o, xs, z⟩
      · rw [h1] at z; cases z
      · rw [h1] at z; cases z
    · exact h1
    · exact (noLst_no hl h1 h2).elim
  refine ⟨[a], [.scr ns], [.r 0], ⟨rfl, by simp, fun l b u h1 h2 => ?_, fun _ h => (nomatch h), fun _ h => (nomatch h)⟩, .cons ⟨a, rfl, rfl⟩ .nil, rfl, ?_⟩
  · cases l with
    | zero => cases h1; cases h2; exact ho
    | succ l => cases h1
  · rw [est]
    intro μ' H' e s v rv
    cases rv
    rfl
end Sl
end
section
set_option Elab.async false
set_option linter.all false
set_option maxRecDepth 100000
set_option maxHeartbeats 1000000
namespace Sl
open PySem PySem.Spec PyProof.Rows L2
def visB (sc : Scope) (x : Str) : Bool := match sc.names.lookup x with
  | some .local => true
  | some .cell => true
  | some .free => true
  | _ => false
def locB (sc : Scope) (x : Str) : Bool := match sc.names.lookup x with
  | some .local => true
  | some .cell => true
  | _ => false
def isLocB (sc : Scope) (x : Str) : Bool := match sc.names.lookup x with
  | some .local => true
  | _ => false
theorem visB_ok {sc : Scope} {x : Str} (h : visB sc x = true) : Vis sc x := by
  unfold visB at h
  unfold Vis
  split at h <;> simp_all
theorem locB_ok {sc : Scope} {x : Str} (h : locB sc x = true) : Loc sc x := by
  unfold locB at h
  unfold L2.Loc
  split at h <;> simp_all
theorem isLocB_ok {sc : Scope} {x : Str} (h : isLocB sc x = true) : sc.names.lookup x = some .local := by
  unfold isLocB at h
  split at h <;> simp_all
def plainName (x : Str) : Bool := !(x == ("__debug__" : Str)) && !(x == ("__classdict__" : Str)) && !decide (x = ("__name__" : Str))
def varB (N : List Str) (sc : Scope) (i : Nat) (x : Str) : Bool := decide (N[i]? = some x) && visB sc x && plainName x
def glB (env : Env) (x : Str) : Bool := (match env.kindOf x with
  | some .globalImplicit => true
  | _ => false) && plainName x
def tgB (N : List Str) (sc : Scope) (fn : Bool) (i : Nat) (x : Str) : Bool := decide (N[i]? = some x) && locB sc x && (fn || isLocB sc x)
def Gv (mg : Str → Option Value) (K : Frag) (x : Str) (d : D) : Prop := ∃ v u, mg x = some u ∧ RelV v u ∧ ∀ F H, Rp K F H v d
section
variable {X : Cx} {G : Grd} {W : WX} {pos p : Pos} {x : Str} {e : Expr} {es : List Expr} {am : AM} {k : Nat}
theorem glB_ok (h : glB X.env x = true) : Gl X x ∧ (x == ("__debug__" : Str)) = false ∧ x ≠ "__name__" := by
  unfold glB plainName at h
  simp only [Bool.and_eq_true, Bool.not_eq_true', decide_eq_false_iff_not] at h
  refine ⟨?_, h.2.1.1, h.2.2⟩
  have h1 := h.1
  unfold Gl
  split at h1
  · assumption
  · cases h1
theorem de_v (i : Nat) (h : varB X.N X.env.scope i x = true) : DE X G W (.Name x pos) (mVar i) := by
  unfold varB plainName at h
  simp only [Bool.and_eq_true, Bool.not_eq_true', decide_eq_true_eq] at h
  exact de_var h.1.1 (visB_ok h.1.2) h.2.1.1 h.2.1.2
theorem de_gv {d : D} (h : Gv X.mg X.K x d) (hG : G.K = X.K) (hb : glB X.env x = true) : DE X G W (.Name x pos) (mD d) := by
  obtain ⟨v, u, h1, h2, h3⟩ := h
  obtain ⟨b1, b2, b3⟩ := glB_ok hb
  exact de_glob b1 h1 h2 (by rw [hG]; exact h3) b2
theorem de_s {i : Str} {y : T} {j : Nat} (h : (decide (i = toS y) && Nat.ble y.length tMax) = true) : DE X G W (.Constant (.str i) j pos) (mD (.str y)) := by
  simp only [Bool.and_eq_true, decide_eq_true_eq] at h
  exact de_str h.1 (Nat.le_of_ble_eq_true h.2)
theorem de_cD {cls : Str → Option Addr} {n : Nat} {F : FS} {j : Nat} (h : Def X.prog X.w X.K X.mg X.base cls x n j F) (hG : G.K = X.K) (hC : G.cls = cls) (hr : Room k X.A) (hj : j ≤ k) (tk : Takes X W) (ha : DA X G W (e :: es) am) (hb : (glB X.env x && (e :: es).all notStar) = true) :
    DE X G W (.Call (.Name x p) (e :: es) [] pos) (mApp n F am) := by
  rw [Bool.and_eq_true] at hb
  obtain ⟨b1, b2, b3⟩ := glB_ok hb.1
  exact de_callD h hG hC (hr.mono hj) b1 tk ha hb.2 b2
theorem de_cB {id : String} {r : List V → Hp → VK → Prop} {f : FL} (hc : CallR X (.builtin id) r) (o : CallSem G r f) (hm : X.mg x = none) (hv : bootBuiltins x = some (.builtin id)) (ha : DA X G W (e :: es) am) (hb : (glB X.env x && (e :: es).all notStar) = true) :
    DE X G W (.Call (.Name x p) (e :: es) [] pos) (mCall f am) := by
  rw [Bool.and_eq_true] at hb
  obtain ⟨b1, b2, b3⟩ := glB_ok hb.1
  exact de_callB hc o b1 hm hv ha hb.2 b3 b2
theorem de_cT {id : String} {r : List V → Hp → VK → Prop} {f : FL} (hc : CallR X (.type id) r) (o : CallSem G r f) (hm : X.mg x = none) (hv : bootBuiltins x = some (.type id)) (ha : DA X G W (e :: es) am) (hb : (glB X.env x && (e :: es).all notStar) = true) :
    DE X G W (.Call (.Name x p) (e :: es) [] pos) (mCall f am) := by
  rw [Bool.and_eq_true] at hb
  obtain ⟨b1, b2, b3⟩ := glB_ok hb.1
  exact de_callTy hc o b1 hm hv ha hb.2 b3 b2
theorem bt_len : bootBuiltins "len" = some (.builtin "len") := by decide +kernel
theorem bt_all : bootBuiltins "all" = some (.builtin "all") := by decide +kernel
theorem bt_sorted : bootBuiltins "sorted" = some (.builtin "sorted") := by decide +kernel
theorem bt_int : bootBuiltins "int" = some (.type "int") := by decide +kernel
theorem bt_bool : bootBuiltins "bool" = some (.type "bool") := by decide +kernel
theorem bt_str : bootBuiltins "str" = some (.type "str") := by decide +kernel
theorem bt_tuple : bootBuiltins "tuple" = some (.type "tuple") := by decide +kernel
theorem de_isB {m : EM} {p2 : Pos} {y : Str} {T : String} (hG : G.K = X.K) (hm : X.mg "isinstance" = none) (hmy : X.mg y = none) (hvy : bootBuiltins y = some (.type T)) (h : DE X G W e m)
    (hb : ((["bool", "int", "str", "tuple", "list", "dict"] : List String).contains T && glB X.env "isinstance" && glB X.env y && notStar e) = true) : DE X G W (.Call (.Name "isinstance" p) [e, .Name y p2] [] pos) (mIsi T m) := by
  simp only [Bool.and_eq_true] at hb
  obtain ⟨b1, b2, b3⟩ := glB_ok hb.1.1.2
  obtain ⟨c1, c2, c3⟩ := glB_ok hb.1.2
  exact de_isi hG.symm (List.contains_iff_mem.mp hb.1.1.1) b1 hm c1 hmy hvy c3 c2 h hb.2
theorem de_ixB {a b : Expr} {ma mb : EM} (hG : G.K = X.K) (hr : Room k X.A) (ha : DE X G W a ma) (hb : DE X G W b mb) (hs : notSlice b = true) : DE X G W (.Subscript a b pos) (m2 fIx ma mb) :=
  de_ix hG.symm (by have := hr.units; omega) ha hb hs
theorem da_c {m : EM} (h : DE X G W e m) (hs : DA X G W es am) (hn : notStar e = true) : DA X G W (e :: es) (aCons m am) := da_cons h hs hn
theorem Room.u65 {A : Around} (r : Room k A) : A.units + 65 < cLine := by have := r.un; omega
theorem dgn {i : Nat} (hb : tgB X.N X.env.scope (X.fn x) i x = true) (nd : X.N.Nodup) : PG X (.Name x pos) (RdG (tupT (.Name x pos)) G [i] (gN i)) := by
  unfold tgB at hb
  simp only [Bool.and_eq_true, Bool.or_eq_true, decide_eq_true_eq] at hb
  refine dg_name nd hb.1.1 (locB_ok hb.1.2) ?_
  rcases hb.2 with h | h
  · exact .inl h
  · exact .inr (isLocB_ok h)
def notSetB : Expr → Bool
  | .Set _ _ _ => false
  | _ => true
theorem notSetB_ok {i : Expr} (h : notSetB i = true) (env : Env) : ∀ x, foldedSetIterable i env x = pure x := notSet_of (by cases i <;> first | rfl | cases h) env
def lcB (N : List Str) (sc scope : Scope) (own : List (Str × Nat)) (gs : List Nat) (iter : Expr) : Bool := blkC N sc scope own && gs.all (fun j => decide (j ∈ own.map (·.2))) && notSetB iter
theorem lcB_ok {N : List Str} {sc scope : Scope} {own : List (Str × Nat)} {gs : List Nat} {iter : Expr} (h : lcB N sc scope own gs iter = true) (env : Env) : BlkOk N sc scope own ∧ (∀ j ∈ gs, j ∈ own.map (·.2)) ∧ ∀ x, foldedSetIterable iter env x = pure x := by
  unfold lcB at h
  simp only [Bool.and_eq_true, List.all_eq_true, decide_eq_true_eq] at h
  exact ⟨blkOk_by h.1.1, h.1.2, notSetB_ok h.2 env⟩
theorem de_l {elt tg iter : Expr} {ifs : List Expr} {scope : Scope} {mi : IM} {gs : List Nat} {gm : GM} {mt : TM} {me : EM} (md : Bool) (own : List (Str × Nat)) (hc : X.calm = true) (nd : X.N.Nodup) (hi : DI X G W tg iter mi) (hb : lcB X.N X.env.scope scope own gs iter = true)
    (hg : ∀ (h : List Addr) (s : Shared) (H : Hp) (C : Addr) (cl : List (Str × Addr)) (fp : List Addr), PG (X.blk s H scope (compEnvC scope cl C X.env) fp) tg (RdG (tupT tg) (G.h h) gs gm))
    (ht : ∀ (h : List Addr) (s : Shared) (H : Hp) (C : Addr) (cl : List (Str × Addr)) (fp : List Addr), PTs (X.blk s H scope (compEnvC scope cl C X.env) fp) ifs (RdT (G.h h) WF mt))
    (he : ∀ (h : List Addr) (s : Shared) (H : Hp) (C : Addr) (cl : List (Str × Addr)) (fp : List Addr), PE (X.blk s H scope (compEnvC scope cl C X.env) fp) elt (RdE (G.h h) WF me)) : DE X G W (.ListComp elt [⟨tg, iter, ifs, 0⟩] scope pos) (mComp md (own.map (·.2)) mi gm mt me) := by
  obtain ⟨h1, h2, h3⟩ := lcB_ok hb X.env
  exact de_lc hc nd hi h1 hg ht he h2 h3
theorem dts_nil : PTs X [] (RdT G W tmYes) := ⟨fun pins s σ H Q I ⟨μ, env, st, si, en, f⟩ => pts_nil.run pins s σ H Q I (f.ok si)⟩
theorem dts_one {c : Expr} {mt : TM} (h : DT X G W c mt) : PTs X [c] (RdT G W mt) := pts_one h
theorem dt_w {mt : TM} (h : DW X G W e mt) : DT X G W e mt := h.pt
theorem dt_t {m : EM} (hG : G.K = X.K) (ha : DE X G W e m) (hp : plainTest e = true) : DT X G W e (tTruth m) := dt_truth hG.symm ha hp
theorem di_v {tg iter : Expr} {m : EM} (hG : G.K = X.K) (h : DE X G W iter m) : DI X G W tg iter (mIter m) := di_val hG.symm h
theorem di_r1 {tg a : Expr} {am : AM} (hm : X.mg "range" = none) (h : DA X G W [a] am) (hb : (glB X.env "range" && notStar a) = true) : DI X G W tg (.Call (.Name "range" p) [a] [] pos) (mRng1 am) := by
  rw [Bool.and_eq_true] at hb
  exact di_rng1 (glB_ok hb.1).1 hm h hb.2
theorem di_r2 {tg a b : Expr} {am : AM} (hm : X.mg "range" = none) (h : DA X G W [a, b] am) (hb : (glB X.env "range" && notStar a && notStar b) = true) : DI X G W tg (.Call (.Name "range" p) [a, b] [] pos) (mRng2 am) := by
  simp only [Bool.and_eq_true] at hb
  exact di_rng2 (glB_ok hb.1.1).1 hm h hb.1.2 hb.2
theorem di_r3 {tg a b c : Expr} {am : AM} (hm : X.mg "range" = none) (h : DA X G W [a, b, c] am) (hb : (glB X.env "range" && ([a, b, c] : List Expr).all notStar) = true) : DI X G W tg (.Call (.Name "range" p) [a, b, c] [] pos) (mRng3 am) := by
  simp only [Bool.and_eq_true] at hb
  exact di_rng3 (glB_ok hb.1).1 hm h hb.2
theorem de_mA {o : Expr} {apos : Pos} {mo : EM} (hG : G.K = X.K) (ho : DE X G W o mo) (ha : DA X G W (e :: es) am) (hb : (notSuper o && plainArgs (e :: es) && (apos.endLine == pos.line)) = true) : DE X G W (.Call (.Attribute o "append" apos) (e :: es) [] pos) (mMeth isLstV fApp mo am) := by
  simp only [Bool.and_eq_true] at hb
  exact de_bm hG.symm PySem.F.plainAttrs_list PySem.F.slot_list_append PySem.F.type_list_append mt_append ty_list sem_app ho ha hb.1.1 hb.1.2 hb.2
theorem de_mP {o : Expr} {apos : Pos} {mo : EM} (hG : G.K = X.K) (ho : DE X G W o mo) (hb : (notSuper o && (apos.endLine == pos.line)) = true) : DE X G W (.Call (.Attribute o "pop" apos) [] [] pos) (mMeth0 isLstV fPop mo) := by
  simp only [Bool.and_eq_true] at hb
  exact de_bm0 hG.symm PySem.F.plainAttrs_list PySem.F.slot_list_pop PySem.F.type_list_pop mt_pop ty_list sem_pop ho hb.1 hb.2
theorem de_mJ {o : Expr} {apos : Pos} {mo : EM} (hG : G.K = X.K) (ho : DE X G W o mo) (ha : DA X G W (e :: es) am) (hb : (notSuper o && plainArgs (e :: es) && (apos.endLine == pos.line)) = true) : DE X G W (.Call (.Attribute o "join" apos) (e :: es) [] pos) (mMeth isStrV fJoin mo am) := by
  simp only [Bool.and_eq_true] at hb
  exact de_bm hG.symm PySem.F.plainAttrs_str PySem.F.slot_str_join PySem.F.type_str_join (by rw [hG]; exact mt_join) ty_str sem_join ho ha hb.1.1 hb.1.2 hb.2
theorem de_mS {o : Expr} {apos : Pos} {mo : EM} {md : Bool} (hG : G.K = X.K) (ho : DE X G W o mo) (ha : DA X G W (e :: es) am) (hb : (notSuper o && plainArgs (e :: es) && (apos.endLine == pos.line)) = true) : DE X G W (.Call (.Attribute o "split" apos) (e :: es) [] pos) (mMeth isStrV (fSplit md) mo am) := by
  simp only [Bool.and_eq_true] at hb
  exact de_bm hG.symm PySem.F.plainAttrs_str PySem.F.slot_str_split PySem.F.type_str_split mt_split ty_str sem_split ho ha hb.1.1 hb.1.2 hb.2
variable {n0 : Nat}
theorem ds_s {m : EM} (i : Nat) (nd : X.N.Nodup) (h : DE X G W e m) (hb : (tgB X.N X.env.scope (X.fn x) i x && notComp e) = true) : DS X G W n0 (.Assign [.Name x p] e pos) (sAsg m (gN i)) := by
  unfold tgB at hb
  simp only [Bool.and_eq_true, Bool.or_eq_true, decide_eq_true_eq] at hb
  refine ds_set nd hb.1.1.1 (locB_ok hb.1.1.2) ?_ h hb.2
  rcases hb.1.2 with h | h
  · exact .inl h
  · exact .inr (isLocB_ok h)
theorem ds_sL {elt tg iter : Expr} {ifs : List Expr} {scope : Scope} {spos : Pos} {mi : IM} {gs : List Nat} {gm : GM} {mt : TM} {me : EM} (i : Nat) (md : Bool) (own : List (Str × Nat)) (hc : X.calm = true) (nd : X.N.Nodup) (hi : DI X G W tg iter mi) (hb : lcB X.N X.env.scope scope own gs iter = true)
    (hb2 : (decide (X.N[i]? = some x) && isLocB X.env.scope x) = true) (hsw : swapsWith (.ListComp elt [⟨tg, iter, ifs, 0⟩] scope pos) (some (.Name x p)) spos.line X.env = pure true)
    (hg : ∀ (h : List Addr) (s : Shared) (H : Hp) (C : Addr) (cl : List (Str × Addr)) (fp : List Addr), PG (X.blk s H scope (compEnvC scope cl C X.env) fp) tg (RdG (tupT tg) (G.h h) gs gm))
    (ht : ∀ (h : List Addr) (s : Shared) (H : Hp) (C : Addr) (cl : List (Str × Addr)) (fp : List Addr), PTs (X.blk s H scope (compEnvC scope cl C X.env) fp) ifs (RdT (G.h h) WF mt))
    (he : ∀ (h : List Addr) (s : Shared) (H : Hp) (C : Addr) (cl : List (Str × Addr)) (fp : List Addr), PE (X.blk s H scope (compEnvC scope cl C X.env) fp) elt (RdE (G.h h) WF me)) :
    DS X G W n0 (.Assign [.Name x p] (.ListComp elt [⟨tg, iter, ifs, 0⟩] scope pos) spos) (sAsg (mComp md (own.map (·.2)) mi gm mt me) (gN i)) := by
  obtain ⟨h1, h2, h3⟩ := lcB_ok hb X.env
  simp only [Bool.and_eq_true, decide_eq_true_eq] at hb2
  exact ds_setLc hc nd hb2.1 (isLocB_ok hb2.2) hsw hi h1 hg ht he h2 h3
theorem ds_x {m : EM} (h : DE X G W e m) (hn : notComp e = true) : DS X G W n0 (.Expr e pos) (sExpr m) := ds_expr h hn
theorem ds_f {tg iter : Expr} {body : List Stmt} {mi : IM} {gs : List Nat} {gm : GM} {mb : SM} (ow : PassesOwn (model X.prog X.w) X.A X.env X.xe) (hc : X.calm = true) (hi : DI X G W tg iter mi) (hg : PG X tg (RdG (tupT tg) G gs gm)) (hb : DSs X G W n0 body mb) (hs : notSetB iter = true) :
    DS X G W n0 (.For tg iter body [] pos) (sFor mi gm mb) := ds_for ow hc hi hg hb (notSetB_ok hs _)
theorem ds_i {o i : Expr} {p' : Pos} {mo mi m : EM} (h : DE X G W e m) (ho : DE X G W o mo) (hi : DE X G W i mi) (hn : (notComp e && notSlice i) = true) : DS X G W n0 (.Assign [.Subscript o i p'] e pos) (sSub mo mi m) := by
  rw [Bool.and_eq_true] at hn
  refine ds_sub h ho hi hn.1 (by cases e <;> rfl) fun v => ?_
  have h2 := hn.2
  cases i <;> first | rfl | cases h2
end
end Sl
end
section
set_option Elab.async false
set_option linter.all false
set_option maxRecDepth 100000
set_option maxHeartbeats 1000000
namespace Sl
open PySem PySem.Spec PyProof.Rows L2
def setAll : List Nat → List Val → Slots → Slots
  | i :: is, x :: xs, env => setAll is xs (env.set i (some x))
  | _, _, env => env
def setAllV : List Nat → List V → L2.St → L2.St
  | i :: is, v :: vs, σ => setAllV is vs (σ.set i (some v))
  | _, _, σ => σ
def sParN (is : List Nat) (am : AM) : SM := fun env st => (am env st).then env fun xs st' => if xs.length = is.length then .nx (setAll is xs env) st' else .fail
section
variable {X : Cx} {G : Grd} {W : WX} {μ : List Addr} {H : Hp} {pos : Pos} {n0 : Nat}
theorem setAll_env : ∀ {is : List Nat} {xs : List Val} {vs : List V} {env : Slots} {σ : L2.St}, EnvRp G μ H env σ → RpVs G.K G.hid μ H vs xs → EnvRp G μ H (setAll is xs env) (setAllV is vs σ)
  | [], xs, vs, env, σ, r, h => by cases xs <;> cases vs <;> exact r
  | i :: is, _, _, env, σ, r, .nil => r
  | i :: is, x :: xs, v :: vs, env, σ, r, .cons h t => by
    unfold setAll setAllV
    exact setAll_env (r.set h) t
theorem thenPar {is : List Nat} {am : AM} {env : Slots} {st : Sto} {μ0 : List Addr} {H0 : Hp} {σ : L2.St} {E : Ends} (at_ : At G n0 μ0 H0 μ H env st σ) (f : FinS G W μ0 H0 μ H (sParN is am env st) E) :
    Fin G W σ μ H (am env st) (fun xs st' μ' H' => ∀ vs, RpVs G.K G.hid μ' H' vs xs → vs.length = is.length ∧ ∀ H'', Ext μ' H' μ' H'' → Sim G μ' H'' st' → E.nx (setAllV is vs σ) H'') :=
  (FinS.thn at_ f).mono fun xs st1 μ1 H1 e1 s1 h1 vs rv => by
    by_cases hl : xs.length = is.length
    · rw [if_pos hl] at h1
      exact ⟨by rw [rv.length, hl], fun H2 e2 s2 => h1 μ1 H2 _ e2 s2 (setAll_env ((at_.env.ext e1).ext e2) (rv.ext e2))⟩
    · rw [if_neg hl] at h1
      exact h1.elim
theorem ds_p2 {x y : Str} {a b : Expr} {kt kv i j : Nat} {px py pt pv : Pos} {am : AM} (hc : X.calm = true) (nd : X.N.Nodup) (h : DA X G W [a, b] am) (hb : (decide (X.N[i]? = some x) && decide (X.N[j]? = some y) && decide (i ≠ j) && isLocB X.env.scope x && isLocB X.env.scope y) = true)
    (hw : swappedStores [.Tuple [.Name x px, .Name y py] kt pt] (.Tuple [a, b] kv pv) X.env = pure (some [x, y])) : DS X G W n0 (.Assign [.Tuple [.Name x px, .Name y py] kt pt] (.Tuple [a, b] kv pv) pos) (sParN [i, j] am) := by
  simp only [Bool.and_eq_true, decide_eq_true_eq] at hb
  refine PS.by (ps_par hc nd hb.1.1.1.1 hb.1.1.1.2 hb.1.1.2 (isLocB_ok hb.1.2) (isLocB_ok hb.2) h hw) ?_
  rintro E σ H ⟨μ0, H0, μ, env, st, at_, f⟩
  refine ⟨μ, env, st, at_.sim, at_.env, (thenPar at_ f).mono fun xs st1 μ1 H1 e1 s1 h1 vs rv => ?_⟩
  obtain ⟨g1, g2⟩ := h1 vs rv
  match vs, g1 with
  | [v, w], _ => exact ⟨v, w, rfl, g2 H1 Ext.refl s1⟩
end
end Sl
end
section
set_option Elab.async false
set_option linter.all false
set_option maxRecDepth 100000
set_option maxHeartbeats 1000000
namespace Sl
open PySem PySem.Spec PyProof.Rows L2
def dvB : He.Dv → D → Bool
  | .non, .non => true
  | .bl b, .bl c => b == c
  | .int i, .int j => decide (i = j)
  | .str z, .str y => decide (z = toS y) && Nat.ble y.length tMax
  | _, _ => false
def dvsB : List He.Dv → List D → Bool
  | [], [] => true
  | v :: vs, d :: ds => dvB v d && dvsB vs ds
  | _, _ => false
section
variable {K : Frag} {h : Heap} {mg : Str → Option Value} {x : Str}
theorem gv_int {i : Int} (e : ∃ t, mg x = some (.int i t)) : Gv mg K x (.int i) := by
  obtain ⟨t, e⟩ := e
  exact ⟨.int i, _, e, ⟨t, rfl⟩, fun F H => .int i⟩
theorem gv_str {z : Str} {y : T} (e : ∃ t, mg x = some (.str z t)) (c : (decide (z = toS y) && Nat.ble y.length tMax) = true) : Gv mg K x (.str y) := by
  obtain ⟨t, e⟩ := e
  simp only [Bool.and_eq_true, decide_eq_true_eq] at c
  obtain ⟨rfl, c2⟩ := c
  exact ⟨.str (toS y), _, e, ⟨t, rfl⟩, fun F H => .str y (Nat.le_of_ble_eq_true c2)⟩
theorem dvs_rp {F : Addr → Prop} {H : Hp} : ∀ {vs : List He.Dv} {ds : List D}, dvsB vs ds = true → RpL K F H (vs.map (He.Dv.v K)) ds
  | [], [], _ => .nil
  | [], _ :: _, c => by cases c
  | _ :: _, [], c => by cases c
  | v :: vs, d :: ds, c => by
    unfold dvsB at c
    rw [Bool.and_eq_true] at c
    refine .cons ?_ (dvs_rp c.2)
    have c1 := c.1
    unfold dvB at c1
    split at c1
    · exact .non
    · simp only [beq_iff_eq] at c1
      subst c1
      exact .bl _
    · simp only [decide_eq_true_eq] at c1
      subst c1
      exact .int _
    · simp only [Bool.and_eq_true, decide_eq_true_eq] at c1
      obtain ⟨rfl, c2⟩ := c1
      exact .str _ (Nat.le_of_ble_eq_true c2)
    · cases c1
theorem plB_ok {K : Frag} {x : Str} (h : plB K x = true) (H : Hp) : Pl K H (He.ga K x) := by
  unfold plB at h
  cases q : K.lookup (He.ga K x) with
  | none => rw [q] at h; cases h
  | some o =>
    rw [q] at h
    exact .inr ⟨o, q, Option.isNone_iff_eq_none.mp h⟩
theorem gv_tup {vs : List He.Dv} {ds : List D} (e : mg x = some (.ref (He.ga K x))) (t : He.tupB K x vs = true) (pb : plB K x = true) (c : dvsB vs ds = true) : Gv mg K x (.tup ds) :=
  ⟨.ref (He.ga K x), _, e, rfl, fun F H => .tup (He.tupB_ok t H) (plB_ok pb H) (dvs_rp c)⟩
theorem says_d {fa : List He.Fa} {fn : List He.DefD} {ts : List He.Tab} {w : World} (c : He.SaysT fa fn ts w K) : He.SaysD fa fn K := (Prod.mk.inj c).1
theorem def_of {fa : List He.Fa} {fn : List He.DefD} (X : K.In h) (G : h.Ns mainGlobals mg) (c : He.SaysD fa fn K) (i j : Nat) {f : Str} {st : Stmt} (hd : fn[i]? = some ⟨(f, none), f, f, defArgs st, defBody st, defScope st, [], []⟩) (hf : fa[j]? = some (.glo f)) :
    ∃ a fd, FunD K f f (defArgs st) (defBody st) (defScope st) [] [] a fd ∧ mg f = some (.ref a) := by
  obtain ⟨fd, F⟩ := c.def_ i hd
  exact ⟨_, fd, F, He.glo_ok X G (c.fact j hf)⟩
end
end Sl
end
section
set_option Elab.async false
set_option linter.all false
set_option maxRecDepth 100000
set_option maxHeartbeats 1000000
namespace Sl
open PySem PySem.Spec PyProof.Rows L2
theorem forGo_post {src : Option Src} {all : List Val} {gm : GM} {mb : SM} {env : Slots} {st : Sto} {Post : SR → Prop} (I : Nat → Slots → Sto → Prop) (h0 : I 0 env st)
    (hs : ∀ i x env st, all[i]? = some x → I i env st → watch st src all = true ∧ ∃ env1, gm x env = some env1 ∧ (match mb env1 st with
      | .nx e s => I (i + 1) e s
      | .ct e s => I (i + 1) e s
      | .bk e s => Post (.nx e s)
      | r => Post r)) (hd : ∀ env st, I all.length env st → watch st src all = true ∧ Post (.nx env st)) : Post (forGo src all gm mb all env st) := by
  have key : ∀ (rest : List Val) (i : Nat) (env : Slots) (st : Sto), all.drop i = rest → I i env st → i ≤ all.length → Post (forGo src all gm mb rest env st) := by
    intro rest
    induction rest with
    | nil =>
      intro i env st hr hi hl
      have : i = all.length := by
        have := congrArg List.length hr
        simp at this
        omega
      subst this
      obtain ⟨h1, h2⟩ := hd env st hi
      unfold forGo
      rw [if_pos h1]
      exact h2
    | cons x rest ih =>
      intro i env st hr hi hl
      have hx : all[i]? = some x := by
        have := congrArg (·[0]?) hr
        simpa using this
      have hlt : i < all.length := (List.getElem?_eq_some_iff.mp hx).1
      obtain ⟨h1, env1, h2, h3⟩ := hs i x env st hx hi
      have hr2 : all.drop (i + 1) = rest := by
        have := congrArg List.tail hr
        rw [List.tail_drop] at this
        exact this
      unfold forGo
      rw [if_pos h1, h2]
      dsimp only
      revert h3
      generalize mb env1 st = r
      intro h3
      cases r with
      | nx e s => exact ih (i + 1) e s hr2 h3 hlt
      | ct e s => exact ih (i + 1) e s hr2 h3 hlt
      | bk e s => exact h3
      | fail => exact h3
      | rt v s => exact h3
      | exc c fs e s => exact h3
  exact key all 0 env st rfl h0 (Nat.zero_le _)
theorem lcGo_inv {src : Option Src} {all : List Val} {gm : GM} {mt : TM} {me : EM} {env : Slots} {st : Sto} (I : Nat → List Val → Sto → Prop) (h0 : I 0 [] st)
    (hs : ∀ i x acc st, all[i]? = some x → I i acc st → watch st src all = true ∧ ∃ env1, gm x env = some env1 ∧ ∃ b st1, mt env1 st = .ok b st1 ∧ (b = false → I (i + 1) acc st1) ∧ (b = true → ∃ y st2, me env1 st1 = .ok y st2 ∧ I (i + 1) (acc ++ [y]) st2))
    (hd : ∀ acc st, I all.length acc st → watch st src all = true) : ∃ ys st', lcGo src all gm mt me env all st = .ok ys st' ∧ I all.length ys st' := by
  have key : ∀ (rest : List Val) (i : Nat) (acc : List Val) (st : Sto), all.drop i = rest → I i acc st → i ≤ all.length → ∃ ys st', lcGo src all gm mt me env rest st = .ok ys st' ∧ I all.length (acc ++ ys) st' := by
    intro rest
    induction rest with
    | nil =>
      intro i acc st hr hi hl
      have : i = all.length := by
        have := congrArg List.length hr
        simp at this
        omega
      subst this
      unfold lcGo
      rw [if_pos (hd acc st hi)]
      exact ⟨[], st, rfl, by rw [List.append_nil]; exact hi⟩
    | cons x rest ih =>
      intro i acc st hr hi hl
      have hx : all[i]? = some x := by
        have := congrArg (·[0]?) hr
        simpa using this
      have hlt : i < all.length := (List.getElem?_eq_some_iff.mp hx).1
      obtain ⟨h1, env1, h2, b, st1, h3, h4, h5⟩ := hs i x acc st hx hi
      have hr2 : all.drop (i + 1) = rest := by
        have := congrArg List.tail hr
        rw [List.tail_drop] at this
        exact this
      unfold lcGo
      rw [if_pos h1, h2]
      dsimp only
      rw [h3]
      dsimp only [R.bind]
      cases b with
      | false =>
        dsimp only
        exact ih (i + 1) acc st1 hr2 (h4 rfl) hlt
      | true =>
        dsimp only
        obtain ⟨y, st2, h6, h7⟩ := h5 rfl
        rw [h6]
        dsimp only
        obtain ⟨ys, st', e, hI⟩ := ih (i + 1) (acc ++ [y]) st2 hr2 h7 hlt
        rw [e]
        exact ⟨y :: ys, st', rfl, by simpa using hI⟩
  obtain ⟨ys, st', e, h⟩ := key all 0 [] st rfl h0 (Nat.zero_le _)
  exact ⟨ys, st', e, by simpa using h⟩
theorem lcGo_pure {src : Option Src} {gm : GM} {mt : TM} {me : EM} {env : Slots} {st : Sto} {all : List Val} (p : Val → Bool) (f : Val → Val) (hw : watch st src all = true) :
    ∀ {rest : List Val}, (∀ x ∈ rest, ∃ env1, gm x env = some env1 ∧ mt env1 st = .ok (p x) st ∧ (p x = true → me env1 st = .ok (f x) st)) → lcGo src all gm mt me env rest st = .ok ((rest.filter p).map f) st
  | [], _ => by unfold lcGo; rw [if_pos hw]; rfl
  | x :: rest, h => by
    obtain ⟨env1, h1, h2, h3⟩ := h x (List.mem_cons_self ..)
    have ih := lcGo_pure p f hw (rest := rest) fun y hy => h y (List.mem_cons_of_mem _ hy)
    unfold lcGo
    rw [if_pos hw, h1]
    dsimp only
    rw [h2]
    dsimp only [R.bind]
    cases q : p x with
    | false =>
      dsimp only
      rw [ih]
      simp [q]
    | true =>
      dsimp only
      rw [h3 q]
      dsimp only
      rw [ih]
      simp [q]
theorem sameV_refl : ∀ v : Val, (∀ c fs, v ≠ .x c fs) → sameV v v = true
  | .p d, _ => sameD_refl d
  | .r l, _ => by simp [sameV]
  | .x c fs, h => absurd rfl (h c fs)
theorem sameVs_refl : ∀ xs : List Val, (∀ v ∈ xs, ∀ c fs, v ≠ .x c fs) → sameVs xs xs = true
  | [], _ => rfl
  | x :: xs, h => by
    simp only [sameVs, Bool.and_eq_true]
    exact ⟨sameV_refl x (h x (List.mem_cons_self ..)), sameVs_refl xs fun v hv => h v (List.mem_cons_of_mem _ hv)⟩
theorem pureL_map : ∀ ds : List D, pureL (ds.map .p) = some ds
  | [] => rfl
  | d :: ds => by simp [pureL, pureL_map ds]
end Sl
namespace Sl
theorem seq_nx {m k : SM} {env env' : Slots} {st st' : Sto} (h : m env st = .nx env' st') : sSeq m k env st = k env' st' := by
  unfold sSeq
  rw [h]
theorem seq_rt {m k : SM} {env : Slots} {st st' : Sto} {v : Val} (h : m env st = .rt v st') : sSeq m k env st = .rt v st' := by
  unfold sSeq
  rw [h]
theorem seq_bk {m k : SM} {env env' : Slots} {st st' : Sto} (h : m env st = .bk env' st') : sSeq m k env st = .bk env' st' := by
  unfold sSeq
  rw [h]
theorem seq_end {m : SM} {env : Slots} {st : Sto} : sSeq m sNil env st = m env st := by
  unfold sSeq sNil
  cases m env st <;> rfl
theorem body_rt {k : Nat} {m : Nat → SM} {xs : List Val} {st st' : Sto} {v : Val} (h : m st.length (xs.map some ++ List.replicate (k - xs.length) none) st = .rt v st') : bodyF k m xs st = .ok v st' := by
  unfold bodyF
  rw [h]
end Sl
namespace Sl
theorem frzL_data (n0 : Nat) (st : Sto) (n : Nat) : ∀ ds : List D, frzL n0 st n (ds.map .p) = some ds
  | [] => by cases n <;> simp [frzL]
  | d :: ds => by
    have h : frzV n0 st n (.p d) = some d := by cases n <;> simp [frzV]
    cases n <;> simp [frzL, h, frzL_data]
theorem ret_lst {n0 i l : Nat} {env : Slots} {st : Sto} {ds : List D} (h1 : st.length ≠ n0) (h2 : (st.take n0).all (closedO n0) = true) (h3 : env[i]? = some (some (.r l))) (h4 : n0 ≤ l) (h5 : st[l]? = some (.lst (ds.map .p))) : sRet n0 (mVar i) env st = .rt (.p (.lst ds)) (st.take n0) := by
  unfold sRet settle
  rw [if_neg h1, if_neg h1, if_pos h2]
  dsimp only
  have e : mVar i (env.map (frzS n0 st)) (st.take n0) = .ok (.p (.lst ds)) (st.take n0) := by
    unfold mVar
    rw [List.getElem?_map, h3]
    simp only [Option.map, frzS]
    rw [if_neg (by omega)]
    unfold frzV
    rw [if_neg (by omega), h5]
    dsimp only
    rw [frzL_data]
  rw [e]
end Sl
namespace Sl
open PySem PySem.Spec PyProof.Rows L2
theorem comp_D {ow : List Nat} {mi : IM} {gm : GM} {mt : TM} {me : EM} {env : Slots} {st : Sto} {src : Option Src} {ds : List D} (p : D → Bool) (f : D → D) (hi : mi env st = .ok (ds.map .p, src) st) (hw : watch st src (ds.map .p) = true) (hl : ds.length ≤ sizeLine)
    (h : ∀ d ∈ ds, ∃ env1, gm (.p d) (wipeE env ow) = some env1 ∧ mt env1 st = .ok (p d) st ∧ (p d = true → me env1 st = .ok (.p (f d)) st)) : mComp false ow mi gm mt me env st = .ok (.p (.lst ((ds.filter p).map f))) st := by
  have e : lcGo src (ds.map .p) gm mt me (wipeE env ow) (ds.map .p) st = .ok (((ds.filter p).map f).map .p) st := by
    have := lcGo_pure (src := src) (gm := gm) (mt := mt) (me := me) (env := wipeE env ow) (st := st) (all := ds.map .p) (fun v => match v with | .p d => p d | _ => false) (fun v => match v with | .p d => .p (f d) | v => v) hw (rest := ds.map .p) (fun x hx => by
      obtain ⟨d, hd, rfl⟩ := List.mem_map.mp hx
      exact h d hd)
    rw [this, List.filter_map, List.map_map, List.map_map]
    rfl
  unfold mComp
  rw [hi]
  simp only [R.bind, e, R.noExc, newLst, pureL_map]
  rw [if_pos (by rw [List.length_map]; exact Nat.le_trans (List.length_filter_le _ _) hl)]
  rfl
theorem iter_tupD {m : EM} {env : Slots} {st : Sto} {ds : List D} (h : m env st = .ok (.p (.tup ds)) st) : mIter m env st = .ok (ds.map .p, none) st := by
  unfold mIter
  rw [h]
  rfl
theorem iter_lstD {m : EM} {env : Slots} {st : Sto} {ds : List D} (h : m env st = .ok (.p (.lst ds)) st) : mIter m env st = .ok (ds.map .p, none) st := by
  unfold mIter
  rw [h]
  rfl
theorem iter_strD {m : EM} {env : Slots} {st : Sto} {t : T} (h : m env st = .ok (.p (.str t)) st) : mIter m env st = .ok ((t.map fun c => D.str [c]).map .p, none) st := by
  unfold mIter
  rw [h]
  simp [R.bind, itemsOf]
theorem rng1_D {am : AM} {env : Slots} {st : Sto} {j : Int} (h : am env st = .ok [.p (.int j)] st) (hj : -1000000 < j ∧ j < 1000000) : mRng1 am env st = .ok (((List.range j.toNat).map fun k : Nat => D.int k).map .p, none) st := by
  unfold mRng1
  rw [h]
  have w : inW j = true := by
    have e : (2 : Int) ^ 62 = 4611686018427387904 := by decide
    simp only [inW, Bool.and_eq_true, decide_eq_true_eq, e]
    omega
  simp [R.bind, w, rngItems]
end Sl
namespace Sl
open PySem PySem.Spec PyProof.Rows L2
theorem filter_yes {α : Type} (xs : List α) : xs.filter (fun _ => true) = xs := by simp
theorem all_bl {st : Sto} {α : Type} (xs : List α) (p : α → Bool) : fAll false [.p (.lst (xs.map fun x => .bl (p x)))] st = some (.p (.bl (xs.all p)), st) := by
  have h : bools ((xs.map fun x => D.bl (p x)).map Val.p) = some (xs.map p) := by
    induction xs with
    | nil => rfl
    | cons x xs ih => simp only [List.map_cons, bools, ih]
  simp only [fAll, viewL, h]
  simp [List.all_map]
end Sl
end
section
set_option Elab.async false
set_option linter.all false
set_option maxRecDepth 100000
set_option maxHeartbeats 1000000
namespace Sl
open PySem PySem.Spec PyProof.Rows L2
section
variable {ma mb mc m : EM} {am : AM} {t u : TM} {env env' : Slots} {st st' : Sto} {a b : Bool} {x y z v : Val} {xs : List Val} {d : D} {r : R Val} {sr : SR} {k : SM} {n0 n : Nat}
abbrev yes (b : Bool) : Val := .p (.bl b)
theorem ev_and (h1 : ma env st = .ok (yes a) st) (h2 : a = true → mb env st = .ok (yes b) st) : mAndV ma mb env st = .ok (yes (a && b)) st := by
  unfold mAndV
  rw [h1]
  cases a with
  | true => exact h2 rfl
  | false => rfl
theorem ev_or (h1 : ma env st = .ok (yes a) st) (h2 : a = false → mb env st = .ok (yes b) st) : mOrV ma mb env st = .ok (yes (a || b)) st := by
  unfold mOrV
  rw [h1]
  cases a with
  | false => exact h2 rfl
  | true => rfl
theorem ev_chain {f g : F2} (hx : ma env st = .ok x st) (hy : mb env st = .ok y st) (h1 : f x y st = some (yes a, st)) (h2 : a = true → ∃ z, mc env st = .ok z st ∧ g y z st = some (yes b, st)) : mChain f g ma mb mc env st = .ok (yes (a && b)) st := by
  unfold mChain
  rw [hx]
  simp only [R.bind]
  rw [hy]
  simp only [R.bind]
  rw [h1]
  cases a with
  | true =>
    obtain ⟨z, e1, e2⟩ := h2 rfl
    dsimp only
    rw [e1]
    simp only [R.bind]
    rw [e2]
    rfl
  | false => rfl
theorem ev_2 {f : F2} (hx : ma env st = .ok x st) (hy : mb env st = .ok y st) (h : f x y st = some (v, st')) : m2 f ma mb env st = .ok v st' := by
  unfold m2
  rw [hx]
  simp only [R.bind]
  rw [hy]
  simp only [R.bind]
  rw [h]
  rfl
theorem ev_app {F : FS} (ha : am env st = .ok xs st) (hl : xs.length = n) (h : F xs st = r) : mApp n F am env st = r := by
  unfold mApp
  rw [ha]
  simp only [R.bind]
  rw [if_pos hl]
  exact h
theorem ev_call {f : FL} (ha : am env st = .ok xs st) (h : f xs st = some (v, st')) : mCall f am env st = .ok v st' := by
  unfold mCall
  rw [ha]
  simp only [R.bind]
  rw [h]
  rfl
theorem ev_isi {T : String} {s : String} (h : m env st = .ok x st) (h2 : tyName st x = some s) : mIsi T m env st = .ok (yes (isTy s T)) st := by
  unfold mIsi
  rw [h]
  simp only [R.bind]
  rw [h2]
def isTup : D → Bool
  | .tup _ => true
  | _ => false
def isStr : D → Bool
  | .str _ => true
  | _ => false
theorem ev_isTup (h : m env st = .ok (.p d) st) : mIsi "tuple" m env st = .ok (yes (isTup d)) st := by
  unfold mIsi
  rw [h]
  cases d <;> rfl
theorem ev_isStr (h : m env st = .ok (.p d) st) : mIsi "str" m env st = .ok (yes (isStr d)) st := by
  unfold mIsi
  rw [h]
  cases d <;> rfl
theorem ev_if (ht : t env st = .ok b st) (h1 : b = true → ma env st = r) (h2 : b = false → mb env st = r) : mIf t ma mb env st = r := by
  unfold mIf
  rw [ht]
  simp only [R.bind]
  cases b with
  | true => exact h1 rfl
  | false => exact h2 rfl
theorem ev_tup {ds : List D} (ha : am env st = .ok (ds.map .p) st) (hl : ds.length ≤ 1000) : mTup am env st = .ok (.p (.tup ds)) st := by
  unfold mTup
  rw [ha]
  simp only [R.bind, newTup, pureL_map]
  rw [if_pos (Nat.le_trans hl (by rw [sizeLine_eq]; omega))]
  rfl
theorem ev_lst {ds : List D} (ha : am env st = .ok (ds.map .p) st) (hl : ds.length ≤ 1000) : mLst false am env st = .ok (.p (.lst ds)) st := by
  unfold mLst
  rw [ha]
  simp only [R.bind, newLst, pureL_map]
  rw [if_pos (Nat.le_trans hl (by rw [sizeLine_eq]; omega))]
  rfl
theorem et_val (h : m env st = .ok (yes b) st) : tVal m env st = .ok b st := by
  unfold tVal
  rw [h]
  rfl
theorem et_truth (h : m env st = .ok (yes b) st) : tTruth m env st = .ok b st := by
  unfold tTruth
  rw [h]
  rfl
theorem et_not (h : t env st = .ok b st) : tNotM t env st = .ok (!b) st := by
  unfold tNotM
  rw [h]
  rfl
theorem et_and (h1 : t env st = .ok a st) (h2 : a = true → u env st = .ok b st) : tAndM t u env st = .ok (a && b) st := by
  unfold tAndM
  rw [h1]
  cases a with
  | true => exact h2 rfl
  | false => rfl
theorem et_or (h1 : t env st = .ok a st) (h2 : a = false → u env st = .ok b st) : tOrM t u env st = .ok (a || b) st := by
  unfold tOrM
  rw [h1]
  cases a with
  | false => exact h2 rfl
  | true => rfl
theorem es_guard (hn : st.length = n0) (ht : t env st = .ok b st) (h : b = false → k env st = sr) : sSeq (sIf t (sSeq (sRet n0 (mD d)) sNil) sNil) k env st = bif b then .rt (.p d) st else sr := by
  unfold sSeq sIf
  rw [ht]
  simp only [R.then]
  cases b with
  | true =>
    simp only [sSeq, sRet, hn, if_true, sRetK, mD, R.then, cond_true]
  | false =>
    simp only [sNil, cond_false]
    exact h rfl
theorem es_in (hn : st.length = n0) (ht : t env st = .ok false st) : sSeq (sIf t (sSeq (sRet n0 (mD d)) sNil) sNil) k env st = k env st := (es_guard (b := false) hn ht fun _ => rfl).trans rfl
theorem es_ret (hn : st.length = n0) (hm : m env st = .ok v st') : sSeq (sRet n0 m) sNil env st = .rt v st' := by
  simp only [sSeq, sRet, hn, if_true, sRetK, hm, R.then]
theorem es_asg {gm : GM} (hm : m env st = .ok v st') (hg : gm v env = some env') (hk : k env' st' = sr) : sSeq (sAsg m gm) k env st = sr := by
  unfold sSeq sAsg
  rw [hm]
  simp only [R.then]
  rw [hg]
  exact hk
theorem es_if {m1 m2 : SM} (ht : t env st = .ok b st) (h1 : b = true → m1 env st = sr) (h2 : b = false → m2 env st = sr) : sIf t m1 m2 env st = sr := by
  unfold sIf
  rw [ht]
  simp only [R.then]
  cases b with
  | true => exact h1 rfl
  | false => exact h2 rfl
theorem a_cons (h : m env st = .ok x st) (hs : am env st = .ok xs st) : aCons m am env st = .ok (x :: xs) st := by
  unfold aCons
  rw [h]
  simp only [R.bind]
  rw [hs]
theorem a1 (h : m env st = .ok x st) : aCons m aNil env st = .ok [x] st := a_cons h rfl
theorem a2 (h : ma env st = .ok x st) (h2 : mb env st = .ok y st) : aCons ma (aCons mb aNil) env st = .ok [x, y] st := a_cons h (a1 h2)
theorem a3 (h : ma env st = .ok x st) (h2 : mb env st = .ok y st) (h3 : mc env st = .ok z st) : aCons ma (aCons mb (aCons mc aNil)) env st = .ok [x, y, z] st := a_cons h (a2 h2 h3)
theorem f_rt {k0 : Nat} {B : Nat → SM} (h : B st.length (xs.map some ++ List.replicate (k0 - xs.length) none) st = .rt v st') : bodyF k0 B xs st = .ok v st' := body_rt h
theorem f_gd {k0 : Nat} {B : Nat → SM} (h : B st.length (xs.map some ++ List.replicate (k0 - xs.length) none) st = bif b then .rt (.p d) st else .rt v st) : bodyF k0 B xs st = .ok (bif b then .p d else v) st := by
  cases b with
  | true => exact body_rt h
  | false => exact body_rt h
theorem ev_all {ow : List Nat} {mi : IM} {gm : GM} {src : Option Src} {ds : List D} (p : D → Bool) (hi : mi env st = .ok (ds.map .p, src) st) (hw : watch st src (ds.map .p) = true) (hl : ds.length ≤ 100000)
    (h : ∀ d ∈ ds, ∃ env1, gm (.p d) (wipeE env ow) = some env1 ∧ m env1 st = .ok (yes (p d)) st) : mCall (fAll false) (aCons (mComp false ow mi gm tmYes m) aNil) env st = .ok (yes (ds.all p)) st := by
  have e := comp_D (fun _ => true) (fun d => .bl (p d)) hi hw (Nat.le_trans hl (by rw [sizeLine_eq]; omega)) (mt := tmYes) (me := m) (gm := gm) (ow := ow) fun d hd => by
    obtain ⟨env1, h1, h2⟩ := h d hd
    exact ⟨env1, h1, rfl, fun _ => h2⟩
  refine ev_call (a1 e) ?_
  rw [filter_yes]
  exact all_bl ds p
end
end Sl
namespace Sl
open PySem PySem.Spec PyProof.Rows L2
end Sl
namespace Sl
open PySem PySem.Spec PyProof.Rows L2
section
variable {ma mb mc m : EM} {am : AM} {t u : TM} {env env' : Slots} {st st' st1 st2 st3 : Sto} {a b : Bool} {x y z v : Val} {xs : List Val} {d : D} {r : R Val} {sr : SR} {k : SM} {n0 n : Nat}
theorem sv_2 {f : F2} (hx : ma env st = .ok x st1) (hy : mb env st1 = .ok y st2) (h : f x y st2 = some (v, st3)) : m2 f ma mb env st = .ok v st3 := by
  unfold m2
  rw [hx]
  simp only [R.bind]
  rw [hy]
  simp only [R.bind]
  rw [h]
  rfl
theorem sa (h : m env st = .ok x st1) (hs : am env st1 = .ok xs st2) : aCons m am env st = .ok (x :: xs) st2 := by
  unfold aCons
  rw [h]
  simp only [R.bind]
  rw [hs]
theorem sv_tup {ds : List D} (ha : am env st = .ok (ds.map .p) st1) (hl : ds.length ≤ 1000) : mTup am env st = .ok (.p (.tup ds)) st1 := by
  unfold mTup
  rw [ha]
  simp only [R.bind, newTup, pureL_map]
  rw [if_pos (Nat.le_trans hl (by rw [sizeLine_eq]; omega))]
  rfl
theorem sv_app {F : FS} (ha : am env st = .ok xs st1) (hl : xs.length = n) (h : F xs st1 = r) : mApp n F am env st = r := by
  unfold mApp
  rw [ha]
  simp only [R.bind]
  rw [if_pos hl]
  exact h
theorem sv_call {f : FL} (ha : am env st = .ok xs st1) (h : f xs st1 = some (v, st2)) : mCall f am env st = .ok v st2 := by
  unfold mCall
  rw [ha]
  simp only [R.bind]
  rw [h]
  rfl
theorem st_val (h : m env st = .ok (yes b) st1) : tVal m env st = .ok b st1 := by
  unfold tVal
  rw [h]
  rfl
theorem sv_if (ht : t env st = .ok b st1) (h1 : b = true → ma env st1 = r) (h2 : b = false → mb env st1 = r) : mIf t ma mb env st = r := by
  unfold mIf
  rw [ht]
  simp only [R.bind]
  cases b with
  | true => exact h1 rfl
  | false => exact h2 rfl
theorem ss_if {m1 m2 : SM} (ht : t env st = .ok b st1) (h1 : b = true → m1 env st1 = sr) (h2 : b = false → m2 env st1 = sr) : sIf t m1 m2 env st = sr := by
  unfold sIf
  rw [ht]
  simp only [R.then]
  cases b with
  | true => exact h1 rfl
  | false => exact h2 rfl
theorem ss_in (ht : t env st = .ok false st1) : sSeq (sIf t (sSeq (sRet n0 m) sNil) sNil) k env st = k env st1 := by
  unfold sSeq sIf
  rw [ht]
  rfl
theorem ss_out (hn : st.length = n0) (ht : t env st = .ok true st1) (hn1 : st1.length = n0) (h : m env st1 = .ok v st2) : sSeq (sIf t (sSeq (sRet n0 m) sNil) sNil) k env st = .rt v st2 := by
  unfold sSeq sIf
  rw [ht]
  simp only [R.then, sSeq, sRet, hn1, if_true, sRetK, h]
end
end Sl
namespace Sl
open PySem PySem.Spec PyProof.Rows L2
theorem inW_small {z : Int} (h1 : -1000000 < z) (h2 : z < 1000000) : inW z = true := by
  have e : (2 : Int) ^ 62 = 4611686018427387904 := by decide
  simp only [inW, Bool.and_eq_true, decide_eq_true_eq, e]
  omega
theorem srngZ {am : AM} {env : Slots} {st st1 : Sto} {z : Int} (h : am env st = .ok [.p (.int z)] st1) (hw : inW z = true) : mRng1 am env st = .ok (rngItems 0 z.toNat, none) st1 := by
  unfold mRng1
  rw [h]
  simp only [R.bind, hw, if_true]
theorem srng1 {am : AM} {env : Slots} {st st1 : Sto} {n : Nat} (h : am env st = .ok [.p (.int n)] st1) (hn : n < 1000000) : mRng1 am env st = .ok (rngItems 0 n, none) st1 := by
  have e := srngZ h (inW_small (by omega) (by omega))
  rw [Int.toNat_natCast] at e
  exact e
end Sl
namespace Sl
end Sl
end
section
set_option Elab.async false
set_option linter.all false
set_option maxRecDepth 100000
set_option maxHeartbeats 1000000
namespace Sl
open PySem PySem.Spec PyProof.Rows L2
def lookV (f : Str) : List (Str × Val) → Option Val
  | [] => none
  | (g, x) :: r => if g = f then some x else lookV f r
section
variable {X : Cx} {G : Grd} {W : WX} {K : Frag} {hid : List Addr} {μ : List Addr} {H : Hp} {st : Sto} {pos p p' apos : Pos} {o e : Expr} {es : List Expr} {mo m : EM} {am : AM} {n0 : Nat}
end
section
variable {P : Program} {w : World} {K : Frag} {mg : Str → Option Value} {base : Heap} {cls : Str → Option Addr} {c x qual : Str} {params : Arguments} {body : List Stmt} {scope : Scope} {kws : List (Str × V)} {f C : Addr} {fd : FuncData} {N ps : List Str} {k n nn : Nat} {m : Nat → SM}
end
end Sl
end
section
set_option Elab.async false
set_option linter.all false
set_option maxRecDepth 100000
set_option maxHeartbeats 1000000
namespace Sl
open PySem PySem.Spec PyProof.Rows L2
section
variable {X : Cx} {G : Grd} {W : WX} {n0 : Nat}
end
end Sl
end
section
set_option Elab.async false
set_option linter.all false
set_option maxRecDepth 100000
namespace Sl
open PySem PySem.Spec PyProof.Rows L2
end Sl
end
section
set_option Elab.async false
set_option linter.all false
set_option maxRecDepth 100000
set_option maxHeartbeats 2000000
namespace Sl
open PySem PySem.Spec PyProof.Rows L2
inductive Sq where
  | l | t
def Sq.it (k : Sq) (h : Heap) (i a : Addr) (n : Nat) : Prop := match k with
  | .l => h.IsListIter i a n
  | .t => h.IsTupleIter i a n
def Sq.is (k : Sq) (h : Heap) (a : Addr) (xs : Array Value) : Prop := match k with
  | .l => h.IsList a xs
  | .t => h.IsTuple a xs
def Sq.nm : Sq → String
  | .l => "list_iterator"
  | .t => "tuple_iterator"
section
variable {prog : Program} {w : World} {A : Around} {E : Value → Shared → Prop} {s : Shared}
theorem Sq.nxt {k : Sq} {i a : Addr} {n : Nat} {xs : Array Value} {x : Value} {Q : Value → Shared → Prop} (j : k.it s.heap i a n) (q : k.is s.heap a xs) (hx : xs[n]? = some x)
    (hQ : ∀ g, k.it g i a (n + 1) → Heap.SameBut i s.heap g → Q x { s with heap := g }) : wpAny (model prog w) A (Builtin.SmallTypes.nextOf (.ref i)) Q E s := by
  cases k
  · exact wpAny_nextOf_list_item j q hx hQ
  · exact RZ.nextOf_tuple_item j q hx hQ
theorem Sq.fin {k : Sq} {i a : Addr} {n : Nat} {xs : Array Value} {Q : Value → Shared → Prop} (hh : A.handled = none) (j : k.it s.heap i a n) (q : k.is s.heap a xs) (hx : xs[n]? = none)
    (hE : ∀ g e, Heap.ExtBut i s.heap g → (∃ o, g.get? e = some o ∧ o.cls = .type "StopIteration") → E (.ref e) { s with heap := g }) : wpAny (model prog w) A (Builtin.SmallTypes.nextOf (.ref i)) Q E s := by
  cases k
  · exact wpAny_nextOf_list_end hh j q hx hE
  · exact RZ.nextOf_tuple_end hh j q hx hE
end
end Sl
end
section
set_option Elab.async false
set_option linter.all false
set_option maxRecDepth 100000
set_option maxHeartbeats 2000000
namespace Sl
open PySem PySem.Spec PyProof.Rows L2
def Sq.rd (k : Sq) (K : Frag) (H : Hp) (a : Addr) (xs : List V) : Prop := match k with
  | .l => SqL K H a xs
  | .t => SqT K H a xs
theorem Sq.seq {k : Sq} {X : Cx} {pins : List (Addr × Obj)} {σ : L2.St} {H : Hp} {s : Shared} {a : Addr} {xs : List V} (I : Inv X pins σ H s) (q : k.rd X.K H a xs) : ∃ its : List Value, Vals xs its ∧ k.is s.heap a its.toArray ∧ a < s.heap.objs.size := by
  cases k
  · obtain ⟨its, r, p, _⟩ := I.list q
    exact ⟨its, r, p.isList, p.lt⟩
  · obtain ⟨its, r, p, _⟩ := I.tuple q
    obtain ⟨o, ho, _⟩ := id p
    exact ⟨its, r, p, Heap.lt_size ho⟩
theorem Sq.inj {k : Sq} {X : Cx} {pins : List (Addr × Obj)} {σ : L2.St} {H : Hp} {s : Shared} {a : Addr} {xs ys : List V} (I : Inv X pins σ H s) (q : k.rd X.K H a xs) (r : k.rd X.K H a ys) : xs = ys := by
  cases k
  · exact I.list_inj q r
  · exact I.tuple_inj q r
section
variable {X : Cx} {G : Grd} {W : WX} {μ : List Addr} {H : Hp} {st : Sto} {v : V} {x : Val}
end
end Sl
end
section
set_option Elab.async false
set_option linter.all false
set_option maxRecDepth 100000
set_option maxHeartbeats 0
namespace Sh
open PySem PySem.Spec L2 Sl PyProof.Rows
noncomputable def B_is_whole (n0 : Nat) : SM := (sSeq (sRet n0 (mAndV (mIsi "int" (mVar 0)) (mNotV (mIsi "bool" (mVar 0))))) sNil)
noncomputable def F_is_whole : FS := bodyF 1 B_is_whole
noncomputable def B_is_between (n0 : Nat) : SM := (sSeq (sRet n0 (mAndV (mApp 1 F_is_whole (aCons (mVar 0) aNil)) (mChain fLe fLe (mVar 1) (mVar 0) (mVar 2)))) sNil)
noncomputable def F_is_between : FS := bodyF 3 B_is_between
noncomputable def B__has_only (n0 : Nat) : SM := (sSeq (sRet n0 (mCall (fAll false) (aCons (mComp false [2] (mIter (mVar 0)) (gN 2) tmYes (m2 (fInX false) (mVar 2) (mVar 1))) aNil))) sNil)
noncomputable def F__has_only : FS := bodyF 3 B__has_only
def c_LETTERS : D := (D.str ['a', 'b', 'c', 'd', 'e', 'f', 'g', 'h', 'i', 'j', 'k', 'l', 'm', 'n', 'o', 'p', 'q', 'r', 's', 't', 'u', 'v', 'w', 'x', 'y', 'z'])
def c_DIGITS : D := (D.str ['0', '1', '2', '3', '4', '5', '6', '7', '8', '9'])
def c_MOST_SIGNS : D := (D.int 10)
noncomputable def B_is_name (n0 : Nat) : SM := (sSeq (sIf (tOrM (tNotM (tTruth (mIsi "str" (mVar 0)))) (tNotM (tVal (mChain fLe fLe (mD (.int 1)) (mCall fLen (aCons (mVar 0) aNil)) (mD c_MOST_SIGNS))))) (sSeq (sRet n0 (mD (.bl false))) sNil) sNil) (sSeq (sRet n0 (mAndV (m2 (fInX false) (m2 fIx (mVar 0) (mD (.int 0))) (mD c_LETTERS)) (mApp 2 F__has_only (aCons (mVar 0) (aCons (m2 (fAdd false) (mD c_LETTERS) (mD c_DIGITS)) aNil))))) sNil))
noncomputable def F_is_name : FS := bodyF 1 B_is_name
noncomputable def B_is_ascending (n0 : Nat) : SM := (sSeq (sRet n0 (mCall (fAll false) (aCons (mComp false [1] (mRng1 (aCons (m2 fSub (mCall fLen (aCons (mVar 0) aNil)) (mD (.int 1))) aNil)) (gN 1) tmYes (m2 fLt (m2 fIx (mVar 0) (mVar 1)) (m2 fIx (mVar 0) (m2 (fAdd false) (mVar 1) (mD (.int 1)))))) aNil))) sNil)
noncomputable def F_is_ascending : FS := bodyF 2 B_is_ascending
noncomputable def B_is_pair (n0 : Nat) : SM := (sSeq (sRet n0 (mAndV (mIsi "tuple" (mVar 0)) (m2 (fEq false) (mCall fLen (aCons (mVar 0) aNil)) (mD (.int 2))))) sNil)
noncomputable def F_is_pair : FS := bodyF 1 B_is_pair
def c_MOST_NAMES : D := (D.int 8)
def c_MOST_NUMBER : D := (D.int 99)
noncomputable def B_is_any_terms (n0 : Nat) : SM := (sSeq (sIf (tOrM (tNotM (tTruth (mIsi "tuple" (mVar 0)))) (tNotM (tTruth (mCall (fAll false) (aCons (mComp false [1] (mIter (mVar 0)) (gN 1) tmYes (mAndV (mApp 1 F_is_pair (aCons (mVar 1) aNil)) (mApp 1 F_is_name (aCons (m2 fIx (mVar 1) (mD (.int 0))) aNil)))) aNil))))) (sSeq (sRet n0 (mD (.bl false))) sNil) sNil) (sSeq (sIf (tNotM (tTruth (mCall (fAll false) (aCons (mComp false [1] (mIter (mVar 0)) (gN 1) tmYes (mAndV (mApp 3 F_is_between (aCons (m2 fIx (mVar 1) (mD (.int 1))) (aCons (mNeg (mD c_MOST_NUMBER)) (aCons (mD c_MOST_NUMBER) aNil)))) (m2 (fEq true) (m2 fIx (mVar 1) (mD (.int 1))) (mD (.int 0))))) aNil)))) (sSeq (sRet n0 (mD (.bl false))) sNil) sNil) (sSeq (sRet n0 (mApp 1 F_is_ascending (aCons (mComp false [1] (mIter (mVar 0)) (gN 1) tmYes (m2 fIx (mVar 1) (mD (.int 0)))) aNil))) sNil)))
noncomputable def F_is_any_terms : FS := bodyF 2 B_is_any_terms
noncomputable def B_is_terms (n0 : Nat) : SM := (sSeq (sRet n0 (mAndV (mApp 1 F_is_any_terms (aCons (mVar 1) aNil)) (mCall (fAll false) (aCons (mComp false [2] (mIter (mVar 1)) (gN 2) tmYes (m2 (fInX false) (m2 fIx (mVar 2) (mD (.int 0))) (mVar 0))) aNil)))) sNil)
noncomputable def F_is_terms : FS := bodyF 3 B_is_terms
def c_KINDS : D := (D.tup [(D.str ['m', 'o', 's', 't']), (D.str ['j', 'u', 's', 't'])])
def c_MOST_BOUND : D := (D.int 9999)
def c_MOST_ROWS : D := (D.int 20)
noncomputable def B__law_cell (n0 : Nat) : SM := (sSeq (sIf (tVal (m2 fLt (mVar 1) (mCall fLen (aCons (mVar 0) aNil)))) (sSeq (sRet n0 (m2 fIx (mVar 0) (mVar 1))) sNil) sNil) (sSeq (sRet n0 (mD (.int 0))) sNil))
noncomputable def F__law_cell : FS := bodyF 2 B__law_cell
noncomputable def B__law_digits (n0 : Nat) : SM := (sSeq (sAsg (mLst true aNil) (gN 3)) (sSeq (sFor (mRng2 (aCons (mVar 1) (aCons (mVar 2) aNil))) (gN 4) (sSeq (sAsg (mApp 2 F__law_cell (aCons (mVar 0) (aCons (mVar 4) aNil))) (gN 5)) (sSeq (sIf (tVal (m2 fLt (mVar 5) (mD (.int 0)))) (sSeq (sAsg (m2 fSub (mD (.int 1)) (m2 (fMul false) (mD (.int 2)) (mVar 5))) (gN 5)) sNil) sNil) (sSeq (sIf (tVal (m2 fGt (mCall fLen (aCons (mVar 3) aNil)) (mD (.int 1500)))) (sSeq sBrk sNil) sNil) (sSeq (sIf (tVal (m2 fGe (mVar 5) (m2 fPow (mD (.int 10)) (mD (.int 18))))) (sSeq (sFor (mRng1 (aCons (mD (.int 60)) aNil)) (gN 6) (sSeq (sIf (tVal (m2 fGt (mVar 5) (mD (.int 0)))) (sSeq (sExpr (mMeth isLstV fApp (mVar 3) (aCons (m2 fMod (mCall fInt (aCons (mVar 5) aNil)) (mD (.int 1000))) aNil))) (sSeq (sAsg (m2 fFdiv (mVar 5) (mD (.int 1000))) (gN 5)) sNil)) sNil) sNil)) sNil) (sSeq (sAsg (m2 fMod (mCall fInt (aCons (m2 (fAdd false) (m2 (fAdd false) (m2 (fMul false) (mVar 5) (mD (.int 48271))) (m2 (fMul false) (mVar 4) (mD (.int 69621)))) (mD (.int 11))) aNil)) (mD (.int 2147483647))) (gN 7)) (sSeq (sFor (mRng1 (aCons (mD (.int 12)) aNil)) (gN 6) (sSeq (sAsg (m2 fMod (mCall fInt (aCons (m2 (fAdd false) (m2 (fAdd false) (m2 (fMul false) (mVar 7) (mD (.int 16807))) (m2 (fMul false) (mD (.int 7)) (mVar 6))) (mD (.int 1))) aNil)) (mD (.int 2147483647))) (gN 7)) (sSeq (sExpr (mMeth isLstV fApp (mVar 3) (aCons (m2 fMod (mCall fInt (aCons (m2 fFdiv (mVar 7) (mD (.int 997))) aNil)) (mD (.int 1000))) aNil))) sNil))) sNil))) sNil))))) (sSeq (sRet n0 (mVar 3)) sNil)))
noncomputable def F__law_digits : FS := bodyF 8 B__law_digits
noncomputable def B__law_draw (n0 : Nat) : SM := (sSeq (sAsg (m2 fIx (mVar 0) (mD (.int 1))) (gN 2)) (sSeq (sSub (mVar 0) (mD (.int 1)) (m2 (fAdd false) (mVar 2) (mD (.int 1)))) (sSeq (sIf (tVal (m2 fLt (mVar 2) (mCall fLen (aCons (m2 fIx (mVar 0) (mD (.int 0))) aNil)))) (sSeq (sRet n0 (m2 fMod (mCall fInt (aCons (m2 fIx (m2 fIx (mVar 0) (mD (.int 0))) (mVar 2)) aNil)) (mVar 1))) sNil) sNil) (sSeq (sRet n0 (m2 fMod (mCall fInt (aCons (m2 (fMul false) (mVar 2) (mD (.int 7))) aNil)) (mVar 1))) sNil))))
noncomputable def F__law_draw : FS := bodyF 3 B__law_draw
noncomputable def B__law_like (rec : FS) (n0 : Nat) : SM := (sSeq (sIf (tTruth (mIsi "tuple" (mVar 1))) (sSeq (sIf (tOrM (tNotM (tTruth (mIsi "tuple" (mVar 0)))) (tVal (m2 (fEq true) (mCall fLen (aCons (mVar 0) aNil)) (mCall fLen (aCons (mVar 1) aNil))))) (sSeq (sRet n0 (mD (.bl false))) sNil) sNil) (sSeq (sRet n0 (m2 (fEq false) (mComp false [2] (mRng1 (aCons (mCall fLen (aCons (mVar 1) aNil)) aNil)) (gN 2) (tNotM (tTruth (mApp 2 rec (aCons (m2 fIx (mVar 0) (mVar 2)) (aCons (m2 fIx (mVar 1) (mVar 2)) aNil))))) (mD (.int 1))) (mLst false aNil))) sNil)) sNil) (sSeq (sIf (tVal (m2 (fIs false) (mVar 1) (mD .non))) (sSeq (sRet n0 (m2 (fIs false) (mVar 0) (mD .non))) sNil) sNil) (sSeq (sIf (tVal (m2 (fIs false) (mVar 1) (mD (.bl true)))) (sSeq (sRet n0 (m2 (fIs false) (mVar 0) (mD (.bl true)))) sNil) sNil) (sSeq (sIf (tVal (m2 (fIs false) (mVar 1) (mD (.bl false)))) (sSeq (sRet n0 (m2 (fIs false) (mVar 0) (mD (.bl false)))) sNil) sNil) (sSeq (sIf (tTruth (mIsi "str" (mVar 1))) (sSeq (sRet n0 (mAndV (mIsi "str" (mVar 0)) (m2 (fEq false) (mMeth isStrV fJoin (mD (.str [])) (aCons (mLst false (aCons (mVar 0) aNil)) aNil)) (mVar 1)))) sNil) sNil) (sSeq (sRet n0 (mAndV (mIsi "int" (mVar 0)) (mAndV (mNotV (mIsi "bool" (mVar 0))) (m2 (fEq false) (mVar 0) (mVar 1))))) sNil))))))
noncomputable def F__law_like : Nat → FS
  | 0 => fun _ _ => .fail
  | d + 1 => bodyF 3 (B__law_like (F__law_like d))
noncomputable def B__law_terms (n0 : Nat) : SM := (sSeq (sAsg (mComp false [4] (mIter (mVar 1)) (gN 4) tmYes (mTup (aCons (mVar 4) (aCons (m2 fSub (mApp 2 F__law_draw (aCons (mVar 0) (aCons (m2 (fAdd false) (m2 (fMul false) (mD (.int 2)) (mVar 2)) (mD (.int 1))) aNil))) (mVar 2)) aNil)))) (gN 3)) (sSeq (sRet n0 (mCall fTuple (aCons (mComp false [5] (mIter (mVar 3)) (gN 5) (tVal (m2 (fEq true) (m2 fIx (mVar 5) (mD (.int 1))) (mD (.int 0)))) (mVar 5)) aNil))) sNil))
noncomputable def F__law_terms : FS := bodyF 6 B__law_terms
noncomputable def B__law_rows (n0 : Nat) : SM := (sSeq (sAsg (mCall fTuple (aCons (mComp false [5] (mRng1 (aCons (mVar 1) aNil)) (gN 5) tmYes (m2 (fAdd false) (mD (.str ['x'])) (mCall fStr (aCons (mVar 5) aNil)))) aNil)) (gN 3)) (sSeq (sAsg (mLst true aNil) (gN 4)) (sSeq (sFor (mRng1 (aCons (mApp 2 F__law_draw (aCons (mVar 0) (aCons (m2 (fAdd false) (mVar 2) (mD (.int 1))) aNil))) aNil)) (gN 5) (sSeq (sAsg (mIf (tVal (m2 (fEq false) (mApp 2 F__law_draw (aCons (mVar 0) (aCons (mD (.int 6)) aNil))) (mD (.int 0)))) (mD (.str ['j', 'u', 's', 't'])) (mD (.str ['m', 'o', 's', 't']))) (gN 6)) (sSeq (sExpr (mMeth isLstV fApp (mVar 4) (aCons (mTup (aCons (m2 (fAdd false) (mD (.str ['r'])) (mCall fStr (aCons (mVar 5) aNil))) (aCons (mApp 3 F__law_terms (aCons (mVar 0) (aCons (mVar 3) (aCons (mD (.int 3)) aNil)))) (aCons (mVar 6) (aCons (m2 fSub (mApp 2 F__law_draw (aCons (mVar 0) (aCons (mD (.int 14)) aNil))) (mD (.int 4))) aNil))))) aNil))) sNil))) (sSeq (sRet n0 (mTup (aCons (mD (.str ['r', 'o', 'w', 's'])) (aCons (mVar 3) (aCons (mCall fTuple (aCons (mCall (fSorted false) (aCons (mVar 4) aNil)) aNil)) aNil))))) sNil))))
noncomputable def F__law_rows : FS := bodyF 7 B__law_rows
end Sh
end
section
set_option Elab.async false
set_option linter.all false
set_option maxRecDepth 100000
set_option maxHeartbeats 1000000
namespace Sl
open PySem PySem.Spec PyProof.Rows L2
abbrev pI (i : Int) : Val := .p (.int i)
section
variable {α β : Type} {gm : GM} {mt : TM} {me mk m : EM} {mi : IM} {env : Slots} {st : Sto} {ow : List Nat} {src : Option Src} {xs : List α}
theorem small_size {n : Nat} (h : n ≤ 100000) : n ≤ sizeLine := Nat.le_trans h (by rw [sizeLine_eq]; omega)
theorem lc_gen (V : α → Val) (p : α → Bool) (f : α → Val) {all : List Val} (hw : watch st src all = true) : ∀ {rest : List α}, (∀ x ∈ rest, ∃ env1, gm (V x) env = some env1 ∧ mt env1 st = .ok (p x) st ∧ (p x = true → me env1 st = .ok (f x) st)) → lcGo src all gm mt me env (rest.map V) st = .ok ((rest.filter p).map f) st
  | [], _ => by unfold lcGo; simp [hw]
  | x :: rest, h => by
    obtain ⟨env1, h1, h2, h3⟩ := h x (List.mem_cons_self ..)
    have ih := lc_gen V p f hw (rest := rest) fun y hy => h y (List.mem_cons_of_mem _ hy)
    simp only [List.map_cons]
    unfold lcGo
    rw [if_pos hw, h1]
    dsimp only
    rw [h2]
    dsimp only [R.bind]
    cases q : p x with
    | false =>
      dsimp only
      rw [ih]
      simp [q]
    | true =>
      dsimp only
      rw [h3 q]
      dsimp only
      rw [ih]
      simp [q]
theorem comp_V (V : α → Val) (p : α → Bool) (f : α → Val) (hi : mi env st = .ok (xs.map V, src) st) (hw : watch st src (xs.map V) = true)
    (h : ∀ x ∈ xs, ∃ env1, gm (V x) (wipeE env ow) = some env1 ∧ mt env1 st = .ok (p x) st ∧ (p x = true → me env1 st = .ok (f x) st)) (md : Bool) : mComp md ow mi gm mt me env st = R.lift (newLst md ((xs.filter p).map f) st) := by
  unfold mComp
  rw [hi]
  simp only [R.bind]
  rw [lc_gen V p f hw h]
  rfl
theorem pureL_mapP {f : α → D} : ∀ xs : List α, pureL (xs.map fun x => Val.p (f x)) = some (xs.map f)
  | [] => rfl
  | x :: xs => by simp [pureL, pureL_mapP xs]
theorem comp_P (V : α → Val) (p : α → Bool) (f : α → D) (hi : mi env st = .ok (xs.map V, src) st) (hw : watch st src (xs.map V) = true) (hl : xs.length ≤ 100000)
    (h : ∀ x ∈ xs, ∃ env1, gm (V x) (wipeE env ow) = some env1 ∧ mt env1 st = .ok (p x) st ∧ (p x = true → me env1 st = .ok (.p (f x)) st)) : mComp false ow mi gm mt me env st = .ok (.p (.lst ((xs.filter p).map f))) st := by
  rw [comp_V V p (fun x => .p (f x)) hi hw h]
  unfold newLst
  simp only [pureL_mapP]
  rw [if_pos (small_size (Nat.le_trans (by rw [List.length_map]; exact List.length_filter_le _ _) hl))]
  rfl
theorem comp_S (V : α → Val) (p : α → Bool) (f : α → Val) (hi : mi env st = .ok (xs.map V, src) st) (hw : watch st src (xs.map V) = true) (hl : xs.length ≤ 100000)
    (h : ∀ x ∈ xs, ∃ env1, gm (V x) (wipeE env ow) = some env1 ∧ mt env1 st = .ok (p x) st ∧ (p x = true → me env1 st = .ok (f x) st)) : mComp true ow mi gm mt me env st = .ok (.r st.length) (st ++ [.lst ((xs.filter p).map f)]) := by
  rw [comp_V V p f hi hw h]
  unfold newLst
  rw [if_pos (small_size (Nat.le_trans (by rw [List.length_map]; exact List.length_filter_le _ _) hl))]
  rfl
theorem comp_P0 (V : α → Val) (f : α → D) (hi : mi env st = .ok (xs.map V, src) st) (hw : watch st src (xs.map V) = true) (hl : xs.length ≤ 100000)
    (h : ∀ x ∈ xs, ∃ env1, gm (V x) (wipeE env ow) = some env1 ∧ me env1 st = .ok (.p (f x)) st) : mComp false ow mi gm tmYes me env st = .ok (.p (.lst (xs.map f))) st := by
  rw [comp_P (mt := tmYes) V (fun _ => true) f hi hw hl fun x hx => let ⟨e, h1, h2⟩ := h x hx; ⟨e, h1, rfl, fun _ => h2⟩, filter_yes]
theorem comp_S0 (V : α → Val) (f : α → Val) (hi : mi env st = .ok (xs.map V, src) st) (hw : watch st src (xs.map V) = true) (hl : xs.length ≤ 100000)
    (h : ∀ x ∈ xs, ∃ env1, gm (V x) (wipeE env ow) = some env1 ∧ me env1 st = .ok (f x) st) : mComp true ow mi gm tmYes me env st = .ok (.r st.length) (st ++ [.lst (xs.map f)]) := by
  rw [comp_S (mt := tmYes) V (fun _ => true) f hi hw hl fun x hx => let ⟨e, h1, h2⟩ := h x hx; ⟨e, h1, rfl, fun _ => h2⟩, filter_yes]
theorem rng_map (n : Nat) : rngItems 0 n = (List.range n).map fun i => pI (i : Nat) := by
  unfold rngItems
  simp
end
end Sl
namespace Sl
open PySem PySem.Spec PyProof.Rows L2
section
variable {ma mb mc m : EM} {am : AM} {t u : TM} {env env' : Slots} {st st' st1 st2 st3 : Sto} {a b : Bool} {x y z v : Val} {xs : List Val} {d : D} {r : R Val} {sr : SR} {k : SM} {n0 n : Nat}
theorem es_par {is : List Nat} (ha : am env st = .ok xs st1) (hl : xs.length = is.length) (h : k (setAll is xs env) st1 = sr) : sSeq (sParN is am) k env st = sr := by
  unfold sSeq sParN
  rw [ha]
  simp only [R.then]
  rw [if_pos hl]
  exact h
end
abbrev intsD (xs : List Int) : D := .lst (xs.map .int)
theorem atI_nat' {α : Type} (xs : List α) (k : Nat) : L2.atI xs (k : Int) = xs[k]? := by
  unfold L2.atI L2.ixN
  by_cases h : k < xs.length
  · rw [if_pos (by omega), if_pos (by omega)]
    simp
  · rw [if_pos (by omega), if_neg (by omega), List.getElem?_eq_none (by omega)]
    rfl
theorem atI_last {α : Type} (xs : List α) (h : xs ≠ []) : L2.atI xs (-1) = xs[xs.length - 1]? := by
  have h0 : 0 < xs.length := List.length_pos_iff.mpr h
  have e : L2.ixN xs.length (-1) = some (xs.length - 1) := by
    unfold L2.ixN
    simp
    omega
  unfold L2.atI
  rw [e]
  rfl
theorem ix_lst {α : Type} {f : α → D} {xs : List α} {k : Nat} {st : Sto} (h : k < xs.length) : fIx (.p (.lst (xs.map f))) (pI (k : Nat)) st = some (.p (f xs[k]), st) := by
  simp [fIx, fIxO, viewL, atI_nat', h]
theorem ix_tup {α : Type} {f : α → D} {xs : List α} {k : Nat} {st : Sto} (h : k < xs.length) : fIx (.p (.tup (xs.map f))) (pI (k : Nat)) st = some (.p (f xs[k]), st) := by
  simp [fIx, atI_nat', h]
end Sl
namespace Sl
open PySem PySem.Spec PyProof.Rows L2
theorem for_run {mi : IM} {gm : GM} {mb : SM} {env : Slots} {st st1 : Sto} {items : List Val} {src : Option Src} {r : SR} (hi : mi env st = .ok (items, src) st1) (h : forGo src items gm mb items env st1 = r) : sFor mi gm mb env st = r := by
  unfold sFor
  rw [hi]
  exact h
end Sl
end
section
set_option Elab.async false
set_option linter.all false
set_option maxRecDepth 100000
set_option maxHeartbeats 1000000
namespace Sl
open PySem PySem.Spec PyProof.Rows L2
def lookLast {α : Type} (k : DK) : List (DK × α) → Option α
  | [] => none
  | (k', d) :: ps => match lookLast k ps with
    | some e => some e
    | none => if k' = k then some d else none
section
variable {α : Type} {gm : GM} {mk me : EM} {mi : IM} {env : Slots} {st : Sto} {ow : List Nat} {src : Option Src} {xs : List α}
end
def Clo (st : Sto) : Prop := st.all (closedO st.length) = true
theorem closedV_mono {n m : Nat} (h : n ≤ m) : ∀ v, closedV n v = true → closedV m v = true
  | .p _, _ => rfl
  | .r l, e => by simp only [closedV, decide_eq_true_eq] at e ⊢; omega
  | .x _ _, e => by simp [closedV] at e
theorem closedO_mono {n m : Nat} (h : n ≤ m) (o : SObj) (e : closedO n o = true) : closedO m o = true := by
  cases o with
  | lst vs => simp only [closedO, List.all_eq_true] at e ⊢; exact fun v hv => closedV_mono h v (e v hv)
  | dct ks vs => simp only [closedO, List.all_eq_true] at e ⊢; exact fun v hv => closedV_mono h v (e v hv)
  | ldct ks vs => simp only [closedO, List.all_eq_true] at e ⊢; exact fun v hv => closedV_mono h v (e v hv)
  | ins c fs => simp only [closedO, List.all_eq_true] at e ⊢; exact fun v hv => closedV_mono h v.2 (e v hv)
  | scr ns => rfl
theorem Clo.push {st : Sto} {o : SObj} (h : Clo st) (ho : closedO (st.length + 1) o = true) : Clo (st ++ [o]) := by
  unfold Clo at h ⊢
  simp only [List.length_append, List.length_cons, List.length_nil, List.all_append, List.all_cons, List.all_nil, Bool.and_true, Bool.and_eq_true, List.all_eq_true] at h ⊢
  exact ⟨fun x hx => closedO_mono (Nat.le_succ _) x (h x hx), ho⟩
theorem Clo.set {st : Sto} {l : Nat} {o : SObj} (h : Clo st) (ho : closedO st.length o = true) : Clo (st.set l o) := by
  unfold Clo at h ⊢
  rw [List.length_set]
  simp only [List.all_eq_true] at h ⊢
  intro x hx
  rcases List.mem_or_eq_of_mem_set hx with y | rfl
  · exact h x y
  · exact ho
theorem Clo.take {st st' : Sto} (h : Clo st) (e : st'.take st.length = st) : (st'.take st.length).all (closedO st.length) = true := by rw [e]; exact h
end Sl
end
section
set_option Elab.async false
set_option linter.all false
set_option maxRecDepth 100000
set_option maxHeartbeats 1000000
namespace Sl
open PySem PySem.Spec PyProof.Rows L2
section
variable {tl : Bool} {X : Cx} {G : Grd} {W : WX} {μ : List Addr} {H : Hp} {st : Sto} {v : V} {x : Val}
end
end Sl
end
section
set_option Elab.async false
set_option linter.all false
set_option maxRecDepth 100000
set_option maxHeartbeats 1000000
namespace Sl
open PySem PySem.Spec PyProof.Rows L2
section
variable {X : Cx} {G : Grd} {W : WX} {μ : List Addr} {H : Hp} {st : Sto} {v : V} {x : Val} {es : List Expr} {e : Expr} {am : AM} {pos : Pos}
variable {a b c d : Expr} {ta tb tc td : TE} {ma mb mc md : EM}
end
end Sl
end
section
set_option Elab.async false
set_option linter.all false
set_option maxRecDepth 100000
set_option maxHeartbeats 1000000
namespace Sl
open PySem PySem.Spec PySem.Calls PyProof.Rows L2
section
variable {prog : Program} {w : World} {A : Around} {E : Value → Shared → Prop} {s : Shared}
end
section
variable {X : Cx} {G : Grd}
end
end Sl
end
section
set_option Elab.async false
set_option linter.all false
set_option maxRecDepth 100000
set_option maxHeartbeats 1000000
namespace Sl
open PySem PySem.Spec PyProof.Rows L2
section
variable {X : Cx} {G : Grd} {W : WX} {a b : Expr} {ma mb : EM} {p p2 pos pos2 : Pos}
end
end Sl
end
section
set_option Elab.async false
set_option linter.all false
set_option maxRecDepth 100000
set_option maxHeartbeats 1000000
namespace Sl
open PySem PySem.Spec PyProof.Rows L2
section
variable {X : Cx} {G : Grd} {W : WX} {μ : List Addr} {H : Hp} {st : Sto} {pos : Pos} {n0 : Nat}
end
end Sl
end
section
set_option Elab.async false
set_option linter.all false
set_option maxRecDepth 100000
set_option maxHeartbeats 2000000
namespace Sl
open PySem PySem.Spec PyProof.Rows L2
def IteT (K : Frag) (a : Addr) : It :=
  ⟨fun i H => ∃ (xs : List V) (x : V), SqT K H a xs ∧ xs[i]? = some x, fun i H v H' => ∃ T x, v = .ref T ∧ H T = none ∧ H' = upd H T (.tup [.int (i : Nat), x]) ∧ ∀ xs, SqT K H a xs → xs[i]? = some x, fun i H => ∃ xs : List V, SqT K H a xs ∧ xs.length ≤ i⟩
theorem turn_enumT {P : Program} {w : World} {K : Frag} {elts : List Expr} {kk : Nat} {tpos : Pos} (a e it : Addr) :
    Turn P w K (.Tuple elts kk tpos) (IteT K a) [e, it] e (fun i h => (∃ old, IsEnum h e it ((i : Nat) : Int) old) ∧ h.IsTupleIter it a i ∧ e ≠ it ∧ a ≠ it ∧ e ≠ a) where
  mem := by simp
  obj := fun i h st b hb => by
    obtain ⟨⟨old, he⟩, ⟨o, ho, hc, hd⟩, _⟩ := st
    have e' : b = e ∨ b = it := by simpa using hb
    rcases e' with z | z
    · rw [z]; exact ⟨_, he, fun v q => nomatch q⟩
    · rw [z]; exact ⟨o, ho, fun v q => by rw [hd] at q; cases q⟩
  keep := fun i h h' st k => let ⟨⟨old, he⟩, hi, hne⟩ := st; ⟨⟨old, k e (by simp) _ he⟩, Heap.IsTupleIter.at hi fun o q => k it (by simp) o q, hne⟩
  item := by
    intro X hP hw hK hc i pins s σ H E I hf st hg
    subst hP hw hK
    obtain ⟨⟨old, he⟩, hit, hne, hat, hea⟩ := st
    obtain ⟨xs, x, hq, hx⟩ := hg
    obtain ⟨its, rv, p, hz⟩ := I.tuple hq
    obtain ⟨u, hu, ru⟩ := rv.get hx
    have hel : e < s.heap.objs.size := Heap.lt_size he
    have hil : it < s.heap.objs.size := by obtain ⟨_, q, _⟩ := hit; exact Heap.lt_size q
    have hlt : i < its.toArray.size := by
      have := (List.getElem?_eq_some_iff.mp hu).1
      simpa using this
    have D := Draws.tuple (prog := X.prog) (w := X.w) (A := X.A.in1) (I.ok.hd hc) it a hat its.toArray
    refine wpAny_pyNext_enum_itemD D he ⟨hit, p⟩ hlt hne (by simp [hne, hea]) fun y h' tk hP ho hst' hT hsz hk => ?_
    have hy : y = u := by
      have h2 : its.toArray[i]? = some u := by simpa using hu
      rw [h2] at hP
      exact (Option.some.inj hP).symm
    subst hy
    refine ⟨_, rfl, wpAny_letOwnedTupleGo_enum (s := { s with heap := h', toks := tk + 1 }) ho fun h'' he' sb => ?_⟩
    have hT2 : h''.get? s.heap.objs.size = some { cls := .type "tuple", data := .seq #[.int i tk, y] } := (sb.2 _ (Nat.ne_of_gt hel)).trans hT
    have new : ObjOk X.prog X.w (upd H s.heap.objs.size (.tup [.int (i : Nat), x])) h'' s.heap.objs.size (.tup [.int (i : Nat), x]) :=
      ⟨by show 2 ≤ sizeLine; decide, [.int i tk, y], .cons ⟨_, rfl⟩ (.cons ru .nil), ⟨_, hT2, rfl, _, rfl⟩⟩
    have I1 : Inv X pins σ (upd H s.heap.objs.size (.tup [.int (i : Nat), x])) { s with heap := h'', toks := tk + 1 } :=
      I.turnedNew (ch := [e, it]) (fun b ob hb q => (sb.2 b (fun z => hb (by simp [z]))).trans (hk b ob (fun z => hb (by simp [z])) (fun z => hb (by simp [z])) q)) hf (Nat.le_refl _) new
    refine ⟨.ref s.heap.objs.size, _, I1, rfl, ⟨_, x, rfl, I.hok.fresh (Nat.le_refl _), rfl, fun ys hy => by rw [I.tuple_inj hy hq]; exact hx⟩, ⟨⟨y, ?_⟩, Heap.IsTupleIter.at hst'.1 fun o q => (sb.2 it (Ne.symm hne)).trans q, hne, hat, hea⟩, fun b hb => ?_⟩
    · have e1 : ((i + 1 : Nat) : Int) = (i : Int) + 1 := by omega
      rw [e1]; exact he'
    · have hb' : b < s.heap.objs.size := by
        have e' : b = e ∨ b = it := by simpa using hb
        rcases e' with z | z
        · rw [z]; exact hel
        · rw [z]; exact hil
      rw [upd_ne (Nat.ne_of_lt hb')]
      exact (hf b hb).1
  done := by
    intro X hP hw hK hc i pins s σ H E I hf st hg
    subst hP hw hK
    obtain ⟨⟨old, he⟩, hit, hne, hat, hea⟩ := st
    obtain ⟨xs, hq, hx⟩ := hg
    obtain ⟨its, rv, p, hz⟩ := I.tuple hq
    obtain ⟨f0, f1, f2, f3, f4, f5⟩ := hf it (by simp)
    have hl := rv.length
    have ty : s.TypeIs (.ref e) "enumerate" := ⟨_, he, rfl⟩
    unfold pyNext
    refine wpAny_bind (wpAny_attempt (wpAny_callSpecial?_slot (name := Str.ofString "__next__") ty F.slot_enumerate_next
      (wpAny_call_entry F.slot_enumerate_next ty F.entry_enumerate_next ?_ (F.args_enumerate_next_1 _))))
    show wpAny _ _ (field (.ref e) 2 >>= _) _ _ _
    refine wpAny_bind (wpAny_field he rfl (x := .ref it) rfl ?_)
    refine wpAny_bind (RZ.nextOf_tuple_end (I.ok.hd hc) hit p (by simp; omega) fun h' x he' hx' => ?_)
    obtain ⟨o, ho, hcl⟩ := hx'
    refine wpAny_bind (wpAny_isInstance (T := "StopIteration") (b := true) ⟨o, ho, hcl⟩ isSubtype_stop ?_)
    exact wpAny_pure ⟨rfl, I.turned (t' := s.toks) (fun b o hb q => he' b o hb q) f0 f1 f3 f4 f5⟩
  self := fun A i s Q E st h => let ⟨⟨_, he⟩, _⟩ := st; wpAny_pyIter_enum he h
theorem meets_enumT (l : Addr) (items : Array Value) :
    Meets (Builtin.«enumerate.__new__» ⟨[.type "enumerate", .ref l], []⟩) (fun _ R s => s.heap.IsTuple l items ∧
      R (.ok (.ret (.ref (s.heap.push { cls := .type "tuple_iterator", data := .fields #[.ref l, .int 0 0] }).objs.size)))
        { s with heap := (s.heap.push { cls := .type "tuple_iterator", data := .fields #[.ref l, .int 0 0] }).push { cls := .type "enumerate", data := .fields #[.none, .bool false, .ref s.heap.objs.size, rawInt 0, .none, .none] } }) :=
  .of_wp fun prog w A R s h => by
    obtain ⟨hp, g, d, tk, os⟩ := s
    obtain ⟨hl, h⟩ := h
    have hsub := sub_enumerate
    have hL : Heap.IsTuple (Shared.heap ⟨hp, g, d, tk, os⟩) l items := hl
    wp_walk
    refine wpAny_stack_any fun st => wpAny_pure ?_
    split
    · rename_i c _ _ _ _ _
      cases (c == Value.type "enumerate")
      · wp_walk using wpAny_pyIter_tuple hL
        exact ⟨_, rfl, h⟩
      · wp_walk using wpAny_pyIter_tuple hL
        exact ⟨_, rfl, h⟩
    · wp_walk using wpAny_pyIter_tuple hL
      exact ⟨_, rfl, h⟩
theorem call_enumT {prog : Program} {w : World} {A : Around} {E : Value → Shared → Prop} {s : Shared} {l : Addr} {items : Array Value} {Q : Value → Shared → Prop} (hL : s.heap.IsTuple l items)
    (h : ∀ h', IsEnum h' (s.heap.objs.size + 1) s.heap.objs.size 0 .none → h'.IsTupleIter s.heap.objs.size l 0 → h'.objs.size = s.heap.objs.size + 2 →
      (∀ b o, s.heap.get? b = some o → h'.get? b = some o) → Q (.ref (s.heap.objs.size + 1)) { s with heap := h' }) :
    wpAny (model prog w) A (call (.type "enumerate") [.ref l]) Q E s := by
  refine callType_new F.called_enumerate (by decide) (F.typeCall_enumerate_1 _) (F.newCall_enumerate_1 _) (fun obj => F.args_object_init_2 obj _) F.entry_enumerate_new
    (meets_enumT l items) ⟨hL, ?_⟩
  have hz : (s.heap.push { cls := .type "tuple_iterator", data := .fields #[.ref l, .int 0 0] }).objs.size = s.heap.objs.size + 1 := Heap.size_push ..
  show _ ∧ _
  rw [hz]
  have he : IsEnum ((s.heap.push { cls := .type "tuple_iterator", data := .fields #[.ref l, .int 0 0] }).push
      { cls := .type "enumerate", data := .fields #[.none, .bool false, .ref s.heap.objs.size, rawInt 0, .none, .none] }) (s.heap.objs.size + 1) s.heap.objs.size 0 .none := by
    have := Heap.get?_push_size (s.heap.push { cls := .type "tuple_iterator", data := .fields #[.ref l, .int 0 0] })
      (o := { cls := .type "enumerate", data := .fields #[.none, .bool false, .ref s.heap.objs.size, rawInt 0, .none, .none] }) rfl
    rw [hz] at this; exact this
  refine ⟨⟨_, he, rfl⟩, h _ he ⟨_, Heap.get?_push_of_some _ (Heap.get?_push_size _ rfl), rfl, rfl⟩ (by rw [Heap.size_push, hz]) fun b o x => Heap.get?_push_of_some _ (Heap.get?_push_of_some _ x)⟩
def iEnumX (K : Frag) (ta : TA) : TI := fun σ H Rr => ta σ H fun vs H1 => ∃ a, vs = [.ref a] ∧ ((∃ xs, SqL K H1 a xs ∧ Rr (Ite K a) H1) ∨ ∃ xs, SqT K H1 a xs ∧ Rr (IteT K a) H1)
theorem pi_enumX {X : Cx} {e : Expr} {ta : TA} {p pos tpos : Pos} {elts : List Expr} {kk : Nat} (hg : Gl X "enumerate") (hm : X.mg "enumerate" = none) (ha : PA X [e] ta) (hs : starEach [e] X.env = [(false, eval e X.env)]) :
    PI X (.Tuple elts kk tpos) (.Call (.Name "enumerate" p) [e] [] pos) (iEnumX X.K ta) := by
  refine ⟨fun pins s σ H Rr I h => ?_⟩
  refine Call_ (ld_blt I hg hm PyProof.Rows.boot_enumerate (PyProof.Rows.callWith_type1 (thn (ha.run pos pins s σ H _ I h) fun us s1 ⟨vs, H1, I1, r1, q1⟩ => ?_) hs rfl))
  obtain ⟨a, ex, q1⟩ := q1
  subst ex
  cases r1 with
  | cons r rr =>
    cases rr
    cases r
    have fp : ∀ b, b ∈ [s1.heap.objs.size + 1, s1.heap.objs.size] → FpOk X pins H1 b := fun b hb => by
      have e' : b = s1.heap.objs.size + 1 ∨ b = s1.heap.objs.size := by simpa using hb
      have hle : s1.heap.objs.size ≤ b := by
        rcases e' with z | z
        · rw [z]; exact Nat.le_add_right _ _
        · rw [z]; exact Nat.le_refl _
      exact I1.fpOk hle (I1.hok.fresh hle)
    rcases q1 with ⟨xs, hq, q⟩ | ⟨xs, hq, q⟩
    · obtain ⟨its, rv, p', hz⟩ := I1.list hq
      refine call_enumerate_list p'.isList fun h' he hit hsz hk => wpAny_pyIter_enum he ?_
      have I2 : Inv X pins σ H1 { s1 with heap := h' } := I1.kept (t' := s1.toks) hk
      exact ⟨s1.heap.objs.size + 1, [s1.heap.objs.size + 1, s1.heap.objs.size], _, _, H1, rfl, I2, turn_enum a (s1.heap.objs.size + 1) s1.heap.objs.size, ⟨⟨.none, he⟩, hit, Nat.succ_ne_self _⟩, fp, q⟩
    · obtain ⟨its, rv, p', hz⟩ := I1.tuple hq
      have hlt : a < s1.heap.objs.size := by
        obtain ⟨o, ho, _⟩ := id p'
        exact Heap.lt_size ho
      refine call_enumT p' fun h' he hit hsz hk => wpAny_pyIter_enum he ?_
      have I2 : Inv X pins σ H1 { s1 with heap := h' } := I1.kept (t' := s1.toks) hk
      exact ⟨s1.heap.objs.size + 1, [s1.heap.objs.size + 1, s1.heap.objs.size], _, _, H1, rfl, I2, turn_enumT a (s1.heap.objs.size + 1) s1.heap.objs.size, ⟨⟨.none, he⟩, hit, Nat.succ_ne_self _, Nat.ne_of_lt hlt, fun z => absurd hlt (by rw [← z]; exact Nat.not_lt_of_le (Nat.le_add_right _ _))⟩, fp, q⟩
def mEnumX (am : AM) : IM := fun env st => (am env st).bind fun xs st1 => match xs with
  | [.p (.tup ds)] => .ok (enumItems ds, none) st1
  | [x] => (match srcOf st1 x with
    | some (ds, src) => .ok (enumItems ds, src) st1
    | none => .fail)
  | _ => .fail
section
variable {X : Cx} {G : Grd} {W : WX} {μ : List Addr} {H : Hp} {st : Sto} {v : V} {x : Val}
theorem iter_enumT {a : Addr} {vs : List V} {ds : List D} (h1 : ∀ μ' H', Ext μ H μ' H' → SqT G.K H' a vs) (h2 : RpL G.K (Fz G.hid μ) H vs ds) : IterOk true G μ H none (enumItems ds) (IteT G.K a) := by
  have hl : vs.length = (enumItems ds).length := by simp [enumItems, h2.length]
  refine ⟨fun hd hh μ' H' st i e s _ hi => ?_, fun hd hh μ' H' st i v H2 e s _ hi y => ?_, fun hd hh μ' H' st e s _ => ?_⟩
  · have i1 : i < vs.length := by omega
    exact ⟨vs, vs[i], h1 _ _ e, by simp [i1]⟩
  · obtain ⟨T, x, rfl, nT, rfl, hx⟩ := y
    refine ⟨Ext.new nT, s.new nT, fun q eq => ?_⟩
    unfold enumItems at eq
    rw [List.getElem?_mapIdx] at eq
    obtain ⟨d, hd, rfl⟩ := Option.map_eq_some_iff.mp eq
    obtain ⟨w, hw, rw_⟩ := (RpL.carry (Ext.new nT).carry _ _ (RpL.carry (e.carryH hh) _ _ h2)).get hd
    have kx := hx vs (h1 _ _ e)
    rw [kx] at hw
    cases hw
    exact .inr ⟨rfl, _, _, _, rfl, rfl, .inl (.inl upd_same), .cons (.int _) (.cons rw_ .nil)⟩
  · exact ⟨vs, h1 _ _ e, by omega⟩
theorem di_eX {a : Expr} {am : AM} {p pos tpos : Pos} {elts : List Expr} {kk : Nat} (hG : G.K = X.K) (hm : X.mg "enumerate" = none) (h : DA X G W [a] am) (hb : (glB X.env "enumerate" && notStar a) = true) :
    DI X G W (.Tuple elts kk tpos) (.Call (.Name "enumerate" p) [a] [] pos) (mEnumX am) := by
  rw [Bool.and_eq_true] at hb
  obtain ⟨hg, _, _⟩ := glB_ok hb.1
  refine ⟨fun pins s σ H Rr I ⟨μ, env, st, si, en, f⟩ => (pi_enumX (p := p) (pos := pos) hg hm h (starEach_plain hb.2 [] X.env)).run pins s σ H Rr I ⟨μ, env, st, si, en, f.bind.mono fun xs st1 μ1 H1 e1 s1 h1 vs rv => ?_⟩⟩
  split at h1
  · rename_i ds
    obtain ⟨v, rfl, r⟩ := rv.one
    cases r with
    | tup k1 kp k2 => exact ⟨_, rfl, .inr ⟨_, by rw [← hG]; exact k1, h1.ok s1 _ (by rw [← hG]; exact iter_enumT (fun μ' H' x => sqT_ext x k1) k2)⟩⟩
  · split at h1
    · rename_i x _ ds src q
      obtain ⟨v, rfl, r⟩ := rv.one
      cases src with
      | none =>
        obtain ⟨b, ws, rfl, k1, k2, k3⟩ := srcOf_lst (src := none) r q
        exact ⟨b, rfl, .inl ⟨ws, by rw [← hG]; exact .inl (.inl k1), h1.ok s1 _ (by rw [← hG]; exact iter_enum k1 k2 k3)⟩⟩
      | some sr =>
        unfold srcOf at q
        split at q
        · cases q
        · split at q
          · rename_i l ys qv
            split at q
            · rename_i ds' qd
              cases q
              obtain ⟨b, vs', eb, k1, k2⟩ := viewL_sem s1 r qv
              obtain ⟨a', ea, ha⟩ := r
              subst ea
              cases eb
              exact ⟨_, rfl, .inl ⟨_, by rw [← hG]; exact k1, h1.ok s1 _ (by rw [← hG]; exact iter_enumS ha)⟩⟩
            · cases q
          · cases q
        · cases q
    · exact h1.elim
  · exact h1.elim
end
end Sl
end
section
set_option Elab.async false
set_option linter.all false
set_option maxRecDepth 100000
set_option maxHeartbeats 2000000
namespace Sl
open PySem PySem.Spec PyProof.Rows L2
def sFail : SM := fun _ _ => .fail
def sTry (m : SM) : SM := fun env st => match m env st with
  | .exc _ _ _ _ => .fail
  | r => r
section
variable {X : Cx} {G : Grd} {W : WX} {n0 : Nat} {pos : Pos}
theorem ds_fail {s : Stmt} : DS X G W n0 s sFail := ⟨fun pins s σ H E I ⟨_, _, _, _, _, _, f⟩ => f.elim⟩
theorem ds_try {body : List Stmt} {h : ExceptHandler} {hs : List ExceptHandler} {m : SM} (hb : DSs X.nox G WF n0 body m) : DS X G W n0 (.Try body (h :: hs) [] [] pos) (sTry m) :=
  PS.by (ps_try_thru0 hb) fun E σ H ⟨μ0, H0, μ, env, st, a, f⟩ => by
    refine ⟨μ0, H0, μ, env, st, a, ?_⟩
    unfold sTry at f
    cases q : m env st with
    | fail => rw [q] at f; exact f
    | nx e s => rw [q] at f; exact f
    | rt v s => rw [q] at f; exact f
    | bk e s => rw [q] at f; exact f
    | ct e s => rw [q] at f; exact f
    | exc c fs e s => rw [q] at f; exact f.elim
end
end Sl
end
section
set_option Elab.async false
set_option linter.all false
set_option maxRecDepth 100000
set_option maxHeartbeats 0
namespace Sh
open PySem PySem.Spec L2 Sl PyProof.Rows
noncomputable def B__is_written (n0 : Nat) : SM := (sSeq (sAsg (mIf (tVal (m2 (fEq false) (mSlice (fSl false) (mVar 0) oNone (oSome (mD (.int 1)))) (mD (.str ['-'])))) (mSlice (fSl false) (mVar 0) (oSome (mD (.int 1))) oNone) (mVar 0)) (gN 2)) (sSeq (sIf (tOrM (tNotM (tVal (mChain fLe fLe (mD (.int 1)) (mCall fLen (aCons (mVar 2) aNil)) (mVar 1)))) (tNotM (tTruth (mApp 2 F__has_only (aCons (mVar 2) (aCons (mD c_DIGITS) aNil)))))) (sSeq (sRet n0 (mD (.bl false))) sNil) sNil) (sSeq (sRet n0 (mOrV (m2 (fEq true) (m2 fIx (mVar 2) (mD (.int 0))) (mD (.str ['0']))) (m2 (fEq false) (mVar 0) (mD (.str ['0']))))) sNil)))
noncomputable def F__is_written : FS := bodyF 3 B__is_written
def c_MOST_DIGITS : D := (D.int 9)
noncomputable def B_read_number (n0 : Nat) : SM := (sSeq (sIf (tNotM (tTruth (mApp 2 F__is_written (aCons (mVar 0) (aCons (mD c_MOST_DIGITS) aNil))))) (sSeq sFail sNil) sNil) (sSeq (sRet n0 (mCall fInt (aCons (mVar 0) aNil))) sNil))
noncomputable def F_read_number : FS := bodyF 1 B_read_number
noncomputable def B_write_terms (n0 : Nat) : SM := (sSeq (sRet n0 (mMeth isStrV fJoin (mD (.str [])) (aCons (mComp false [1, 2] (mIter (mVar 0)) (gT [(gN 1), (gN 2)]) tmYes (mJs [(mD (.str [' '])), (mFmt (mVar 2)), (mD (.str [' '])), (mFmt (mVar 1))] [])) aNil))) sNil)
noncomputable def F_write_terms : FS := bodyF 3 B_write_terms
noncomputable def B_write_rows (n0 : Nat) : SM := (sSeq (sAsg (mComp true [2] (mIter (m2 fIx (mVar 0) (mD (.int 1)))) (gN 2) tmYes (mJs [(mD (.str ['u', 'n', 'k', 'n', 'o', 'w', 'n', ' '])), (mFmt (mVar 2)), (mD (.str ['\n']))] [])) (gN 1)) (sSeq (sFor (mIter (m2 fIx (mVar 0) (mD (.int 2)))) (gT [(gN 2), (gN 3), (gN 4), (gN 5)]) (sSeq (sExpr (mMeth isLstV fApp (mVar 1) (aCons (m2 (fAdd false) (m2 (fAdd false) (mJs [(mD (.str ['r', 'o', 'w', ' '])), (mFmt (mVar 2)), (mD (.str [' '])), (mFmt (mVar 4)), (mD (.str [' '])), (mFmt (mVar 5))] []) (mApp 1 F_write_terms (aCons (mVar 3) aNil))) (mD (.str ['\n']))) aNil))) sNil)) (sSeq (sRet n0 (mMeth isStrV fJoin (mD (.str [])) (aCons (mVar 1) aNil))) sNil)))
noncomputable def F_write_rows : FS := bodyF 6 B_write_rows
noncomputable def B_number_of (n0 : Nat) : SM := (sSeq (sTry (sSeq (sRet n0 (mApp 1 F_read_number (aCons (mVar 0) aNil))) sNil)) sNil)
noncomputable def F_number_of : FS := bodyF 1 B_number_of
noncomputable def B_terms_of (n0 : Nat) : SM := (sSeq (sIf (tVal (m2 (fEq false) (m2 fMod (mCall fLen (aCons (mVar 0) aNil)) (mD (.int 2))) (mD (.int 1)))) (sSeq (sRet n0 (mD .non)) sNil) sNil) (sSeq (sAsg (mCall fTuple (aCons (mComp false [2] (mRng3 (aCons (mD (.int 0)) (aCons (mCall fLen (aCons (mVar 0) aNil)) (aCons (mD (.int 2)) aNil)))) (gN 2) tmYes (mTup (aCons (m2 fIx (mVar 0) (m2 (fAdd false) (mVar 2) (mD (.int 1)))) (aCons (mApp 1 F_number_of (aCons (m2 fIx (mVar 0) (mVar 2)) aNil)) aNil)))) aNil)) (gN 1)) (sSeq (sRet n0 (mIf (tTruth (mApp 1 F_is_any_terms (aCons (mVar 1) aNil))) (mVar 1) (mD .non))) sNil)))
noncomputable def F_terms_of : FS := bodyF 3 B_terms_of
noncomputable def B__read_line (n0 : Nat) : SM := (sSeq (sAsg (mMeth isStrV (fSplit false) (mVar 0) (aCons (mD (.str [' '])) aNil)) (gN 1)) (sSeq (sIf (tVal (m2 (fEq false) (m2 fIx (mVar 1) (mD (.int 0))) (mD (.str ['u', 'n', 'k', 'n', 'o', 'w', 'n'])))) (sSeq (sRet n0 (mIf (tAndM (tVal (m2 (fEq false) (mCall fLen (aCons (mVar 1) aNil)) (mD (.int 2)))) (tTruth (mApp 1 F_is_name (aCons (m2 fIx (mVar 1) (mD (.int 1))) aNil)))) (m2 fIx (mVar 1) (mD (.int 1))) (mD .non))) sNil) sNil) (sSeq (sIf (tOrM (tVal (m2 (fEq true) (m2 fIx (mVar 1) (mD (.int 0))) (mD (.str ['r', 'o', 'w'])))) (tOrM (tVal (m2 fLt (mCall fLen (aCons (mVar 1) aNil)) (mD (.int 4)))) (tOrM (tNotM (tTruth (mApp 1 F_is_name (aCons (m2 fIx (mVar 1) (mD (.int 1))) aNil)))) (tVal (m2 (fInX true) (m2 fIx (mVar 1) (mD (.int 2))) (mD c_KINDS)))))) (sSeq (sRet n0 (mD .non)) sNil) sNil) (sSeq (sParN [2, 3] (aCons (mApp 1 F_number_of (aCons (m2 fIx (mVar 1) (mD (.int 3))) aNil)) (aCons (mApp 1 F_terms_of (aCons (mSlice (fSl false) (mVar 1) (oSome (mD (.int 4))) oNone) aNil)) aNil))) (sSeq (sIf (tOrM (tVal (m2 (fIs false) (mVar 3) (mD .non))) (tNotM (tTruth (mApp 3 F_is_between (aCons (mVar 2) (aCons (mNeg (mD c_MOST_BOUND)) (aCons (mD c_MOST_BOUND) aNil))))))) (sSeq (sRet n0 (mD .non)) sNil) sNil) (sSeq (sRet n0 (mTup (aCons (m2 fIx (mVar 1) (mD (.int 1))) (aCons (mVar 3) (aCons (m2 fIx (mVar 1) (mD (.int 2))) (aCons (mVar 2) aNil)))))) sNil))))))
noncomputable def F__read_line : FS := bodyF 4 B__read_line
noncomputable def B__name_fault (n0 : Nat) : SM := (sSeq (sIf (tTruth (mVar 1)) (sSeq (sRet n0 (mD (.str ['b', 'a', 'd', ' ', 'l', 'i', 'n', 'e']))) sNil) sNil) (sSeq (sIf (tAndM (tTruth (mVar 0)) (tVal (m2 fLe (mVar 2) (m2 fIx (mVar 0) (mNeg (mD (.int 1))))))) (sSeq (sRet n0 (mD (.str ['o', 'r', 'd', 'e', 'r']))) sNil) sNil) (sSeq (sRet n0 (mIf (tVal (m2 (fEq false) (mCall fLen (aCons (mVar 0) aNil)) (mD c_MOST_NAMES))) (mD (.str ['m', 'a', 'n', 'y'])) (mD .non))) sNil)))
noncomputable def F__name_fault : FS := bodyF 3 B__name_fault
noncomputable def B__row_fault (n0 : Nat) : SM := (sSeq (sIf (tAndM (tTruth (mVar 1)) (tVal (m2 fLe (m2 fIx (mVar 2) (mD (.int 0))) (m2 fIx (m2 fIx (mVar 1) (mNeg (mD (.int 1)))) (mD (.int 0)))))) (sSeq (sRet n0 (mD (.str ['o', 'r', 'd', 'e', 'r']))) sNil) sNil) (sSeq (sIf (tVal (m2 (fEq false) (mCall fLen (aCons (mVar 1) aNil)) (mD c_MOST_ROWS))) (sSeq (sRet n0 (mD (.str ['m', 'a', 'n', 'y']))) sNil) sNil) (sSeq (sIf (tVal (m2 (fInX false) (m2 fIx (mVar 2) (mD (.int 0))) (mVar 0))) (sSeq (sRet n0 (mD (.str ['t', 'w', 'i', 'c', 'e']))) sNil) sNil) (sSeq (sRet n0 (mIf (tTruth (mApp 2 F_is_terms (aCons (mVar 0) (aCons (m2 fIx (mVar 2) (mD (.int 1))) aNil)))) (mD .non) (mD (.str ['u', 'n', 'k', 'n', 'o', 'w', 'n'])))) sNil))))
noncomputable def F__row_fault : FS := bodyF 3 B__row_fault
noncomputable def B__fault (n0 : Nat) : SM := (sSeq (sIf (tVal (m2 (fIs false) (mVar 2) (mD .non))) (sSeq (sRet n0 (mD (.str ['b', 'a', 'd', ' ', 'l', 'i', 'n', 'e']))) sNil) sNil) (sSeq (sIf (tTruth (mIsi "str" (mVar 2))) (sSeq (sRet n0 (mApp 3 F__name_fault (aCons (mVar 0) (aCons (mVar 1) (aCons (mVar 2) aNil))))) sNil) sNil) (sSeq (sRet n0 (mApp 3 F__row_fault (aCons (mVar 0) (aCons (mVar 1) (aCons (mVar 2) aNil))))) sNil)))
noncomputable def F__fault : FS := bodyF 3 B__fault
noncomputable def B_read_rows (n0 : Nat) : SM := (sSeq (sAsg (mMeth isStrV (fSplit true) (mVar 0) (aCons (mD (.str ['\n'])) aNil)) (gN 1)) (sSeq (sAsg (mMeth0 isLstV fPop (mVar 1)) (gN 2)) (sSeq (sAsg (mIf (tVal (m2 (fEq false) (mVar 2) (mD (.str [])))) (mVar 1) (m2 (fAdd false) (mVar 1) (mLst false (aCons (mVar 2) aNil)))) (gN 3)) (sSeq (sParN [4, 5] (aCons (mLst true aNil) (aCons (mLst true aNil) aNil))) (sSeq (sFor (mEnumX (aCons (mVar 3) aNil)) (gT [(gN 6), (gN 7)]) (sSeq (sAsg (mApp 1 F__read_line (aCons (mVar 7) aNil)) (gN 8)) (sSeq (sAsg (mApp 3 F__fault (aCons (mVar 4) (aCons (mVar 5) (aCons (mVar 8) aNil)))) (gN 9)) (sSeq (sIf (tAndM (tVal (m2 (fIs false) (mVar 9) (mD .non))) (tVal (m2 (fEq false) (mVar 6) (mCall fLen (aCons (mVar 1) aNil))))) (sSeq (sAsg (mD (.str ['n', 'o', ' ', 'e', 'n', 'd'])) (gN 9)) sNil) sNil) (sSeq (sIf (tVal (m2 (fIs true) (mVar 9) (mD .non))) (sSeq sFail sNil) sNil) (sSeq (sIf (tTruth (mIsi "str" (mVar 8))) (sSeq (sExpr (mMeth isLstV fApp (mVar 4) (aCons (mVar 8) aNil))) sNil) (sSeq (sExpr (mMeth isLstV fApp (mVar 5) (aCons (mVar 8) aNil))) sNil)) sNil)))))) (sSeq (sRet n0 (mTup (aCons (mD (.str ['r', 'o', 'w', 's'])) (aCons (mCall fTuple (aCons (mVar 4) aNil)) (aCons (mCall fTuple (aCons (mVar 5) aNil)) aNil))))) sNil))))))
noncomputable def F_read_rows : FS := bodyF 10 B_read_rows
noncomputable def B__law_rows_text (n0 : Nat) : SM := (sSeq (sAsg (mMeth isStrV fJoin (mD (.str [])) (aCons (mComp false [2] (mIter (m2 fIx (mVar 0) (mD (.int 1)))) (gN 2) tmYes (m2 (fAdd false) (m2 (fAdd false) (mD (.str ['u', 'n', 'k', 'n', 'o', 'w', 'n', ' '])) (mVar 2)) (mD (.str ['\n'])))) aNil)) (gN 1)) (sSeq (sFor (mIter (m2 fIx (mVar 0) (mD (.int 2)))) (gT [(gN 2), (gN 3), (gN 4), (gN 5)]) (sSeq (sAsg (m2 (fAdd false) (m2 (fAdd false) (mVar 1) (mMeth isStrV fJoin (mD (.str [' '])) (aCons (m2 (fAdd false) (mLst false (aCons (mD (.str ['r', 'o', 'w'])) (aCons (mVar 2) (aCons (mVar 4) (aCons (mCall fStr (aCons (mVar 5) aNil)) aNil))))) (mComp false [6, 7] (mIter (mVar 3)) (gT [(gN 6), (gN 7)]) tmYes (m2 (fAdd false) (m2 (fAdd false) (mCall fStr (aCons (mVar 7) aNil)) (mD (.str [' ']))) (mVar 6)))) aNil))) (mD (.str ['\n']))) (gN 1)) sNil)) (sSeq (sRet n0 (mVar 1)) sNil)))
noncomputable def F__law_rows_text : FS := bodyF 8 B__law_rows_text
noncomputable def B_law_v21 (n0 : Nat) : SM := (sSeq (sAsg (mLst true (aCons (mApp 3 F__law_digits (aCons (mVar 0) (aCons (mD (.int 0)) (aCons (mD (.int 63)) aNil)))) (aCons (mD (.int 0)) aNil))) (gN 1)) (sSeq (sFor (mRng1 (aCons (mD (.int 5)) aNil)) (gN 2) (sSeq (sAsg (mApp 3 F__law_rows (aCons (mVar 1) (aCons (mApp 2 F__law_draw (aCons (mVar 1) (aCons (mD (.int 7)) aNil))) (aCons (mD (.int 9)) aNil)))) (gN 3)) (sSeq (sAsg (mApp 1 F__law_rows_text (aCons (mVar 3) aNil)) (gN 4)) (sSeq (sIf (tOrM (tNotM (tTruth (mApp 2 (F__law_like 20) (aCons (mApp 1 F_write_rows (aCons (mVar 3) aNil)) (aCons (mVar 4) aNil))))) (tNotM (tTruth (mApp 2 (F__law_like 20) (aCons (mApp 1 F_read_rows (aCons (mVar 4) aNil)) (aCons (mVar 3) aNil)))))) (sSeq (sRet n0 (mD (.bl false))) sNil) sNil) sNil)))) (sSeq (sRet n0 (mD (.bl true))) sNil)))
noncomputable def F_law_v21 : FS := bodyF 5 B_law_v21
end Sh
end
section
set_option Elab.async false
set_option linter.all false
set_option maxRecDepth 100000
set_option maxHeartbeats 0
namespace K03
open PySem PySem.Spec L2 Sl PyProof.Rows Sh
structure Fx (K : Frag) (mg : Str → Option Value) (cls : Str → Option Addr) : Prop where
  g_all : mg "all" = none
  g_bool : mg "bool" = none
  g_enumerate : mg "enumerate" = none
  g_int : mg "int" = none
  g_isinstance : mg "isinstance" = none
  g_len : mg "len" = none
  g_range : mg "range" = none
  g_sorted : mg "sorted" = none
  g_str : mg "str" = none
  g_tuple : mg "tuple" = none
  v_LETTERS : Gv mg K "LETTERS" c_LETTERS
  v_DIGITS : Gv mg K "DIGITS" c_DIGITS
  v_MOST_SIGNS : Gv mg K "MOST_SIGNS" c_MOST_SIGNS
  v_MOST_DIGITS : Gv mg K "MOST_DIGITS" c_MOST_DIGITS
  v_MOST_NAMES : Gv mg K "MOST_NAMES" c_MOST_NAMES
  v_MOST_ROWS : Gv mg K "MOST_ROWS" c_MOST_ROWS
  v_MOST_NUMBER : Gv mg K "MOST_NUMBER" c_MOST_NUMBER
  v_MOST_BOUND : Gv mg K "MOST_BOUND" c_MOST_BOUND
  v_KINDS : Gv mg K "KINDS" c_KINDS
  d_is_whole : ∃ f fd, FunD K "is_whole" "is_whole" (defArgs (top 8)) (defBody (top 8)) (defScope (top 8)) [] [] f fd ∧ mg "is_whole" = some (.ref f)
  d_is_between : ∃ f fd, FunD K "is_between" "is_between" (defArgs (top 9)) (defBody (top 9)) (defScope (top 9)) [] [] f fd ∧ mg "is_between" = some (.ref f)
  d__has_only : ∃ f fd, FunD K "_has_only" "_has_only" (defArgs (top 10)) (defBody (top 10)) (defScope (top 10)) [] [] f fd ∧ mg "_has_only" = some (.ref f)
  d_is_name : ∃ f fd, FunD K "is_name" "is_name" (defArgs (top 11)) (defBody (top 11)) (defScope (top 11)) [] [] f fd ∧ mg "is_name" = some (.ref f)
  d__is_written : ∃ f fd, FunD K "_is_written" "_is_written" (defArgs (top 12)) (defBody (top 12)) (defScope (top 12)) [] [] f fd ∧ mg "_is_written" = some (.ref f)
  d_read_number : ∃ f fd, FunD K "read_number" "read_number" (defArgs (top 13)) (defBody (top 13)) (defScope (top 13)) [] [] f fd ∧ mg "read_number" = some (.ref f)
  d_is_ascending : ∃ f fd, FunD K "is_ascending" "is_ascending" (defArgs (top 20)) (defBody (top 20)) (defScope (top 20)) [] [] f fd ∧ mg "is_ascending" = some (.ref f)
  d_is_pair : ∃ f fd, FunD K "is_pair" "is_pair" (defArgs (top 21)) (defBody (top 21)) (defScope (top 21)) [] [] f fd ∧ mg "is_pair" = some (.ref f)
  d_is_any_terms : ∃ f fd, FunD K "is_any_terms" "is_any_terms" (defArgs (top 22)) (defBody (top 22)) (defScope (top 22)) [] [] f fd ∧ mg "is_any_terms" = some (.ref f)
  d_is_terms : ∃ f fd, FunD K "is_terms" "is_terms" (defArgs (top 23)) (defBody (top 23)) (defScope (top 23)) [] [] f fd ∧ mg "is_terms" = some (.ref f)
  d_write_terms : ∃ f fd, FunD K "write_terms" "write_terms" (defArgs (top 24)) (defBody (top 24)) (defScope (top 24)) [] [] f fd ∧ mg "write_terms" = some (.ref f)
  d_write_rows : ∃ f fd, FunD K "write_rows" "write_rows" (defArgs (top 25)) (defBody (top 25)) (defScope (top 25)) [] [] f fd ∧ mg "write_rows" = some (.ref f)
  d_number_of : ∃ f fd, FunD K "number_of" "number_of" (defArgs (top 26)) (defBody (top 26)) (defScope (top 26)) [] [] f fd ∧ mg "number_of" = some (.ref f)
  d_terms_of : ∃ f fd, FunD K "terms_of" "terms_of" (defArgs (top 27)) (defBody (top 27)) (defScope (top 27)) [] [] f fd ∧ mg "terms_of" = some (.ref f)
  d__read_line : ∃ f fd, FunD K "_read_line" "_read_line" (defArgs (top 28)) (defBody (top 28)) (defScope (top 28)) [] [] f fd ∧ mg "_read_line" = some (.ref f)
  d__name_fault : ∃ f fd, FunD K "_name_fault" "_name_fault" (defArgs (top 29)) (defBody (top 29)) (defScope (top 29)) [] [] f fd ∧ mg "_name_fault" = some (.ref f)
  d__row_fault : ∃ f fd, FunD K "_row_fault" "_row_fault" (defArgs (top 30)) (defBody (top 30)) (defScope (top 30)) [] [] f fd ∧ mg "_row_fault" = some (.ref f)
  d__fault : ∃ f fd, FunD K "_fault" "_fault" (defArgs (top 31)) (defBody (top 31)) (defScope (top 31)) [] [] f fd ∧ mg "_fault" = some (.ref f)
  d_read_rows : ∃ f fd, FunD K "read_rows" "read_rows" (defArgs (top 32)) (defBody (top 32)) (defScope (top 32)) [] [] f fd ∧ mg "read_rows" = some (.ref f)
  d__law_cell : ∃ f fd, FunD K "_law_cell" "_law_cell" (defArgs (top 34)) (defBody (top 34)) (defScope (top 34)) [] [] f fd ∧ mg "_law_cell" = some (.ref f)
  d__law_digits : ∃ f fd, FunD K "_law_digits" "_law_digits" (defArgs (top 35)) (defBody (top 35)) (defScope (top 35)) [] [] f fd ∧ mg "_law_digits" = some (.ref f)
  d__law_draw : ∃ f fd, FunD K "_law_draw" "_law_draw" (defArgs (top 36)) (defBody (top 36)) (defScope (top 36)) [] [] f fd ∧ mg "_law_draw" = some (.ref f)
  d__law_like : ∃ f fd, FunD K "_law_like" "_law_like" (defArgs (top 37)) (defBody (top 37)) (defScope (top 37)) [] [] f fd ∧ mg "_law_like" = some (.ref f)
  d__law_terms : ∃ f fd, FunD K "_law_terms" "_law_terms" (defArgs (top 38)) (defBody (top 38)) (defScope (top 38)) [] [] f fd ∧ mg "_law_terms" = some (.ref f)
  d__law_rows : ∃ f fd, FunD K "_law_rows" "_law_rows" (defArgs (top 39)) (defBody (top 39)) (defScope (top 39)) [] [] f fd ∧ mg "_law_rows" = some (.ref f)
  d__law_rows_text : ∃ f fd, FunD K "_law_rows_text" "_law_rows_text" (defArgs (top 40)) (defBody (top 40)) (defScope (top 40)) [] [] f fd ∧ mg "_law_rows_text" = some (.ref f)
  d_law : ∃ f fd, FunD K "law" "law" (defArgs (top 41)) (defBody (top 41)) (defScope (top 41)) [] [] f fd ∧ mg "law" = some (.ref f)
abbrev s_is_whole : Stmt := top 8
abbrev N_is_whole : List Str := ["thing"]
theorem nd_is_whole : N_is_whole.Nodup := by decide +kernel
theorem sc_is_whole : FnScope N_is_whole ["thing"] (defScope s_is_whole) := ⟨rfl, rfl, rfl, nd_is_whole, rfl, by decide +kernel, by decide +kernel⟩
theorem ok_is_whole {P : Program} {w : World} {K : Frag} {mg : Str → Option Value} {base : Heap} {cls : Str → Option Addr} (c : Fx K mg cls) : Def P w K mg base cls "is_whole" 1 1 F_is_whole := by
  obtain ⟨f, fd, F, gm⟩ := c.d_is_whole
  exact def_ok F gm (fun _ _ _ _ _ _ us hl => match us, hl with | [_], _ => rfl) sc_is_whole rfl rfl fun xs hid cdv A outer s H E n0 hr => (dss_cons (ds_ret (de_and (de_isB rfl c.g_isinstance c.g_int bt_int (de_v 0 (by kernel_rfl)) (by kernel_rfl)) (de_one (de_not (de_isB rfl c.g_isinstance c.g_bool bt_bool (de_v 0 (by kernel_rfl)) (by kernel_rfl)))))) dss_nil)
abbrev s_is_between : Stmt := top 9
abbrev N_is_between : List Str := ["thing", "least", "most"]
theorem nd_is_between : N_is_between.Nodup := by decide +kernel
theorem sc_is_between : FnScope N_is_between ["thing", "least", "most"] (defScope s_is_between) := ⟨rfl, rfl, rfl, nd_is_between, rfl, by decide +kernel, by decide +kernel⟩
theorem ok_is_between {P : Program} {w : World} {K : Frag} {mg : Str → Option Value} {base : Heap} {cls : Str → Option Addr} (c : Fx K mg cls) : Def P w K mg base cls "is_between" 3 2 F_is_between := by
  obtain ⟨f, fd, F, gm⟩ := c.d_is_between
  exact def_ok F gm (fun _ _ _ _ _ _ us hl => match us, hl with | [_, _, _], _ => rfl) sc_is_between rfl rfl fun xs hid cdv A outer s H E n0 hr => (dss_cons (ds_ret (de_and (de_cD (ok_is_whole c) rfl rfl hr (by decide) (FC.tk _ _ _ _) (da_c (de_v 0 (by kernel_rfl)) da_nil rfl) (by kernel_rfl)) (de_one (de_chain opr_le opr_le sem_le sem_le (de_v 1 (by kernel_rfl)) (de_v 0 (by kernel_rfl)) (de_v 2 (by kernel_rfl)) (by kernel_rfl))))) dss_nil)
abbrev s__has_only : Stmt := top 10
abbrev N__has_only : List Str := ["text", "signs", "sign"]
theorem nd__has_only : N__has_only.Nodup := by decide +kernel
theorem sc__has_only : FnScope N__has_only ["text", "signs"] (defScope s__has_only) := ⟨rfl, rfl, rfl, nd__has_only, rfl, by decide +kernel, by decide +kernel⟩
theorem ok__has_only {P : Program} {w : World} {K : Frag} {mg : Str → Option Value} {base : Heap} {cls : Str → Option Addr} (c : Fx K mg cls) : Def P w K mg base cls "_has_only" 2 1 F__has_only := by
  obtain ⟨f, fd, F, gm⟩ := c.d__has_only
  exact def_ok F gm (fun _ _ _ _ _ _ us hl => match us, hl with | [_, _], _ => rfl) sc__has_only rfl rfl fun xs hid cdv A outer s H E n0 hr => (dss_cons (ds_ret (de_cB (cr_all rfl) sem_all c.g_all bt_all (da_c (de_l false [("sign", 2)] rfl nd__has_only (di_v rfl (de_v 0 (by kernel_rfl))) (by kernel_rfl) (fun _ _ _ _ _ _ => (dgn (by kernel_rfl) nd__has_only)) (fun _ _ _ _ _ _ => dts_nil) (fun _ _ _ _ _ _ => (de_cmp (opr_inX (Room.u65 hr)) (sem_inX (neg := false)) (de_v 2 (by kernel_rfl)) (de_v 1 (by kernel_rfl)) (by kernel_rfl)))) da_nil rfl) (by kernel_rfl))) dss_nil)
abbrev s_is_name : Stmt := top 11
abbrev N_is_name : List Str := ["thing"]
theorem nd_is_name : N_is_name.Nodup := by decide +kernel
theorem sc_is_name : FnScope N_is_name ["thing"] (defScope s_is_name) := ⟨rfl, rfl, rfl, nd_is_name, rfl, by decide +kernel, by decide +kernel⟩
theorem ok_is_name {P : Program} {w : World} {K : Frag} {mg : Str → Option Value} {base : Heap} {cls : Str → Option Addr} (c : Fx K mg cls) : Def P w K mg base cls "is_name" 1 2 F_is_name := by
  obtain ⟨f, fd, F, gm⟩ := c.d_is_name
  exact def_ok F gm (fun _ _ _ _ _ _ us hl => match us, hl with | [_], _ => rfl) sc_is_name rfl rfl fun xs hid cdv A outer s H E n0 hr => (dss_cons (ds_if (dt_w (dw_or (dt_not (dt_t rfl (de_isB rfl c.g_isinstance c.g_str bt_str (de_v 0 (by kernel_rfl)) (by kernel_rfl)) rfl)) (dw_or1 (dt_not (dt_chain opr_le opr_le sem_le sem_le de_int (de_cB call_len sem_len c.g_len bt_len (da_c (de_v 0 (by kernel_rfl)) da_nil rfl) (by kernel_rfl)) (de_gv c.v_MOST_SIGNS rfl (by kernel_rfl)) (by kernel_rfl)))))) (dss_cons (ds_ret de_bl) dss_nil) dss_nil) (dss_cons (ds_ret (de_and (de_cmp (opr_inX (Room.u65 hr)) (sem_inX (neg := false)) (de_ixB rfl hr (de_v 0 (by kernel_rfl)) de_int rfl) (de_gv c.v_LETTERS rfl (by kernel_rfl)) (by kernel_rfl)) (de_one (de_cD (ok__has_only c) rfl rfl hr (by decide) (FC.tk _ _ _ _) (da_c (de_v 0 (by kernel_rfl)) (da_c (de_op opr_add (sem_add (md := false)) (de_gv c.v_LETTERS rfl (by kernel_rfl)) (de_gv c.v_DIGITS rfl (by kernel_rfl))) da_nil rfl) rfl) (by kernel_rfl))))) dss_nil))
abbrev s__is_written : Stmt := top 12
abbrev N__is_written : List Str := ["text", "most", "digits"]
theorem nd__is_written : N__is_written.Nodup := by decide +kernel
theorem sc__is_written : FnScope N__is_written ["text", "most"] (defScope s__is_written) := ⟨rfl, rfl, rfl, nd__is_written, rfl, by decide +kernel, by decide +kernel⟩
theorem ok__is_written {P : Program} {w : World} {K : Frag} {mg : Str → Option Value} {base : Heap} {cls : Str → Option Addr} (c : Fx K mg cls) : Def P w K mg base cls "_is_written" 2 2 F__is_written := by
  obtain ⟨f, fd, F, gm⟩ := c.d__is_written
  exact def_ok F gm (fun _ _ _ _ _ _ us hl => match us, hl with | [_, _], _ => rfl) sc__is_written rfl rfl fun xs hid cdv A outer s H E n0 hr => (dss_cons (ds_s 2 nd__is_written (de_if (dt_cmp (opr_eq hr.units) (sem_eq (neg := false)) (de_slice (md := false) rfl (de_v 0 (by kernel_rfl)) do_none (do_some de_int)) (de_s (by kernel_rfl)) (by kernel_rfl)) (de_slice (md := false) rfl (de_v 0 (by kernel_rfl)) (do_some de_int) do_none) (de_v 0 (by kernel_rfl))) (by kernel_rfl)) (dss_cons (ds_if (dt_w (dw_or (dt_not (dt_chain opr_le opr_le sem_le sem_le de_int (de_cB call_len sem_len c.g_len bt_len (da_c (de_v 2 (by kernel_rfl)) da_nil rfl) (by kernel_rfl)) (de_v 1 (by kernel_rfl)) (by kernel_rfl))) (dw_or1 (dt_not (dt_t rfl (de_cD (ok__has_only c) rfl rfl hr (by decide) (FC.tk _ _ _ _) (da_c (de_v 2 (by kernel_rfl)) (da_c (de_gv c.v_DIGITS rfl (by kernel_rfl)) da_nil rfl) rfl) (by kernel_rfl)) rfl))))) (dss_cons (ds_ret de_bl) dss_nil) dss_nil) (dss_cons (ds_ret (de_or (de_cmp (opr_ne hr.units) (sem_eq (neg := true)) (de_ixB rfl hr (de_v 2 (by kernel_rfl)) de_int rfl) (de_s (by kernel_rfl)) (by kernel_rfl)) (de_one (de_cmp (opr_eq hr.units) (sem_eq (neg := false)) (de_v 0 (by kernel_rfl)) (de_s (by kernel_rfl)) (by kernel_rfl))))) dss_nil)))
abbrev s_read_number : Stmt := top 13
abbrev N_read_number : List Str := ["text"]
theorem nd_read_number : N_read_number.Nodup := by decide +kernel
theorem sc_read_number : FnScope N_read_number ["text"] (defScope s_read_number) := ⟨rfl, rfl, rfl, nd_read_number, rfl, by decide +kernel, by decide +kernel⟩
theorem ok_read_number {P : Program} {w : World} {K : Frag} {mg : Str → Option Value} {base : Heap} {cls : Str → Option Addr} (c : Fx K mg cls) : Def P w K mg base cls "read_number" 1 3 F_read_number := by
  obtain ⟨f, fd, F, gm⟩ := c.d_read_number
  exact def_ok F gm (fun _ _ _ _ _ _ us hl => match us, hl with | [_], _ => rfl) sc_read_number rfl rfl fun xs hid cdv A outer s H E n0 hr => (dss_cons (ds_if (dt_not (dt_t rfl (de_cD (ok__is_written c) rfl rfl hr (by decide) (FC.tk _ _ _ _) (da_c (de_v 0 (by kernel_rfl)) (da_c (de_gv c.v_MOST_DIGITS rfl (by kernel_rfl)) da_nil rfl) rfl) (by kernel_rfl)) rfl)) (dss_cons ds_fail dss_nil) dss_nil) (dss_cons (ds_ret (de_cT callr_int sem_int c.g_int bt_int (da_c (de_v 0 (by kernel_rfl)) da_nil rfl) (by kernel_rfl))) dss_nil))
abbrev s_is_ascending : Stmt := top 20
abbrev N_is_ascending : List Str := ["things", "at"]
theorem nd_is_ascending : N_is_ascending.Nodup := by decide +kernel
theorem sc_is_ascending : FnScope N_is_ascending ["things"] (defScope s_is_ascending) := ⟨rfl, rfl, rfl, nd_is_ascending, rfl, by decide +kernel, by decide +kernel⟩
theorem ok_is_ascending {P : Program} {w : World} {K : Frag} {mg : Str → Option Value} {base : Heap} {cls : Str → Option Addr} (c : Fx K mg cls) : Def P w K mg base cls "is_ascending" 1 1 F_is_ascending := by
  obtain ⟨f, fd, F, gm⟩ := c.d_is_ascending
  exact def_ok F gm (fun _ _ _ _ _ _ us hl => match us, hl with | [_], _ => rfl) sc_is_ascending rfl rfl fun xs hid cdv A outer s H E n0 hr => (dss_cons (ds_ret (de_cB (cr_all rfl) sem_all c.g_all bt_all (da_c (de_l false [("at", 1)] rfl nd_is_ascending (di_r1 c.g_range (da_c (de_op op_sub sem_sub (de_cB call_len sem_len c.g_len bt_len (da_c (de_v 0 (by kernel_rfl)) da_nil rfl) (by kernel_rfl)) de_int) da_nil rfl) (by kernel_rfl)) (by kernel_rfl) (fun _ _ _ _ _ _ => (dgn (by kernel_rfl) nd_is_ascending)) (fun _ _ _ _ _ _ => dts_nil) (fun _ _ _ _ _ _ => (de_cmp (opr_lt hr.units) sem_lt (de_ixB rfl hr (de_v 0 (by kernel_rfl)) (de_v 1 (by kernel_rfl)) rfl) (de_ixB rfl hr (de_v 0 (by kernel_rfl)) (de_op opr_add (sem_add (md := false)) (de_v 1 (by kernel_rfl)) de_int) rfl) (by kernel_rfl)))) da_nil rfl) (by kernel_rfl))) dss_nil)
abbrev s_is_pair : Stmt := top 21
abbrev N_is_pair : List Str := ["thing"]
theorem nd_is_pair : N_is_pair.Nodup := by decide +kernel
theorem sc_is_pair : FnScope N_is_pair ["thing"] (defScope s_is_pair) := ⟨rfl, rfl, rfl, nd_is_pair, rfl, by decide +kernel, by decide +kernel⟩
theorem ok_is_pair {P : Program} {w : World} {K : Frag} {mg : Str → Option Value} {base : Heap} {cls : Str → Option Addr} (c : Fx K mg cls) : Def P w K mg base cls "is_pair" 1 1 F_is_pair := by
  obtain ⟨f, fd, F, gm⟩ := c.d_is_pair
  exact def_ok F gm (fun _ _ _ _ _ _ us hl => match us, hl with | [_], _ => rfl) sc_is_pair rfl rfl fun xs hid cdv A outer s H E n0 hr => (dss_cons (ds_ret (de_and (de_isB rfl c.g_isinstance c.g_tuple bt_tuple (de_v 0 (by kernel_rfl)) (by kernel_rfl)) (de_one (de_cmp (opr_eq hr.units) (sem_eq (neg := false)) (de_cB call_len sem_len c.g_len bt_len (da_c (de_v 0 (by kernel_rfl)) da_nil rfl) (by kernel_rfl)) de_int (by kernel_rfl))))) dss_nil)
abbrev s_is_any_terms : Stmt := top 22
abbrev N_is_any_terms : List Str := ["thing", "row"]
theorem nd_is_any_terms : N_is_any_terms.Nodup := by decide +kernel
theorem sc_is_any_terms : FnScope N_is_any_terms ["thing"] (defScope s_is_any_terms) := ⟨rfl, rfl, rfl, nd_is_any_terms, rfl, by decide +kernel, by decide +kernel⟩
theorem ok_is_any_terms {P : Program} {w : World} {K : Frag} {mg : Str → Option Value} {base : Heap} {cls : Str → Option Addr} (c : Fx K mg cls) : Def P w K mg base cls "is_any_terms" 1 3 F_is_any_terms := by
  obtain ⟨f, fd, F, gm⟩ := c.d_is_any_terms
  exact def_ok F gm (fun _ _ _ _ _ _ us hl => match us, hl with | [_], _ => rfl) sc_is_any_terms rfl rfl fun xs hid cdv A outer s H E n0 hr => (dss_cons (ds_if (dt_w (dw_or (dt_not (dt_t rfl (de_isB rfl c.g_isinstance c.g_tuple bt_tuple (de_v 0 (by kernel_rfl)) (by kernel_rfl)) rfl)) (dw_or1 (dt_not (dt_t rfl (de_cB (cr_all rfl) sem_all c.g_all bt_all (da_c (de_l false [("row", 1)] rfl nd_is_any_terms (di_v rfl (de_v 0 (by kernel_rfl))) (by kernel_rfl) (fun _ _ _ _ _ _ => (dgn (by kernel_rfl) nd_is_any_terms)) (fun _ _ _ _ _ _ => dts_nil) (fun _ _ _ _ _ _ => (de_and (de_cD (ok_is_pair c) rfl rfl hr (by decide) takes0 (da_c (de_v 1 (by kernel_rfl)) da_nil rfl) (by kernel_rfl)) (de_one (de_cD (ok_is_name c) rfl rfl hr (by decide) takes0 (da_c (de_ixB rfl hr (de_v 1 (by kernel_rfl)) de_int rfl) da_nil rfl) (by kernel_rfl)))))) da_nil rfl) (by kernel_rfl)) rfl))))) (dss_cons (ds_ret de_bl) dss_nil) dss_nil) (dss_cons (ds_if (dt_not (dt_t rfl (de_cB (cr_all rfl) sem_all c.g_all bt_all (da_c (de_l false [("row", 1)] rfl nd_is_any_terms (di_v rfl (de_v 0 (by kernel_rfl))) (by kernel_rfl) (fun _ _ _ _ _ _ => (dgn (by kernel_rfl) nd_is_any_terms)) (fun _ _ _ _ _ _ => dts_nil) (fun _ _ _ _ _ _ => (de_and (de_cD (ok_is_between c) rfl rfl hr (by decide) takes0 (da_c (de_ixB rfl hr (de_v 1 (by kernel_rfl)) de_int rfl) (da_c (de_neg (de_gv c.v_MOST_NUMBER rfl (by kernel_rfl))) (da_c (de_gv c.v_MOST_NUMBER rfl (by kernel_rfl)) da_nil rfl) rfl) rfl) (by kernel_rfl)) (de_one (de_cmp (opr_ne hr.units) (sem_eq (neg := true)) (de_ixB rfl hr (de_v 1 (by kernel_rfl)) de_int rfl) de_int (by kernel_rfl)))))) da_nil rfl) (by kernel_rfl)) rfl)) (dss_cons (ds_ret de_bl) dss_nil) dss_nil) (dss_cons (ds_ret (de_cD (ok_is_ascending c) rfl rfl hr (by decide) (FC.tk _ _ _ _) (da_c (de_l false [("row", 1)] rfl nd_is_any_terms (di_v rfl (de_v 0 (by kernel_rfl))) (by kernel_rfl) (fun _ _ _ _ _ _ => (dgn (by kernel_rfl) nd_is_any_terms)) (fun _ _ _ _ _ _ => dts_nil) (fun _ _ _ _ _ _ => (de_ixB rfl hr (de_v 1 (by kernel_rfl)) de_int rfl))) da_nil rfl) (by kernel_rfl))) dss_nil)))
abbrev s_is_terms : Stmt := top 23
abbrev N_is_terms : List Str := ["names", "thing", "row"]
theorem nd_is_terms : N_is_terms.Nodup := by decide +kernel
theorem sc_is_terms : FnScope N_is_terms ["names", "thing"] (defScope s_is_terms) := ⟨rfl, rfl, rfl, nd_is_terms, rfl, by decide +kernel, by decide +kernel⟩
theorem ok_is_terms {P : Program} {w : World} {K : Frag} {mg : Str → Option Value} {base : Heap} {cls : Str → Option Addr} (c : Fx K mg cls) : Def P w K mg base cls "is_terms" 2 4 F_is_terms := by
  obtain ⟨f, fd, F, gm⟩ := c.d_is_terms
  exact def_ok F gm (fun _ _ _ _ _ _ us hl => match us, hl with | [_, _], _ => rfl) sc_is_terms rfl rfl fun xs hid cdv A outer s H E n0 hr => (dss_cons (ds_ret (de_and (de_cD (ok_is_any_terms c) rfl rfl hr (by decide) (FC.tk _ _ _ _) (da_c (de_v 1 (by kernel_rfl)) da_nil rfl) (by kernel_rfl)) (de_one (de_cB (cr_all rfl) sem_all c.g_all bt_all (da_c (de_l false [("row", 2)] rfl nd_is_terms (di_v rfl (de_v 1 (by kernel_rfl))) (by kernel_rfl) (fun _ _ _ _ _ _ => (dgn (by kernel_rfl) nd_is_terms)) (fun _ _ _ _ _ _ => dts_nil) (fun _ _ _ _ _ _ => (de_cmp (opr_inX (Room.u65 hr)) (sem_inX (neg := false)) (de_ixB rfl hr (de_v 2 (by kernel_rfl)) de_int rfl) (de_v 0 (by kernel_rfl)) (by kernel_rfl)))) da_nil rfl) (by kernel_rfl))))) dss_nil)
abbrev s_write_terms : Stmt := top 24
abbrev N_write_terms : List Str := ["terms", "name", "number"]
theorem nd_write_terms : N_write_terms.Nodup := by decide +kernel
theorem sc_write_terms : FnScope N_write_terms ["terms"] (defScope s_write_terms) := ⟨rfl, rfl, rfl, nd_write_terms, rfl, by decide +kernel, by decide +kernel⟩
theorem ok_write_terms {P : Program} {w : World} {K : Frag} {mg : Str → Option Value} {base : Heap} {cls : Str → Option Addr} (c : Fx K mg cls) : Def P w K mg base cls "write_terms" 1 1 F_write_terms := by
  obtain ⟨f, fd, F, gm⟩ := c.d_write_terms
  exact def_ok F gm (fun _ _ _ _ _ _ us hl => match us, hl with | [_], _ => rfl) sc_write_terms rfl rfl fun xs hid cdv A outer s H E n0 hr => (dss_cons (ds_ret (de_mJ rfl (de_s (by kernel_rfl)) (da_c (de_l false [("name", 1), ("number", 2)] rfl nd_write_terms (di_v rfl (de_v 0 (by kernel_rfl))) (by kernel_rfl) (fun _ _ _ _ _ _ => (dg_tup rfl rfl (dgs_cons (dgn (by kernel_rfl) nd_write_terms) (dgs_cons (dgn (by kernel_rfl) nd_write_terms) dgs_nil rfl) rfl) rfl rfl)) (fun _ _ _ _ _ _ => dts_nil) (fun _ _ _ _ _ _ => (de_joined (.cons (de_s (by kernel_rfl)) (.cons (de_fmt (de_v 2 (by kernel_rfl))) (.cons (de_s (by kernel_rfl)) (.cons (de_fmt (de_v 1 (by kernel_rfl))) .nil))))))) da_nil rfl) (by kernel_rfl))) dss_nil)
abbrev s_write_rows : Stmt := top 25
abbrev N_write_rows : List Str := ["rows", "lines", "name", "terms", "kind", "bound"]
theorem nd_write_rows : N_write_rows.Nodup := by decide +kernel
theorem sc_write_rows : FnScope N_write_rows ["rows"] (defScope s_write_rows) := ⟨rfl, rfl, rfl, nd_write_rows, rfl, by decide +kernel, by decide +kernel⟩
theorem ok_write_rows {P : Program} {w : World} {K : Frag} {mg : Str → Option Value} {base : Heap} {cls : Str → Option Addr} (c : Fx K mg cls) : Def P w K mg base cls "write_rows" 1 2 F_write_rows := by
  obtain ⟨f, fd, F, gm⟩ := c.d_write_rows
  exact def_ok F gm (fun _ _ _ _ _ _ us hl => match us, hl with | [_], _ => rfl) sc_write_rows rfl rfl fun xs hid cdv A outer s H E n0 hr => (dss_cons (ds_sL 1 true [("name", 2)] rfl nd_write_rows (di_v rfl (de_ixB rfl hr (de_v 0 (by kernel_rfl)) de_int rfl)) (by kernel_rfl) (by kernel_rfl) (by kernel_rfl) (fun _ _ _ _ _ _ => (dgn (by kernel_rfl) nd_write_rows)) (fun _ _ _ _ _ _ => dts_nil) (fun _ _ _ _ _ _ => (de_joined (.cons (de_s (by kernel_rfl)) (.cons (de_fmt (de_v 2 (by kernel_rfl))) (.cons (de_s (by kernel_rfl)) .nil)))))) (dss_cons (ds_f (FC.own _ _ _ _) rfl (di_v rfl (de_ixB rfl hr (de_v 0 (by kernel_rfl)) de_int rfl)) (dg_tup rfl rfl (dgs_cons (dgn (by kernel_rfl) nd_write_rows) (dgs_cons (dgn (by kernel_rfl) nd_write_rows) (dgs_cons (dgn (by kernel_rfl) nd_write_rows) (dgs_cons (dgn (by kernel_rfl) nd_write_rows) dgs_nil rfl) rfl) rfl) rfl) rfl rfl) (dss_cons (ds_x (de_mA rfl (de_v 1 (by kernel_rfl)) (da_c (de_op opr_add (sem_add (md := false)) (de_op opr_add (sem_add (md := false)) (de_joined (.cons (de_s (by kernel_rfl)) (.cons (de_fmt (de_v 2 (by kernel_rfl))) (.cons (de_s (by kernel_rfl)) (.cons (de_fmt (de_v 4 (by kernel_rfl))) (.cons (de_s (by kernel_rfl)) (.cons (de_fmt (de_v 5 (by kernel_rfl))) .nil))))))) (de_cD (ok_write_terms c) rfl rfl hr (by decide) (FC.tk _ _ _ _) (da_c (de_v 3 (by kernel_rfl)) da_nil rfl) (by kernel_rfl))) (de_s (by kernel_rfl))) da_nil rfl) (by kernel_rfl)) rfl) dss_nil) rfl) (dss_cons (ds_ret (de_mJ rfl (de_s (by kernel_rfl)) (da_c (de_v 1 (by kernel_rfl)) da_nil rfl) (by kernel_rfl))) dss_nil)))
abbrev s_number_of : Stmt := top 26
abbrev N_number_of : List Str := ["word"]
theorem nd_number_of : N_number_of.Nodup := by decide +kernel
theorem sc_number_of : FnScope N_number_of ["word"] (defScope s_number_of) := ⟨rfl, rfl, rfl, nd_number_of, rfl, by decide +kernel, by decide +kernel⟩
theorem ok_number_of {P : Program} {w : World} {K : Frag} {mg : Str → Option Value} {base : Heap} {cls : Str → Option Addr} (c : Fx K mg cls) : Def P w K mg base cls "number_of" 1 4 F_number_of := by
  obtain ⟨f, fd, F, gm⟩ := c.d_number_of
  exact def_ok F gm (fun _ _ _ _ _ _ us hl => match us, hl with | [_], _ => rfl) sc_number_of rfl rfl fun xs hid cdv A outer s H E n0 hr => (dss_cons (ds_try (dss_cons (ds_ret (de_cD (ok_read_number c) rfl rfl hr (by decide) takes0 (da_c (de_v 0 (by kernel_rfl)) da_nil rfl) (by kernel_rfl))) dss_nil)) dss_nil)
abbrev s_terms_of : Stmt := top 27
abbrev N_terms_of : List Str := ["words", "terms", "at"]
theorem nd_terms_of : N_terms_of.Nodup := by decide +kernel
theorem sc_terms_of : FnScope N_terms_of ["words"] (defScope s_terms_of) := ⟨rfl, rfl, rfl, nd_terms_of, rfl, by decide +kernel, by decide +kernel⟩
theorem ok_terms_of {P : Program} {w : World} {K : Frag} {mg : Str → Option Value} {base : Heap} {cls : Str → Option Addr} (c : Fx K mg cls) : Def P w K mg base cls "terms_of" 1 5 F_terms_of := by
  obtain ⟨f, fd, F, gm⟩ := c.d_terms_of
  exact def_ok F gm (fun _ _ _ _ _ _ us hl => match us, hl with | [_], _ => rfl) sc_terms_of rfl rfl fun xs hid cdv A outer s H E n0 hr => (dss_cons (ds_if (dt_cmp (opr_eq hr.units) (sem_eq (neg := false)) (de_op op_modN sem_mod (de_cB call_len sem_len c.g_len bt_len (da_c (de_v 0 (by kernel_rfl)) da_nil rfl) (by kernel_rfl)) de_int) de_int (by kernel_rfl)) (dss_cons (ds_ret de_non) dss_nil) dss_nil) (dss_cons (ds_s 1 nd_terms_of (de_cT cr_tupleX sem_tuple c.g_tuple bt_tuple (da_c (de_l false [("at", 2)] rfl nd_terms_of (di_r3 c.g_range (da_c de_int (da_c (de_cB call_len sem_len c.g_len bt_len (da_c (de_v 0 (by kernel_rfl)) da_nil rfl) (by kernel_rfl)) (da_c de_int da_nil rfl) rfl) rfl) (by kernel_rfl)) (by kernel_rfl) (fun _ _ _ _ _ _ => (dgn (by kernel_rfl) nd_terms_of)) (fun _ _ _ _ _ _ => dts_nil) (fun _ _ _ _ _ _ => (de_tup (da_c (de_ixB rfl hr (de_v 0 (by kernel_rfl)) (de_op opr_add (sem_add (md := false)) (de_v 2 (by kernel_rfl)) de_int) rfl) (da_c (de_cD (ok_number_of c) rfl rfl hr (by decide) takes0 (da_c (de_ixB rfl hr (de_v 0 (by kernel_rfl)) (de_v 2 (by kernel_rfl)) rfl) da_nil rfl) (by kernel_rfl)) da_nil rfl) rfl)))) da_nil rfl) (by kernel_rfl)) (by kernel_rfl)) (dss_cons (ds_ret (de_if (dt_t rfl (de_cD (ok_is_any_terms c) rfl rfl hr (by decide) (FC.tk _ _ _ _) (da_c (de_v 1 (by kernel_rfl)) da_nil rfl) (by kernel_rfl)) rfl) (de_v 1 (by kernel_rfl)) de_non)) dss_nil)))
abbrev s__read_line : Stmt := top 28
abbrev N__read_line : List Str := ["line", "words", "bound", "terms"]
theorem nd__read_line : N__read_line.Nodup := by decide +kernel
theorem sc__read_line : FnScope N__read_line ["line"] (defScope s__read_line) := ⟨rfl, rfl, rfl, nd__read_line, rfl, by decide +kernel, by decide +kernel⟩
theorem ok__read_line {P : Program} {w : World} {K : Frag} {mg : Str → Option Value} {base : Heap} {cls : Str → Option Addr} (c : Fx K mg cls) : Def P w K mg base cls "_read_line" 1 6 F__read_line := by
  obtain ⟨f, fd, F, gm⟩ := c.d__read_line
  exact def_ok F gm (fun _ _ _ _ _ _ us hl => match us, hl with | [_], _ => rfl) sc__read_line rfl rfl fun xs hid cdv A outer s H E n0 hr => (dss_cons (ds_s 1 nd__read_line (de_mS (md := false) rfl (de_v 0 (by kernel_rfl)) (da_c (de_s (by kernel_rfl)) da_nil rfl) (by kernel_rfl)) (by kernel_rfl)) (dss_cons (ds_if (dt_cmp (opr_eq hr.units) (sem_eq (neg := false)) (de_ixB rfl hr (de_v 1 (by kernel_rfl)) de_int rfl) (de_s (by kernel_rfl)) (by kernel_rfl)) (dss_cons (ds_ret (de_if (dt_w (dw_and (dt_cmp (opr_eq hr.units) (sem_eq (neg := false)) (de_cB call_len sem_len c.g_len bt_len (da_c (de_v 1 (by kernel_rfl)) da_nil rfl) (by kernel_rfl)) de_int (by kernel_rfl)) (dw_and1 (dt_t rfl (de_cD (ok_is_name c) rfl rfl hr (by decide) (FC.tk _ _ _ _) (da_c (de_ixB rfl hr (de_v 1 (by kernel_rfl)) de_int rfl) da_nil rfl) (by kernel_rfl)) rfl)))) (de_ixB rfl hr (de_v 1 (by kernel_rfl)) de_int rfl) de_non)) dss_nil) dss_nil) (dss_cons (ds_if (dt_w (dw_or (dt_cmp (opr_ne hr.units) (sem_eq (neg := true)) (de_ixB rfl hr (de_v 1 (by kernel_rfl)) de_int rfl) (de_s (by kernel_rfl)) (by kernel_rfl)) (dw_or (dt_cmp (opr_lt hr.units) sem_lt (de_cB call_len sem_len c.g_len bt_len (da_c (de_v 1 (by kernel_rfl)) da_nil rfl) (by kernel_rfl)) de_int (by kernel_rfl)) (dw_or (dt_not (dt_t rfl (de_cD (ok_is_name c) rfl rfl hr (by decide) (FC.tk _ _ _ _) (da_c (de_ixB rfl hr (de_v 1 (by kernel_rfl)) de_int rfl) da_nil rfl) (by kernel_rfl)) rfl)) (dw_or1 (dt_cmp (opr_notinX (Room.u65 hr)) (sem_inX (neg := true)) (de_ixB rfl hr (de_v 1 (by kernel_rfl)) de_int rfl) (de_gv c.v_KINDS rfl (by kernel_rfl)) (by kernel_rfl))))))) (dss_cons (ds_ret de_non) dss_nil) dss_nil) (dss_cons (ds_p2 (i := 2) (j := 3) rfl nd__read_line (da_c (de_cD (ok_number_of c) rfl rfl hr (by decide) (FC.tk _ _ _ _) (da_c (de_ixB rfl hr (de_v 1 (by kernel_rfl)) de_int rfl) da_nil rfl) (by kernel_rfl)) (da_c (de_cD (ok_terms_of c) rfl rfl hr (by decide) (FC.tk _ _ _ _) (da_c (de_slice (md := false) rfl (de_v 1 (by kernel_rfl)) (do_some de_int) do_none) da_nil rfl) (by kernel_rfl)) da_nil rfl) rfl) (by kernel_rfl) (by kernel_rfl)) (dss_cons (ds_if (dt_w (dw_or (dt_cmp opr_is (sem_is (neg := false)) (de_v 3 (by kernel_rfl)) de_non (by kernel_rfl)) (dw_or1 (dt_not (dt_t rfl (de_cD (ok_is_between c) rfl rfl hr (by decide) (FC.tk _ _ _ _) (da_c (de_v 2 (by kernel_rfl)) (da_c (de_neg (de_gv c.v_MOST_BOUND rfl (by kernel_rfl))) (da_c (de_gv c.v_MOST_BOUND rfl (by kernel_rfl)) da_nil rfl) rfl) rfl) (by kernel_rfl)) rfl))))) (dss_cons (ds_ret de_non) dss_nil) dss_nil) (dss_cons (ds_ret (de_tup (da_c (de_ixB rfl hr (de_v 1 (by kernel_rfl)) de_int rfl) (da_c (de_v 3 (by kernel_rfl)) (da_c (de_ixB rfl hr (de_v 1 (by kernel_rfl)) de_int rfl) (da_c (de_v 2 (by kernel_rfl)) da_nil rfl) rfl) rfl) rfl))) dss_nil))))))
abbrev s__name_fault : Stmt := top 29
abbrev N__name_fault : List Str := ["names", "rows", "name"]
theorem nd__name_fault : N__name_fault.Nodup := by decide +kernel
theorem sc__name_fault : FnScope N__name_fault ["names", "rows", "name"] (defScope s__name_fault) := ⟨rfl, rfl, rfl, nd__name_fault, rfl, by decide +kernel, by decide +kernel⟩
theorem ok__name_fault {P : Program} {w : World} {K : Frag} {mg : Str → Option Value} {base : Heap} {cls : Str → Option Addr} (c : Fx K mg cls) : Def P w K mg base cls "_name_fault" 3 1 F__name_fault := by
  obtain ⟨f, fd, F, gm⟩ := c.d__name_fault
  exact def_ok F gm (fun _ _ _ _ _ _ us hl => match us, hl with | [_, _, _], _ => rfl) sc__name_fault rfl rfl fun xs hid cdv A outer s H E n0 hr => (dss_cons (ds_if (dt_t rfl (de_v 1 (by kernel_rfl)) rfl) (dss_cons (ds_ret (de_s (by kernel_rfl))) dss_nil) dss_nil) (dss_cons (ds_if (dt_w (dw_and (dt_t rfl (de_v 0 (by kernel_rfl)) rfl) (dw_and1 (dt_cmp opr_le sem_le (de_v 2 (by kernel_rfl)) (de_ixB rfl hr (de_v 0 (by kernel_rfl)) (de_neg de_int) rfl) (by kernel_rfl))))) (dss_cons (ds_ret (de_s (by kernel_rfl))) dss_nil) dss_nil) (dss_cons (ds_ret (de_if (dt_cmp (opr_eq hr.units) (sem_eq (neg := false)) (de_cB call_len sem_len c.g_len bt_len (da_c (de_v 0 (by kernel_rfl)) da_nil rfl) (by kernel_rfl)) (de_gv c.v_MOST_NAMES rfl (by kernel_rfl)) (by kernel_rfl)) (de_s (by kernel_rfl)) de_non)) dss_nil)))
abbrev s__row_fault : Stmt := top 30
abbrev N__row_fault : List Str := ["names", "rows", "row"]
theorem nd__row_fault : N__row_fault.Nodup := by decide +kernel
theorem sc__row_fault : FnScope N__row_fault ["names", "rows", "row"] (defScope s__row_fault) := ⟨rfl, rfl, rfl, nd__row_fault, rfl, by decide +kernel, by decide +kernel⟩
theorem ok__row_fault {P : Program} {w : World} {K : Frag} {mg : Str → Option Value} {base : Heap} {cls : Str → Option Addr} (c : Fx K mg cls) : Def P w K mg base cls "_row_fault" 3 5 F__row_fault := by
  obtain ⟨f, fd, F, gm⟩ := c.d__row_fault
  exact def_ok F gm (fun _ _ _ _ _ _ us hl => match us, hl with | [_, _, _], _ => rfl) sc__row_fault rfl rfl fun xs hid cdv A outer s H E n0 hr => (dss_cons (ds_if (dt_w (dw_and (dt_t rfl (de_v 1 (by kernel_rfl)) rfl) (dw_and1 (dt_cmp opr_le sem_le (de_ixB rfl hr (de_v 2 (by kernel_rfl)) de_int rfl) (de_ixB rfl hr (de_ixB rfl hr (de_v 1 (by kernel_rfl)) (de_neg de_int) rfl) de_int rfl) (by kernel_rfl))))) (dss_cons (ds_ret (de_s (by kernel_rfl))) dss_nil) dss_nil) (dss_cons (ds_if (dt_cmp (opr_eq hr.units) (sem_eq (neg := false)) (de_cB call_len sem_len c.g_len bt_len (da_c (de_v 1 (by kernel_rfl)) da_nil rfl) (by kernel_rfl)) (de_gv c.v_MOST_ROWS rfl (by kernel_rfl)) (by kernel_rfl)) (dss_cons (ds_ret (de_s (by kernel_rfl))) dss_nil) dss_nil) (dss_cons (ds_if (dt_cmp (opr_inX (Room.u65 hr)) (sem_inX (neg := false)) (de_ixB rfl hr (de_v 2 (by kernel_rfl)) de_int rfl) (de_v 0 (by kernel_rfl)) (by kernel_rfl)) (dss_cons (ds_ret (de_s (by kernel_rfl))) dss_nil) dss_nil) (dss_cons (ds_ret (de_if (dt_t rfl (de_cD (ok_is_terms c) rfl rfl hr (by decide) (FC.tk _ _ _ _) (da_c (de_v 0 (by kernel_rfl)) (da_c (de_ixB rfl hr (de_v 2 (by kernel_rfl)) de_int rfl) da_nil rfl) rfl) (by kernel_rfl)) rfl) de_non (de_s (by kernel_rfl)))) dss_nil))))
abbrev s__fault : Stmt := top 31
abbrev N__fault : List Str := ["names", "rows", "told"]
theorem nd__fault : N__fault.Nodup := by decide +kernel
theorem sc__fault : FnScope N__fault ["names", "rows", "told"] (defScope s__fault) := ⟨rfl, rfl, rfl, nd__fault, rfl, by decide +kernel, by decide +kernel⟩
theorem ok__fault {P : Program} {w : World} {K : Frag} {mg : Str → Option Value} {base : Heap} {cls : Str → Option Addr} (c : Fx K mg cls) : Def P w K mg base cls "_fault" 3 6 F__fault := by
  obtain ⟨f, fd, F, gm⟩ := c.d__fault
  exact def_ok F gm (fun _ _ _ _ _ _ us hl => match us, hl with | [_, _, _], _ => rfl) sc__fault rfl rfl fun xs hid cdv A outer s H E n0 hr => (dss_cons (ds_if (dt_cmp opr_is (sem_is (neg := false)) (de_v 2 (by kernel_rfl)) de_non (by kernel_rfl)) (dss_cons (ds_ret (de_s (by kernel_rfl))) dss_nil) dss_nil) (dss_cons (ds_if (dt_t rfl (de_isB rfl c.g_isinstance c.g_str bt_str (de_v 2 (by kernel_rfl)) (by kernel_rfl)) rfl) (dss_cons (ds_ret (de_cD (ok__name_fault c) rfl rfl hr (by decide) (FC.tk _ _ _ _) (da_c (de_v 0 (by kernel_rfl)) (da_c (de_v 1 (by kernel_rfl)) (da_c (de_v 2 (by kernel_rfl)) da_nil rfl) rfl) rfl) (by kernel_rfl))) dss_nil) dss_nil) (dss_cons (ds_ret (de_cD (ok__row_fault c) rfl rfl hr (by decide) (FC.tk _ _ _ _) (da_c (de_v 0 (by kernel_rfl)) (da_c (de_v 1 (by kernel_rfl)) (da_c (de_v 2 (by kernel_rfl)) da_nil rfl) rfl) rfl) (by kernel_rfl))) dss_nil)))
abbrev s_read_rows : Stmt := top 32
abbrev N_read_rows : List Str := ["text", "lines", "last", "every", "names", "rows", "at", "line", "told", "fault"]
theorem nd_read_rows : N_read_rows.Nodup := by decide +kernel
theorem sc_read_rows : FnScope N_read_rows ["text"] (defScope s_read_rows) := ⟨rfl, rfl, rfl, nd_read_rows, rfl, by decide +kernel, by decide +kernel⟩
theorem ok_read_rows {P : Program} {w : World} {K : Frag} {mg : Str → Option Value} {base : Heap} {cls : Str → Option Addr} (c : Fx K mg cls) : Def P w K mg base cls "read_rows" 1 7 F_read_rows := by
  obtain ⟨f, fd, F, gm⟩ := c.d_read_rows
  exact def_ok F gm (fun _ _ _ _ _ _ us hl => match us, hl with | [_], _ => rfl) sc_read_rows rfl rfl fun xs hid cdv A outer s H E n0 hr => (dss_cons (ds_s 1 nd_read_rows (de_mS (md := true) rfl (de_v 0 (by kernel_rfl)) (da_c (de_s (by kernel_rfl)) da_nil rfl) (by kernel_rfl)) (by kernel_rfl)) (dss_cons (ds_s 2 nd_read_rows (de_mP rfl (de_v 1 (by kernel_rfl)) (by kernel_rfl)) (by kernel_rfl)) (dss_cons (ds_s 3 nd_read_rows (de_if (dt_cmp (opr_eq hr.units) (sem_eq (neg := false)) (de_v 2 (by kernel_rfl)) (de_s (by kernel_rfl)) (by kernel_rfl)) (de_v 1 (by kernel_rfl)) (de_op opr_add (sem_add (md := false)) (de_v 1 (by kernel_rfl)) (de_lst (md := false) (da_c (de_v 2 (by kernel_rfl)) da_nil rfl)))) (by kernel_rfl)) (dss_cons (ds_p2 (i := 4) (j := 5) rfl nd_read_rows (da_c (de_lst (md := true) da_nil) (da_c (de_lst (md := true) da_nil) da_nil rfl) rfl) (by kernel_rfl) (by kernel_rfl)) (dss_cons (ds_f (FC.own _ _ _ _) rfl (di_eX rfl c.g_enumerate (da_c (de_v 3 (by kernel_rfl)) da_nil rfl) (by kernel_rfl)) (dg_tup rfl rfl (dgs_cons (dgn (by kernel_rfl) nd_read_rows) (dgs_cons (dgn (by kernel_rfl) nd_read_rows) dgs_nil rfl) rfl) rfl rfl) (dss_cons (ds_s 8 nd_read_rows (de_cD (ok__read_line c) rfl rfl hr (by decide) (FC.tk _ _ _ _) (da_c (de_v 7 (by kernel_rfl)) da_nil rfl) (by kernel_rfl)) (by kernel_rfl)) (dss_cons (ds_s 9 nd_read_rows (de_cD (ok__fault c) rfl rfl hr (by decide) (FC.tk _ _ _ _) (da_c (de_v 4 (by kernel_rfl)) (da_c (de_v 5 (by kernel_rfl)) (da_c (de_v 8 (by kernel_rfl)) da_nil rfl) rfl) rfl) (by kernel_rfl)) (by kernel_rfl)) (dss_cons (ds_if (dt_w (dw_and (dt_cmp opr_is (sem_is (neg := false)) (de_v 9 (by kernel_rfl)) de_non (by kernel_rfl)) (dw_and1 (dt_cmp (opr_eq hr.units) (sem_eq (neg := false)) (de_v 6 (by kernel_rfl)) (de_cB call_len sem_len c.g_len bt_len (da_c (de_v 1 (by kernel_rfl)) da_nil rfl) (by kernel_rfl)) (by kernel_rfl))))) (dss_cons (ds_s 9 nd_read_rows (de_s (by kernel_rfl)) (by kernel_rfl)) dss_nil) dss_nil) (dss_cons (ds_if (dt_cmp opr_isnot (sem_is (neg := true)) (de_v 9 (by kernel_rfl)) de_non (by kernel_rfl)) (dss_cons ds_fail dss_nil) dss_nil) (dss_cons (ds_if (dt_t rfl (de_isB rfl c.g_isinstance c.g_str bt_str (de_v 8 (by kernel_rfl)) (by kernel_rfl)) rfl) (dss_cons (ds_x (de_mA rfl (de_v 4 (by kernel_rfl)) (da_c (de_v 8 (by kernel_rfl)) da_nil rfl) (by kernel_rfl)) rfl) dss_nil) (dss_cons (ds_x (de_mA rfl (de_v 5 (by kernel_rfl)) (da_c (de_v 8 (by kernel_rfl)) da_nil rfl) (by kernel_rfl)) rfl) dss_nil)) dss_nil))))) rfl) (dss_cons (ds_ret (de_tup (da_c (de_s (by kernel_rfl)) (da_c (de_cT cr_tupleX sem_tuple c.g_tuple bt_tuple (da_c (de_v 4 (by kernel_rfl)) da_nil rfl) (by kernel_rfl)) (da_c (de_cT cr_tupleX sem_tuple c.g_tuple bt_tuple (da_c (de_v 5 (by kernel_rfl)) da_nil rfl) (by kernel_rfl)) da_nil rfl) rfl) rfl))) dss_nil))))))
abbrev s__law_cell : Stmt := top 34
abbrev N__law_cell : List Str := ["script", "k"]
theorem nd__law_cell : N__law_cell.Nodup := by decide +kernel
theorem sc__law_cell : FnScope N__law_cell ["script", "k"] (defScope s__law_cell) := ⟨rfl, rfl, rfl, nd__law_cell, rfl, by decide +kernel, by decide +kernel⟩
theorem ok__law_cell {P : Program} {w : World} {K : Frag} {mg : Str → Option Value} {base : Heap} {cls : Str → Option Addr} (c : Fx K mg cls) : Def P w K mg base cls "_law_cell" 2 1 F__law_cell := by
  obtain ⟨f, fd, F, gm⟩ := c.d__law_cell
  exact def_ok F gm (fun _ _ _ _ _ _ us hl => match us, hl with | [_, _], _ => rfl) sc__law_cell rfl rfl fun xs hid cdv A outer s H E n0 hr => (dss_cons (ds_if (dt_cmp (opr_lt hr.units) sem_lt (de_v 1 (by kernel_rfl)) (de_cB call_len sem_len c.g_len bt_len (da_c (de_v 0 (by kernel_rfl)) da_nil rfl) (by kernel_rfl)) (by kernel_rfl)) (dss_cons (ds_ret (de_ixB rfl hr (de_v 0 (by kernel_rfl)) (de_v 1 (by kernel_rfl)) rfl)) dss_nil) dss_nil) (dss_cons (ds_ret de_int) dss_nil))
abbrev s__law_digits : Stmt := top 35
abbrev N__law_digits : List Str := ["script", "first", "last", "digits", "k", "cell", "step", "seed"]
theorem nd__law_digits : N__law_digits.Nodup := by decide +kernel
theorem sc__law_digits : FnScope N__law_digits ["script", "first", "last"] (defScope s__law_digits) := ⟨rfl, rfl, rfl, nd__law_digits, rfl, by decide +kernel, by decide +kernel⟩
theorem ok__law_digits {P : Program} {w : World} {K : Frag} {mg : Str → Option Value} {base : Heap} {cls : Str → Option Addr} (c : Fx K mg cls) : Def P w K mg base cls "_law_digits" 3 2 F__law_digits := by
  obtain ⟨f, fd, F, gm⟩ := c.d__law_digits
  exact def_ok F gm (fun _ _ _ _ _ _ us hl => match us, hl with | [_, _, _], _ => rfl) sc__law_digits rfl rfl fun xs hid cdv A outer s H E n0 hr => (dss_cons (ds_s 3 nd__law_digits (de_lst (md := true) da_nil) (by kernel_rfl)) (dss_cons (ds_f (FC.own _ _ _ _) rfl (di_r2 c.g_range (da_c (de_v 1 (by kernel_rfl)) (da_c (de_v 2 (by kernel_rfl)) da_nil rfl) rfl) (by kernel_rfl)) (dgn (by kernel_rfl) nd__law_digits) (dss_cons (ds_s 5 nd__law_digits (de_cD (ok__law_cell c) rfl rfl hr (by decide) (FC.tk _ _ _ _) (da_c (de_v 0 (by kernel_rfl)) (da_c (de_v 4 (by kernel_rfl)) da_nil rfl) rfl) (by kernel_rfl)) (by kernel_rfl)) (dss_cons (ds_if (dt_cmp (opr_lt hr.units) sem_lt (de_v 5 (by kernel_rfl)) de_int (by kernel_rfl)) (dss_cons (ds_s 5 nd__law_digits (de_op op_sub sem_sub de_int (de_op opr_mul (sem_mul (md := false)) de_int (de_v 5 (by kernel_rfl)))) (by kernel_rfl)) dss_nil) dss_nil) (dss_cons (ds_if (dt_cmp opr_gt sem_gt (de_cB call_len sem_len c.g_len bt_len (da_c (de_v 3 (by kernel_rfl)) da_nil rfl) (by kernel_rfl)) de_int (by kernel_rfl)) (dss_cons ds_break dss_nil) dss_nil) (dss_cons (ds_if (dt_cmp opr_ge sem_ge (de_v 5 (by kernel_rfl)) (de_op op_pow sem_pow de_int de_int) (by kernel_rfl)) (dss_cons (ds_f (FC.own _ _ _ _) rfl (di_r1 c.g_range (da_c de_int da_nil rfl) (by kernel_rfl)) (dgn (by kernel_rfl) nd__law_digits) (dss_cons (ds_if (dt_cmp opr_gt sem_gt (de_v 5 (by kernel_rfl)) de_int (by kernel_rfl)) (dss_cons (ds_x (de_mA rfl (de_v 3 (by kernel_rfl)) (da_c (de_op op_modN sem_mod (de_cT callr_int sem_int c.g_int bt_int (da_c (de_v 5 (by kernel_rfl)) da_nil rfl) (by kernel_rfl)) de_int) da_nil rfl) (by kernel_rfl)) rfl) (dss_cons (ds_s 5 nd__law_digits (de_op opr_fdiv sem_fdiv (de_v 5 (by kernel_rfl)) de_int) (by kernel_rfl)) dss_nil)) dss_nil) dss_nil) rfl) dss_nil) (dss_cons (ds_s 7 nd__law_digits (de_op op_modN sem_mod (de_cT callr_int sem_int c.g_int bt_int (da_c (de_op opr_add (sem_add (md := false)) (de_op opr_add (sem_add (md := false)) (de_op opr_mul (sem_mul (md := false)) (de_v 5 (by kernel_rfl)) de_int) (de_op opr_mul (sem_mul (md := false)) (de_v 4 (by kernel_rfl)) de_int)) de_int) da_nil rfl) (by kernel_rfl)) de_int) (by kernel_rfl)) (dss_cons (ds_f (FC.own _ _ _ _) rfl (di_r1 c.g_range (da_c de_int da_nil rfl) (by kernel_rfl)) (dgn (by kernel_rfl) nd__law_digits) (dss_cons (ds_s 7 nd__law_digits (de_op op_modN sem_mod (de_cT callr_int sem_int c.g_int bt_int (da_c (de_op opr_add (sem_add (md := false)) (de_op opr_add (sem_add (md := false)) (de_op opr_mul (sem_mul (md := false)) (de_v 7 (by kernel_rfl)) de_int) (de_op opr_mul (sem_mul (md := false)) de_int (de_v 6 (by kernel_rfl)))) de_int) da_nil rfl) (by kernel_rfl)) de_int) (by kernel_rfl)) (dss_cons (ds_x (de_mA rfl (de_v 3 (by kernel_rfl)) (da_c (de_op op_modN sem_mod (de_cT callr_int sem_int c.g_int bt_int (da_c (de_op opr_fdiv sem_fdiv (de_v 7 (by kernel_rfl)) de_int) da_nil rfl) (by kernel_rfl)) de_int) da_nil rfl) (by kernel_rfl)) rfl) dss_nil)) rfl) dss_nil))) dss_nil)))) rfl) (dss_cons (ds_ret (de_v 3 (by kernel_rfl))) dss_nil)))
abbrev s__law_draw : Stmt := top 36
abbrev N__law_draw : List Str := ["box", "many", "at"]
theorem nd__law_draw : N__law_draw.Nodup := by decide +kernel
theorem sc__law_draw : FnScope N__law_draw ["box", "many"] (defScope s__law_draw) := ⟨rfl, rfl, rfl, nd__law_draw, rfl, by decide +kernel, by decide +kernel⟩
theorem ok__law_draw {P : Program} {w : World} {K : Frag} {mg : Str → Option Value} {base : Heap} {cls : Str → Option Addr} (c : Fx K mg cls) : Def P w K mg base cls "_law_draw" 2 1 F__law_draw := by
  obtain ⟨f, fd, F, gm⟩ := c.d__law_draw
  exact def_ok F gm (fun _ _ _ _ _ _ us hl => match us, hl with | [_, _], _ => rfl) sc__law_draw rfl rfl fun xs hid cdv A outer s H E n0 hr => (dss_cons (ds_s 2 nd__law_draw (de_ixB rfl hr (de_v 0 (by kernel_rfl)) de_int rfl) (by kernel_rfl)) (dss_cons (ds_i (de_op opr_add (sem_add (md := false)) (de_v 2 (by kernel_rfl)) de_int) (de_v 0 (by kernel_rfl)) de_int rfl) (dss_cons (ds_if (dt_cmp (opr_lt hr.units) sem_lt (de_v 2 (by kernel_rfl)) (de_cB call_len sem_len c.g_len bt_len (da_c (de_ixB rfl hr (de_v 0 (by kernel_rfl)) de_int rfl) da_nil rfl) (by kernel_rfl)) (by kernel_rfl)) (dss_cons (ds_ret (de_op op_modN sem_mod (de_cT callr_int sem_int c.g_int bt_int (da_c (de_ixB rfl hr (de_ixB rfl hr (de_v 0 (by kernel_rfl)) de_int rfl) (de_v 2 (by kernel_rfl)) rfl) da_nil rfl) (by kernel_rfl)) (de_v 1 (by kernel_rfl)))) dss_nil) dss_nil) (dss_cons (ds_ret (de_op op_modN sem_mod (de_cT callr_int sem_int c.g_int bt_int (da_c (de_op opr_mul (sem_mul (md := false)) (de_v 2 (by kernel_rfl)) de_int) da_nil rfl) (by kernel_rfl)) (de_v 1 (by kernel_rfl)))) dss_nil))))
abbrev s__law_like : Stmt := top 37
abbrev N__law_like : List Str := ["told", "due", "k"]
theorem nd__law_like : N__law_like.Nodup := by decide +kernel
theorem sc__law_like : FnScope N__law_like ["told", "due"] (defScope s__law_like) := ⟨rfl, rfl, rfl, nd__law_like, rfl, by decide +kernel, by decide +kernel⟩
theorem ok__law_like {P : Program} {w : World} {K : Frag} {mg : Str → Option Value} {base : Heap} {cls : Str → Option Addr} (c : Fx K mg cls) : ∀ d, Def P w K mg base cls "_law_like" 2 (0 + d) (F__law_like d)
  | 0 => by
    obtain ⟨f, fd, F, gm⟩ := c.d__law_like
    exact def_fail (ps := ["told", "due"]) F gm (fun _ _ _ _ _ _ us hl => match us, hl with | [_, _], _ => rfl)
  | d + 1 => by
    have ih := ok__law_like (P := P) (w := w) (base := base) c d
    obtain ⟨f, fd, F, gm⟩ := c.d__law_like
    exact def_ok F gm (fun _ _ _ _ _ _ us hl => match us, hl with | [_, _], _ => rfl) sc__law_like rfl rfl fun xs hid cdv A outer s H E n0 hr => (dss_cons (ds_if (dt_t rfl (de_isB rfl c.g_isinstance c.g_tuple bt_tuple (de_v 1 (by kernel_rfl)) (by kernel_rfl)) rfl) (dss_cons (ds_if (dt_w (dw_or (dt_not (dt_t rfl (de_isB rfl c.g_isinstance c.g_tuple bt_tuple (de_v 0 (by kernel_rfl)) (by kernel_rfl)) rfl)) (dw_or1 (dt_cmp (opr_ne hr.units) (sem_eq (neg := true)) (de_cB call_len sem_len c.g_len bt_len (da_c (de_v 0 (by kernel_rfl)) da_nil rfl) (by kernel_rfl)) (de_cB call_len sem_len c.g_len bt_len (da_c (de_v 1 (by kernel_rfl)) da_nil rfl) (by kernel_rfl)) (by kernel_rfl))))) (dss_cons (ds_ret de_bl) dss_nil) dss_nil) (dss_cons (ds_ret (de_cmp (opr_eq hr.units) (sem_eq (neg := false)) (de_l false [("k", 2)] rfl nd__law_like (di_r1 c.g_range (da_c (de_cB call_len sem_len c.g_len bt_len (da_c (de_v 1 (by kernel_rfl)) da_nil rfl) (by kernel_rfl)) da_nil rfl) (by kernel_rfl)) (by kernel_rfl) (fun _ _ _ _ _ _ => (dgn (by kernel_rfl) nd__law_like)) (fun _ _ _ _ _ _ => (dts_one (dt_not (dt_t rfl (de_cD ih rfl rfl hr (Nat.le_refl _) takes0 (da_c (de_ixB rfl hr (de_v 0 (by kernel_rfl)) (de_v 2 (by kernel_rfl)) rfl) (da_c (de_ixB rfl hr (de_v 1 (by kernel_rfl)) (de_v 2 (by kernel_rfl)) rfl) da_nil rfl) rfl) (by kernel_rfl)) rfl)))) (fun _ _ _ _ _ _ => de_int)) (de_lst (md := false) da_nil) (by kernel_rfl))) dss_nil)) dss_nil) (dss_cons (ds_if (dt_cmp opr_is (sem_is (neg := false)) (de_v 1 (by kernel_rfl)) de_non (by kernel_rfl)) (dss_cons (ds_ret (de_cmp opr_is (sem_is (neg := false)) (de_v 0 (by kernel_rfl)) de_non (by kernel_rfl))) dss_nil) dss_nil) (dss_cons (ds_if (dt_cmp opr_is (sem_is (neg := false)) (de_v 1 (by kernel_rfl)) de_bl (by kernel_rfl)) (dss_cons (ds_ret (de_cmp opr_is (sem_is (neg := false)) (de_v 0 (by kernel_rfl)) de_bl (by kernel_rfl))) dss_nil) dss_nil) (dss_cons (ds_if (dt_cmp opr_is (sem_is (neg := false)) (de_v 1 (by kernel_rfl)) de_bl (by kernel_rfl)) (dss_cons (ds_ret (de_cmp opr_is (sem_is (neg := false)) (de_v 0 (by kernel_rfl)) de_bl (by kernel_rfl))) dss_nil) dss_nil) (dss_cons (ds_if (dt_t rfl (de_isB rfl c.g_isinstance c.g_str bt_str (de_v 1 (by kernel_rfl)) (by kernel_rfl)) rfl) (dss_cons (ds_ret (de_and (de_isB rfl c.g_isinstance c.g_str bt_str (de_v 0 (by kernel_rfl)) (by kernel_rfl)) (de_one (de_cmp (opr_eq hr.units) (sem_eq (neg := false)) (de_mJ rfl (de_s (by kernel_rfl)) (da_c (de_lst (md := false) (da_c (de_v 0 (by kernel_rfl)) da_nil rfl)) da_nil rfl) (by kernel_rfl)) (de_v 1 (by kernel_rfl)) (by kernel_rfl))))) dss_nil) dss_nil) (dss_cons (ds_ret (de_and (de_isB rfl c.g_isinstance c.g_int bt_int (de_v 0 (by kernel_rfl)) (by kernel_rfl)) (de_and (de_not (de_isB rfl c.g_isinstance c.g_bool bt_bool (de_v 0 (by kernel_rfl)) (by kernel_rfl))) (de_one (de_cmp (opr_eq hr.units) (sem_eq (neg := false)) (de_v 0 (by kernel_rfl)) (de_v 1 (by kernel_rfl)) (by kernel_rfl)))))) dss_nil))))))
abbrev s__law_terms : Stmt := top 38
abbrev N__law_terms : List Str := ["box", "names", "most", "rows", "name", "row"]
theorem nd__law_terms : N__law_terms.Nodup := by decide +kernel
theorem sc__law_terms : FnScope N__law_terms ["box", "names", "most"] (defScope s__law_terms) := ⟨rfl, rfl, rfl, nd__law_terms, rfl, by decide +kernel, by decide +kernel⟩
theorem ok__law_terms {P : Program} {w : World} {K : Frag} {mg : Str → Option Value} {base : Heap} {cls : Str → Option Addr} (c : Fx K mg cls) : Def P w K mg base cls "_law_terms" 3 2 F__law_terms := by
  obtain ⟨f, fd, F, gm⟩ := c.d__law_terms
  exact def_ok F gm (fun _ _ _ _ _ _ us hl => match us, hl with | [_, _, _], _ => rfl) sc__law_terms rfl rfl fun xs hid cdv A outer s H E n0 hr => (dss_cons (ds_sL 3 false [("name", 4)] rfl nd__law_terms (di_v rfl (de_v 1 (by kernel_rfl))) (by kernel_rfl) (by kernel_rfl) (by kernel_rfl) (fun _ _ _ _ _ _ => (dgn (by kernel_rfl) nd__law_terms)) (fun _ _ _ _ _ _ => dts_nil) (fun _ _ _ _ _ _ => (de_tup (da_c (de_v 4 (by kernel_rfl)) (da_c (de_op op_sub sem_sub (de_cD (ok__law_draw c) rfl rfl hr (by decide) takes0 (da_c (de_v 0 (by kernel_rfl)) (da_c (de_op opr_add (sem_add (md := false)) (de_op opr_mul (sem_mul (md := false)) de_int (de_v 2 (by kernel_rfl))) de_int) da_nil rfl) rfl) (by kernel_rfl)) (de_v 2 (by kernel_rfl))) da_nil rfl) rfl)))) (dss_cons (ds_ret (de_cT cr_tupleX sem_tuple c.g_tuple bt_tuple (da_c (de_l false [("row", 5)] rfl nd__law_terms (di_v rfl (de_v 3 (by kernel_rfl))) (by kernel_rfl) (fun _ _ _ _ _ _ => (dgn (by kernel_rfl) nd__law_terms)) (fun _ _ _ _ _ _ => (dts_one (dt_cmp (opr_ne hr.units) (sem_eq (neg := true)) (de_ixB rfl hr (de_v 5 (by kernel_rfl)) de_int rfl) de_int (by kernel_rfl)))) (fun _ _ _ _ _ _ => (de_v 5 (by kernel_rfl)))) da_nil rfl) (by kernel_rfl))) dss_nil))
abbrev s__law_rows : Stmt := top 39
abbrev N__law_rows : List Str := ["box", "many", "rows", "names", "found", "k", "kind"]
theorem nd__law_rows : N__law_rows.Nodup := by decide +kernel
theorem sc__law_rows : FnScope N__law_rows ["box", "many", "rows"] (defScope s__law_rows) := ⟨rfl, rfl, rfl, nd__law_rows, rfl, by decide +kernel, by decide +kernel⟩
theorem ok__law_rows {P : Program} {w : World} {K : Frag} {mg : Str → Option Value} {base : Heap} {cls : Str → Option Addr} (c : Fx K mg cls) : Def P w K mg base cls "_law_rows" 3 3 F__law_rows := by
  obtain ⟨f, fd, F, gm⟩ := c.d__law_rows
  exact def_ok F gm (fun _ _ _ _ _ _ us hl => match us, hl with | [_, _, _], _ => rfl) sc__law_rows rfl rfl fun xs hid cdv A outer s H E n0 hr => (dss_cons (ds_s 3 nd__law_rows (de_cT cr_tupleX sem_tuple c.g_tuple bt_tuple (da_c (de_l false [("k", 5)] rfl nd__law_rows (di_r1 c.g_range (da_c (de_v 1 (by kernel_rfl)) da_nil rfl) (by kernel_rfl)) (by kernel_rfl) (fun _ _ _ _ _ _ => (dgn (by kernel_rfl) nd__law_rows)) (fun _ _ _ _ _ _ => dts_nil) (fun _ _ _ _ _ _ => (de_op opr_add (sem_add (md := false)) (de_s (by kernel_rfl)) (de_cT callr_str sem_str c.g_str bt_str (da_c (de_v 5 (by kernel_rfl)) da_nil rfl) (by kernel_rfl))))) da_nil rfl) (by kernel_rfl)) (by kernel_rfl)) (dss_cons (ds_s 4 nd__law_rows (de_lst (md := true) da_nil) (by kernel_rfl)) (dss_cons (ds_f (FC.own _ _ _ _) rfl (di_r1 c.g_range (da_c (de_cD (ok__law_draw c) rfl rfl hr (by decide) (FC.tk _ _ _ _) (da_c (de_v 0 (by kernel_rfl)) (da_c (de_op opr_add (sem_add (md := false)) (de_v 2 (by kernel_rfl)) de_int) da_nil rfl) rfl) (by kernel_rfl)) da_nil rfl) (by kernel_rfl)) (dgn (by kernel_rfl) nd__law_rows) (dss_cons (ds_s 6 nd__law_rows (de_if (dt_cmp (opr_eq hr.units) (sem_eq (neg := false)) (de_cD (ok__law_draw c) rfl rfl hr (by decide) (FC.tk _ _ _ _) (da_c (de_v 0 (by kernel_rfl)) (da_c de_int da_nil rfl) rfl) (by kernel_rfl)) de_int (by kernel_rfl)) (de_s (by kernel_rfl)) (de_s (by kernel_rfl))) (by kernel_rfl)) (dss_cons (ds_x (de_mA rfl (de_v 4 (by kernel_rfl)) (da_c (de_tup (da_c (de_op opr_add (sem_add (md := false)) (de_s (by kernel_rfl)) (de_cT callr_str sem_str c.g_str bt_str (da_c (de_v 5 (by kernel_rfl)) da_nil rfl) (by kernel_rfl))) (da_c (de_cD (ok__law_terms c) rfl rfl hr (by decide) (FC.tk _ _ _ _) (da_c (de_v 0 (by kernel_rfl)) (da_c (de_v 3 (by kernel_rfl)) (da_c de_int da_nil rfl) rfl) rfl) (by kernel_rfl)) (da_c (de_v 6 (by kernel_rfl)) (da_c (de_op op_sub sem_sub (de_cD (ok__law_draw c) rfl rfl hr (by decide) (FC.tk _ _ _ _) (da_c (de_v 0 (by kernel_rfl)) (da_c de_int da_nil rfl) rfl) (by kernel_rfl)) de_int) da_nil rfl) rfl) rfl) rfl)) da_nil rfl) (by kernel_rfl)) rfl) dss_nil)) rfl) (dss_cons (ds_ret (de_tup (da_c (de_s (by kernel_rfl)) (da_c (de_v 3 (by kernel_rfl)) (da_c (de_cT cr_tupleX sem_tuple c.g_tuple bt_tuple (da_c (de_cB (cr_srtX rfl hr.units) (sem_sorted (md := false)) c.g_sorted bt_sorted (da_c (de_v 4 (by kernel_rfl)) da_nil rfl) (by kernel_rfl)) da_nil rfl) (by kernel_rfl)) da_nil rfl) rfl) rfl))) dss_nil))))
abbrev s__law_rows_text : Stmt := top 40
abbrev N__law_rows_text : List Str := ["rows", "text", "name", "terms", "kind", "bound", "own", "number"]
theorem nd__law_rows_text : N__law_rows_text.Nodup := by decide +kernel
theorem sc__law_rows_text : FnScope N__law_rows_text ["rows"] (defScope s__law_rows_text) := ⟨rfl, rfl, rfl, nd__law_rows_text, rfl, by decide +kernel, by decide +kernel⟩
theorem ok__law_rows_text {P : Program} {w : World} {K : Frag} {mg : Str → Option Value} {base : Heap} {cls : Str → Option Addr} (c : Fx K mg cls) : Def P w K mg base cls "_law_rows_text" 1 1 F__law_rows_text := by
  obtain ⟨f, fd, F, gm⟩ := c.d__law_rows_text
  exact def_ok F gm (fun _ _ _ _ _ _ us hl => match us, hl with | [_], _ => rfl) sc__law_rows_text rfl rfl fun xs hid cdv A outer s H E n0 hr => (dss_cons (ds_s 1 nd__law_rows_text (de_mJ rfl (de_s (by kernel_rfl)) (da_c (de_l false [("name", 2)] rfl nd__law_rows_text (di_v rfl (de_ixB rfl hr (de_v 0 (by kernel_rfl)) de_int rfl)) (by kernel_rfl) (fun _ _ _ _ _ _ => (dgn (by kernel_rfl) nd__law_rows_text)) (fun _ _ _ _ _ _ => dts_nil) (fun _ _ _ _ _ _ => (de_op opr_add (sem_add (md := false)) (de_op opr_add (sem_add (md := false)) (de_s (by kernel_rfl)) (de_v 2 (by kernel_rfl))) (de_s (by kernel_rfl))))) da_nil rfl) (by kernel_rfl)) (by kernel_rfl)) (dss_cons (ds_f (FC.own _ _ _ _) rfl (di_v rfl (de_ixB rfl hr (de_v 0 (by kernel_rfl)) de_int rfl)) (dg_tup rfl rfl (dgs_cons (dgn (by kernel_rfl) nd__law_rows_text) (dgs_cons (dgn (by kernel_rfl) nd__law_rows_text) (dgs_cons (dgn (by kernel_rfl) nd__law_rows_text) (dgs_cons (dgn (by kernel_rfl) nd__law_rows_text) dgs_nil rfl) rfl) rfl) rfl) rfl rfl) (dss_cons (ds_s 1 nd__law_rows_text (de_op opr_add (sem_add (md := false)) (de_op opr_add (sem_add (md := false)) (de_v 1 (by kernel_rfl)) (de_mJ rfl (de_s (by kernel_rfl)) (da_c (de_op opr_add (sem_add (md := false)) (de_lst (md := false) (da_c (de_s (by kernel_rfl)) (da_c (de_v 2 (by kernel_rfl)) (da_c (de_v 4 (by kernel_rfl)) (da_c (de_cT callr_str sem_str c.g_str bt_str (da_c (de_v 5 (by kernel_rfl)) da_nil rfl) (by kernel_rfl)) da_nil rfl) rfl) rfl) rfl)) (de_l false [("own", 6), ("number", 7)] rfl nd__law_rows_text (di_v rfl (de_v 3 (by kernel_rfl))) (by kernel_rfl) (fun _ _ _ _ _ _ => (dg_tup rfl rfl (dgs_cons (dgn (by kernel_rfl) nd__law_rows_text) (dgs_cons (dgn (by kernel_rfl) nd__law_rows_text) dgs_nil rfl) rfl) rfl rfl)) (fun _ _ _ _ _ _ => dts_nil) (fun _ _ _ _ _ _ => (de_op opr_add (sem_add (md := false)) (de_op opr_add (sem_add (md := false)) (de_cT callr_str sem_str c.g_str bt_str (da_c (de_v 7 (by kernel_rfl)) da_nil rfl) (by kernel_rfl)) (de_s (by kernel_rfl))) (de_v 6 (by kernel_rfl)))))) da_nil rfl) (by kernel_rfl))) (de_s (by kernel_rfl))) (by kernel_rfl)) dss_nil) rfl) (dss_cons (ds_ret (de_v 1 (by kernel_rfl))) dss_nil)))
abbrev s_law : Stmt := top 41
abbrev N_law : List Str := ["script", "box", "turn", "rows", "text"]
theorem nd_law : N_law.Nodup := by decide +kernel
theorem sc_law : FnScope N_law ["script"] (defScope s_law) := ⟨rfl, rfl, rfl, nd_law, rfl, by decide +kernel, by decide +kernel⟩
theorem fn_law {P : Program} {w : World} {K : Frag} {mg : Str → Option Value} {base : Heap} {cls : Str → Option Addr} {f : Addr} {fd : FuncData} (c : Fx K mg cls) (F : FunD K "law" "law" (defArgs s_law) (defBody s_law) (defScope s_law) [] [] f fd) : FnOk P w K mg base (L2.CX P w) 21 f fd ["script"] (spF ⟨K, cls, [], []⟩ 1 F_law_v21) :=
  fn_ok F sc_law fun cdv A outer s H E n0 hr => (dss_cons (ds_s 1 nd_law (de_lst (md := true) (da_c (de_cD (ok__law_digits c) rfl rfl hr (by decide) (FC.tk _ _ _ _) (da_c (de_v 0 (by kernel_rfl)) (da_c de_int (da_c de_int da_nil rfl) rfl) rfl) (by kernel_rfl)) (da_c de_int da_nil rfl) rfl)) (by kernel_rfl)) (dss_cons (ds_f (FC.own _ _ _ _) rfl (di_r1 c.g_range (da_c de_int da_nil rfl) (by kernel_rfl)) (dgn (by kernel_rfl) nd_law) (dss_cons (ds_s 3 nd_law (de_cD (ok__law_rows c) rfl rfl hr (by decide) (FC.tk _ _ _ _) (da_c (de_v 1 (by kernel_rfl)) (da_c (de_cD (ok__law_draw c) rfl rfl hr (by decide) (FC.tk _ _ _ _) (da_c (de_v 1 (by kernel_rfl)) (da_c de_int da_nil rfl) rfl) (by kernel_rfl)) (da_c de_int da_nil rfl) rfl) rfl) (by kernel_rfl)) (by kernel_rfl)) (dss_cons (ds_s 4 nd_law (de_cD (ok__law_rows_text c) rfl rfl hr (by decide) (FC.tk _ _ _ _) (da_c (de_v 3 (by kernel_rfl)) da_nil rfl) (by kernel_rfl)) (by kernel_rfl)) (dss_cons (ds_if (dt_w (dw_or (dt_not (dt_t rfl (de_cD (ok__law_like c 20) rfl rfl hr (by decide) (FC.tk _ _ _ _) (da_c (de_cD (ok_write_rows c) rfl rfl hr (by decide) (FC.tk _ _ _ _) (da_c (de_v 3 (by kernel_rfl)) da_nil rfl) (by kernel_rfl)) (da_c (de_v 4 (by kernel_rfl)) da_nil rfl) rfl) (by kernel_rfl)) rfl)) (dw_or1 (dt_not (dt_t rfl (de_cD (ok__law_like c 20) rfl rfl hr (by decide) (FC.tk _ _ _ _) (da_c (de_cD (ok_read_rows c) rfl rfl hr (by decide) (FC.tk _ _ _ _) (da_c (de_v 4 (by kernel_rfl)) da_nil rfl) (by kernel_rfl)) (da_c (de_v 3 (by kernel_rfl)) da_nil rfl) rfl) (by kernel_rfl)) rfl))))) (dss_cons (ds_ret de_bl) dss_nil) dss_nil) dss_nil))) rfl) (dss_cons (ds_ret de_bl) dss_nil)))
end K03
end
section
set_option Elab.async false
set_option linter.all false
set_option maxRecDepth 100000
set_option maxHeartbeats 0
namespace K03
open PySem PySem.Spec L2 Sl PyProof.Rows
theorem ex_at {K : Frag} {b : Bool} (i : Nat) (h : ex K = true) (e : (exs K)[i]? = some b := by rfl) : b = true := List.all_eq_true.mp h b (List.mem_of_getElem? e)
theorem facts {w : World} {K : Frag} {h : Heap} {mg : Str → Option Value} (X : K.In h) (G : h.Ns mainGlobals mg) (cd : He.SaysD fa fn K) (ex : ex K = true) : Fx K mg (fun x => some (He.ga K x)) where
  g_all := He.free_ok X G (cd.fact 27 rfl)
  g_bool := He.free_ok X G (cd.fact 28 rfl)
  g_enumerate := He.free_ok X G (cd.fact 29 rfl)
  g_int := He.free_ok X G (cd.fact 30 rfl)
  g_isinstance := He.free_ok X G (cd.fact 31 rfl)
  g_len := He.free_ok X G (cd.fact 32 rfl)
  g_range := He.free_ok X G (cd.fact 33 rfl)
  g_sorted := He.free_ok X G (cd.fact 34 rfl)
  g_str := He.free_ok X G (cd.fact 35 rfl)
  g_tuple := He.free_ok X G (cd.fact 36 rfl)
  v_LETTERS := gv_str (He.str_ok X G (cd.fact 37 rfl)) (by kernel_rfl)
  v_DIGITS := gv_str (He.str_ok X G (cd.fact 38 rfl)) (by kernel_rfl)
  v_MOST_SIGNS := gv_int (He.int_ok X G (cd.fact 39 rfl))
  v_MOST_DIGITS := gv_int (He.int_ok X G (cd.fact 40 rfl))
  v_MOST_NAMES := gv_int (He.int_ok X G (cd.fact 41 rfl))
  v_MOST_ROWS := gv_int (He.int_ok X G (cd.fact 42 rfl))
  v_MOST_NUMBER := gv_int (He.int_ok X G (cd.fact 43 rfl))
  v_MOST_BOUND := gv_int (He.int_ok X G (cd.fact 44 rfl))
  v_KINDS := gv_tup (He.glo_ok X G (cd.fact 45 rfl)) (ex_at 1 ex) (ex_at 2 ex) rfl
  d_is_whole := def_of X G cd 0 0 rfl rfl
  d_is_between := def_of X G cd 1 1 rfl rfl
  d__has_only := def_of X G cd 2 2 rfl rfl
  d_is_name := def_of X G cd 3 3 rfl rfl
  d__is_written := def_of X G cd 4 4 rfl rfl
  d_read_number := def_of X G cd 5 5 rfl rfl
  d_is_ascending := def_of X G cd 6 6 rfl rfl
  d_is_pair := def_of X G cd 7 7 rfl rfl
  d_is_any_terms := def_of X G cd 8 8 rfl rfl
  d_is_terms := def_of X G cd 9 9 rfl rfl
  d_write_terms := def_of X G cd 10 10 rfl rfl
  d_write_rows := def_of X G cd 11 11 rfl rfl
  d_number_of := def_of X G cd 12 12 rfl rfl
  d_terms_of := def_of X G cd 13 13 rfl rfl
  d__read_line := def_of X G cd 14 14 rfl rfl
  d__name_fault := def_of X G cd 15 15 rfl rfl
  d__row_fault := def_of X G cd 16 16 rfl rfl
  d__fault := def_of X G cd 17 17 rfl rfl
  d_read_rows := def_of X G cd 18 18 rfl rfl
  d__law_cell := def_of X G cd 19 19 rfl rfl
  d__law_digits := def_of X G cd 20 20 rfl rfl
  d__law_draw := def_of X G cd 21 21 rfl rfl
  d__law_like := def_of X G cd 22 22 rfl rfl
  d__law_terms := def_of X G cd 23 23 rfl rfl
  d__law_rows := def_of X G cd 24 24 rfl rfl
  d__law_rows_text := def_of X G cd 25 25 rfl rfl
  d_law := def_of X G cd 26 26 rfl rfl
end K03
open PySem PySem.W PySem.Calls PyProof.Rows
theorem K03_holds (hF : ∀ ns : List Int, ns.length ≤ 63 → (∀ z ∈ ns, z.natAbs.log2 < 1048577) → ∃ st, Sh.F_law_v21 [.r 0] [.scr ns] = .ok (.p (.bl true)) st) : PySem.Challenge.rw_slopelands_k03_row_written_and_read.Holds := by
  w_on; o_law
  refine HandSHeadRun.head_imp (r := OpenLaw.row PySem.Challenge.rw_slopelands_k03_row_written_and_read) (q := view (OpenLaw.row PySem.Challenge.rw_slopelands_k03_row_written_and_read).prog [41]) (H := K03.hk) (ob := K03.ob) (M := 4000) (loose := K03.loose) (d := HandSHeadRun.topDef (OpenLaw.row PySem.Challenge.rw_slopelands_k03_row_written_and_read).prog 41) (kwd := []) K03.ob_eq K03.run
    (by kernel_rfl) (by kernel_rfl) (by kernel_rfl) (by rfl) (by first | assumption | decide +kernel) (by decide +kernel) ⟨rfl, rfl, rfl, rfl, rfl, by decide +kernel⟩ ?hw ?hc
  case hw => w_witness2
  case hc =>
    refine Sl.walk_sl (l := PySem.Challenge.rw_slopelands_k03_row_written_and_read) (n := 63) (k := 21) (x := "script") (Fs := Sh.F_law_v21) rfl (by decide) (by kernel_rfl) ⟨rfl, by decide, by decide⟩ hF ?F
    intro w mg fa h Y G hmg0
    obtain ⟨K, KX, c⟩ := Y
    have hmg : mg ("law" : PySem.Str) = some (.ref fa) := by
      have e : (HandSHeadRun.topDef (OpenLaw.row PySem.Challenge.rw_slopelands_k03_row_written_and_read).prog 41).name = ("law" : PySem.Str) := by kernel_rfl
      rw [← e]
      exact hmg0
    have F := K03.facts (w := w) KX G (Sl.says_d c.t) c.more
    obtain ⟨f, fd, FD, gm⟩ := F.d_law
    have e1 := gm.symm.trans hmg
    cases e1
    exact ⟨K, fd, fun x => some (He.ga K x), KX, K03.ex_at 0 c.more, fun s v => FD.bindsA (ps := ["script"]) (fun _ _ _ _ _ _ us hl => match us, hl with | [_], _ => rfl) s [v] rfl, fun base _ _ => K03.fn_law F FD⟩
end
section
set_option Elab.async false
set_option linter.all false
set_option maxRecDepth 100000
set_option maxHeartbeats 0
namespace Sh
open PySem PySem.Spec L2 Sl PyProof.Rows
end Sh
end
section
set_option Elab.async false
set_option linter.all false
set_option maxRecDepth 100000
set_option maxHeartbeats 2000000
namespace Sh
open PySem PySem.Spec L2 Sl PyProof.Rows
abbrev pI (i : Int) : Val := .p (.int i)
theorem atI_nat {α : Type} (xs : List α) (k : Nat) : L2.atI xs (k : Int) = xs[k]? := by
  unfold L2.atI L2.ixN
  by_cases h : k < xs.length
  · rw [if_pos (by omega), if_pos (by omega)]
    simp
  · rw [if_pos (by omega), if_neg (by omega), List.getElem?_eq_none (by omega)]
    rfl
theorem f_cell (ns : List Int) (rest : Sto) (k : Nat) : F__law_cell [.r 0, pI k] (.scr ns :: rest) = .ok (pI (ns.getD k 0)) (.scr ns :: rest) := by
  simp only [F__law_cell, B__law_cell, bodyF, sSeq, sNil, sRet, sRetK, sIf, sAsg, sExpr, sSub, sBrk, sCt, sParN, R.then, R.bind, R.lift, R.noExc, mVar, mD, mTup, mLst, mAndV, mOrV, mNotV, mIf, mNeg, mIsi, mApp, mCall, mMeth, mMeth0, mChain, m2, mSlice, oNone, oSome, aNil, aCons, tVal, tTruth, tAndM, tOrM, tNotM, tmYes, gN, gT, gsGo, setAll, List.length_cons, List.length_nil, List.map_cons, List.map_nil, List.cons_append, List.nil_append, List.replicate, List.getElem?_cons_zero, List.getElem?_cons_succ, List.set_cons_zero, List.set_cons_succ, Nat.sub_self, Nat.zero_add, Nat.add_zero, Nat.reduceAdd, Nat.reduceSub, Nat.reduceEqDiff, if_true, if_false, if_pos, reduceIte, reduceCtorEq, Bool.not_true, Bool.not_false, truth, tyName, isTy, fLen, viewL, fLt, List.length_map]
  by_cases h : k < ns.length
  · simp [h, fIx, fIxO, viewL, atI_nat]
  · simp [h]
def Dg (ds : List Int) : Prop := ∀ z ∈ ds, 0 ≤ z ∧ z < 1000
theorem Dg.add {ds : List Int} {z : Int} (h : Dg ds) (h0 : 0 ≤ z) (h1 : z < 1000) : Dg (ds ++ [z]) := fun y hy => by
  rcases List.mem_append.mp hy with hy | hy
  · exact h y hy
  · rw [List.mem_singleton.mp hy]; exact ⟨h0, h1⟩
theorem log_small {i : Int} {n : Nat} (h : i.natAbs < 2 ^ n) (hn : 0 < n) : i.natAbs.log2 < n := by
  by_cases h0 : i.natAbs = 0
  · rw [h0]; simpa using hn
  · exact (Nat.log2_lt h0).mpr h
theorem fmod1000 (i : Int) : 0 ≤ i.fmod 1000 ∧ i.fmod 1000 < 1000 := ⟨Int.fmod_nonneg_of_pos i (by omega), Int.fmod_lt_of_pos i (by omega)⟩
theorem app_ok {ns ds : List Int} {z : Int} (h : ds.length < 10000) : fApp (.r 1) [pI z] [.scr ns, .lst (ds.map pI)] = some (.p .non, [.scr ns, .lst ((ds ++ [z]).map pI)]) := by
  simp only [fApp, List.getElem?_cons_zero, List.getElem?_cons_succ, List.length_map]
  rw [if_pos (by rw [sizeLine_eq]; omega)]
  simp
theorem loop60 (ns ds : List Int) (a4 a7 : Option Val) (a6 : Option Val) (c : Int) (hd : Dg ds) (hl : ds.length ≤ 5000) :
    ∃ a6' c' ds', Dg ds' ∧ ds'.length ≤ ds.length + 60 ∧ sFor (mRng1 (aCons (mD (.int 60)) aNil)) (gN 6) (sSeq (sIf (tVal (m2 fGt (mVar 5) (mD (.int 0)))) (sSeq (sExpr (mMeth isLstV fApp (mVar 3) (aCons (m2 fMod (mCall fInt (aCons (mVar 5) aNil)) (mD (.int 1000))) aNil))) (sSeq (sAsg (m2 fFdiv (mVar 5) (mD (.int 1000))) (gN 5)) sNil)) sNil) sNil)
      [some (.r 0), some (pI 0), some (pI 63), some (.r 1), a4, some (pI c), a6, a7] [.scr ns, .lst (ds.map pI)] = .nx [some (.r 0), some (pI 0), some (pI 63), some (.r 1), a4, some (pI c'), a6', a7] [.scr ns, .lst (ds'.map pI)] := by
  have hr : inW 60 = true := by decide
  simp only [sFor, mRng1, bodyF, sSeq, sNil, sRet, sRetK, sIf, sAsg, sExpr, sSub, sBrk, sCt, sParN, R.then, R.bind, R.lift, R.noExc, mVar, mD, mTup, mLst, mAndV, mOrV, mNotV, mIf, mNeg, mIsi, mApp, mCall, mMeth, mMeth0, mChain, m2, mSlice, oNone, oSome, aNil, aCons, tVal, tTruth, tAndM, tOrM, tNotM, tmYes, gN, gT, gsGo, setAll, List.length_cons, List.length_nil, List.map_cons, List.map_nil, List.cons_append, List.nil_append, List.replicate, List.getElem?_cons_zero, List.getElem?_cons_succ, List.set_cons_zero, List.set_cons_succ, Nat.sub_self, Nat.zero_add, Nat.add_zero, Nat.reduceAdd, Nat.reduceSub, Nat.reduceEqDiff, if_true, if_false, if_pos, reduceIte, reduceCtorEq, Bool.not_true, Bool.not_false, truth, tyName, isTy, hr]
  refine forGo_post (Post := fun r => ∃ a6' c' ds', Dg ds' ∧ ds'.length ≤ ds.length + 60 ∧ r = .nx [some (.r 0), some (pI 0), some (pI 63), some (.r 1), a4, some (pI c'), a6', a7] [.scr ns, .lst (ds'.map pI)])
    (fun i env st => ∃ a6' c' ds', Dg ds' ∧ ds'.length ≤ ds.length + i ∧ env = [some (.r 0), some (pI 0), some (pI 63), some (.r 1), a4, some (pI c'), a6', a7] ∧ st = [.scr ns, .lst (ds'.map pI)]) ⟨a6, c, ds, hd, Nat.le_refl _, rfl, rfl⟩ ?_ ?_
  · rintro i x env st hx ⟨a6', c', ds', h1, h2, rfl, rfl⟩
    have hi : i < 60 := by
      have := (List.getElem?_eq_some_iff.mp hx).1
      simpa [rngItems] using this
    refine ⟨rfl, _, rfl, ?_⟩
    simp only [bodyF, sSeq, sNil, sRet, sRetK, sIf, sAsg, sExpr, sSub, sBrk, sCt, sParN, R.then, R.bind, R.lift, R.noExc, mVar, mD, mTup, mLst, mAndV, mOrV, mNotV, mIf, mNeg, mIsi, mApp, mCall, mMeth, mMeth0, mChain, m2, mSlice, oNone, oSome, aNil, aCons, tVal, tTruth, tAndM, tOrM, tNotM, tmYes, gN, gT, gsGo, setAll, List.length_cons, List.length_nil, List.map_cons, List.map_nil, List.cons_append, List.nil_append, List.replicate, List.getElem?_cons_zero, List.getElem?_cons_succ, List.set_cons_zero, List.set_cons_succ, Nat.sub_self, Nat.zero_add, Nat.add_zero, Nat.reduceAdd, Nat.reduceSub, Nat.reduceEqDiff, if_true, if_false, if_pos, reduceIte, reduceCtorEq, Bool.not_true, Bool.not_false, truth, tyName, isTy, fGt, isLstV, fMod, fFdiv, fI, fInt]
    by_cases hc : 0 < c'
    · have hm := fmod1000 c'
      have hdv : divOk c' 1000 = true := by
        simp only [divOk]; decide
      simp [hc, app_ok (ns := ns) (ds := ds') (z := c'.fmod 1000) (by omega), hdv]
      exact ⟨_, _, ds' ++ [c'.fmod 1000], h1.add hm.1 hm.2, by simp; omega, ⟨rfl, rfl⟩, by simp⟩
    · simp [hc]
      exact ⟨_, _, ds', h1, by omega, ⟨rfl, rfl⟩, rfl⟩
  · rintro env st ⟨a6', c', ds', h1, h2, rfl, rfl⟩
    exact ⟨rfl, a6', c', ds', h1, by simpa [rngItems] using h2, rfl⟩
theorem fmodM (i : Int) : 0 ≤ i.fmod 2147483647 ∧ i.fmod 2147483647 < 2147483647 := ⟨Int.fmod_nonneg_of_pos i (by omega), Int.fmod_lt_of_pos i (by omega)⟩
theorem mulOk_small {i j : Int} (h1 : i.natAbs < 2 ^ 64) (h2 : j.natAbs < 2 ^ 64) : mulOk i j = true := by
  have a := log_small h1 (by omega)
  have b := log_small h2 (by omega)
  simp only [mulOk, decide_eq_true_eq]
  omega
theorem divOk_pos {i j : Int} (h0 : 0 < j) (h1 : j.natAbs < 2 ^ 64) : divOk i j = true := by
  have a := log_small h1 (by omega)
  simp only [divOk, Bool.or_eq_true, Bool.and_eq_true, decide_eq_true_eq]
  exact .inl ⟨h0, by omega⟩
theorem loop12 (ns ds : List Int) (a4 a5 : Option Val) (a6 : Option Val) (c : Int) (hd : Dg ds) (hl : ds.length ≤ 5000) (hc : 0 ≤ c ∧ c < 2147483647) :
    ∃ a6' c' ds', Dg ds' ∧ ds'.length ≤ ds.length + 60 ∧ sFor (mRng1 (aCons (mD (.int 12)) aNil)) (gN 6) (sSeq (sAsg (m2 fMod (mCall fInt (aCons (m2 (fAdd false) (m2 (fAdd false) (m2 (fMul false) (mVar 7) (mD (.int 16807))) (m2 (fMul false) (mD (.int 7)) (mVar 6))) (mD (.int 1))) aNil)) (mD (.int 2147483647))) (gN 7)) (sSeq (sExpr (mMeth isLstV fApp (mVar 3) (aCons (m2 fMod (mCall fInt (aCons (m2 fFdiv (mVar 7) (mD (.int 997))) aNil)) (mD (.int 1000))) aNil))) sNil))
      [some (.r 0), some (pI 0), some (pI 63), some (.r 1), a4, a5, a6, some (pI c)] [.scr ns, .lst (ds.map pI)] = .nx [some (.r 0), some (pI 0), some (pI 63), some (.r 1), a4, a5, a6', some (pI c')] [.scr ns, .lst (ds'.map pI)] := by
  have hr : inW 12 = true := by decide
  simp only [sFor, mRng1, bodyF, sSeq, sNil, sRet, sRetK, sIf, sAsg, sExpr, sSub, sBrk, sCt, sParN, R.then, R.bind, R.lift, R.noExc, mVar, mD, mTup, mLst, mAndV, mOrV, mNotV, mIf, mNeg, mIsi, mApp, mCall, mMeth, mMeth0, mChain, m2, mSlice, oNone, oSome, aNil, aCons, tVal, tTruth, tAndM, tOrM, tNotM, tmYes, gN, gT, gsGo, setAll, List.length_cons, List.length_nil, List.map_cons, List.map_nil, List.cons_append, List.nil_append, List.replicate, List.getElem?_cons_zero, List.getElem?_cons_succ, List.set_cons_zero, List.set_cons_succ, Nat.sub_self, Nat.zero_add, Nat.add_zero, Nat.reduceAdd, Nat.reduceSub, Nat.reduceEqDiff, if_true, if_false, if_pos, reduceIte, reduceCtorEq, Bool.not_true, Bool.not_false, truth, tyName, isTy, hr]
  refine forGo_post (Post := fun r => ∃ a6' c' ds', Dg ds' ∧ ds'.length ≤ ds.length + 60 ∧ r = .nx [some (.r 0), some (pI 0), some (pI 63), some (.r 1), a4, a5, a6', some (pI c')] [.scr ns, .lst (ds'.map pI)])
    (fun i env st => ∃ a6' c' ds', (0 ≤ c' ∧ c' < 2147483647) ∧ Dg ds' ∧ ds'.length ≤ ds.length + i ∧ env = [some (.r 0), some (pI 0), some (pI 63), some (.r 1), a4, a5, a6', some (pI c')] ∧ st = [.scr ns, .lst (ds'.map pI)]) ⟨a6, c, ds, hc, hd, Nat.le_refl _, rfl, rfl⟩ ?_ ?_
  · rintro i x env st hx ⟨a6', c', ds', h0, h1, h2, rfl, rfl⟩
    have hi : i < 12 := by
      have := (List.getElem?_eq_some_iff.mp hx).1
      simpa [rngItems] using this
    have ex : x = pI i := by
      simp [rngItems, List.getElem?_map, List.getElem?_range hi] at hx
      exact hx.symm
    subst ex
    refine ⟨rfl, _, rfl, ?_⟩
    have hm := fmodM (c' * 16807 + 7 * i + 1)
    have k1 : mulOk c' 16807 = true := mulOk_small (by omega) (by decide)
    have k2 : mulOk 7 (i : Int) = true := mulOk_small (by decide) (by omega)
    have k3 : ∀ z, divOk z 997 = true := fun z => divOk_pos (by decide) (by decide)
    have hm2 := fmod1000 (((c' * 16807 + 7 * i + 1).fmod 2147483647).fdiv 997)
    simp only [bodyF, sSeq, sNil, sRet, sRetK, sIf, sAsg, sExpr, sSub, sBrk, sCt, sParN, R.then, R.bind, R.lift, R.noExc, mVar, mD, mTup, mLst, mAndV, mOrV, mNotV, mIf, mNeg, mIsi, mApp, mCall, mMeth, mMeth0, mChain, m2, mSlice, oNone, oSome, aNil, aCons, tVal, tTruth, tAndM, tOrM, tNotM, tmYes, gN, gT, gsGo, setAll, List.length_cons, List.length_nil, List.map_cons, List.map_nil, List.cons_append, List.nil_append, List.replicate, List.getElem?_cons_zero, List.getElem?_cons_succ, List.set_cons_zero, List.set_cons_succ, Nat.sub_self, Nat.zero_add, Nat.add_zero, Nat.reduceAdd, Nat.reduceSub, Nat.reduceEqDiff, if_true, if_false, if_pos, reduceIte, reduceCtorEq, Bool.not_true, Bool.not_false, truth, tyName, isTy, isLstV, fMod, fFdiv, fI, fInt, fAdd, fMul, k1, k2, k3]
    simp [k3, app_ok (ns := ns) (ds := ds') (z := ((c' * 16807 + 7 * i + 1).fmod 2147483647).fdiv 997 |>.fmod 1000) (by omega)]
    exact ⟨_, _, hm, ds' ++ [(((c' * 16807 + 7 * i + 1).fmod 2147483647).fdiv 997).fmod 1000], h1.add hm2.1 hm2.2, by simp; omega, ⟨rfl, rfl⟩, by simp⟩
  · rintro env st ⟨a6', c', ds', h0, h1, h2, rfl, rfl⟩
    refine ⟨rfl, a6', c', ds', h1, ?_, rfl⟩
    have : ds'.length ≤ ds.length + 12 := by simpa [rngItems] using h2
    omega
theorem f_digits (ns : List Int) (hn : ∀ z ∈ ns, z.natAbs.log2 < 1048577) : ∃ ds, Dg ds ∧ ds.length ≤ 5000 ∧ F__law_digits [.r 0, pI 0, pI 63] [.scr ns] = .ok (.p (.lst (ds.map .int))) [.scr ns] := by
  have key : ∃ a4 a5 a6 a7 ds, Dg ds ∧ ds.length ≤ 5000 ∧ B__law_digits 1 [some (.r 0), some (pI 0), some (pI 63), none, none, none, none, none] [.scr ns] = sSeq (sRet 1 (mVar 3)) sNil [some (.r 0), some (pI 0), some (pI 63), some (.r 1), a4, a5, a6, a7] [.scr ns, .lst (ds.map pI)] := by
    unfold B__law_digits
    rw [seq_nx (env' := [some (.r 0), some (pI 0), some (pI 63), some (.r 1), none, none, none, none]) (st' := [.scr ns, .lst []]) (by simp [bodyF, sSeq, sNil, sRet, sRetK, sIf, sAsg, sExpr, sSub, sBrk, sCt, sParN, R.then, R.bind, R.lift, R.noExc, mVar, mD, mTup, mLst, mAndV, mOrV, mNotV, mIf, mNeg, mIsi, mApp, mCall, mMeth, mMeth0, mChain, m2, mSlice, oNone, oSome, aNil, aCons, tVal, tTruth, tAndM, tOrM, tNotM, tmYes, gN, gT, gsGo, setAll, List.length_cons, List.length_nil, List.map_cons, List.map_nil, List.cons_append, List.nil_append, List.replicate, List.getElem?_cons_zero, List.getElem?_cons_succ, List.set_cons_zero, List.set_cons_succ, Nat.sub_self, Nat.zero_add, Nat.add_zero, Nat.reduceAdd, Nat.reduceSub, Nat.reduceEqDiff, if_true, if_false, if_pos, reduceIte, reduceCtorEq, Bool.not_true, Bool.not_false, truth, tyName, isTy, newLst])]
    have hr : inW 0 = true ∧ inW 63 = true := by decide
    simp only [sFor, mRng2, bodyF, sSeq, sNil, sRet, sRetK, sIf, sAsg, sExpr, sSub, sBrk, sCt, sParN, R.then, R.bind, R.lift, R.noExc, mVar, mD, mTup, mLst, mAndV, mOrV, mNotV, mIf, mNeg, mIsi, mApp, mCall, mMeth, mMeth0, mChain, m2, mSlice, oNone, oSome, aNil, aCons, tVal, tTruth, tAndM, tOrM, tNotM, tmYes, gN, gT, gsGo, setAll, List.length_cons, List.length_nil, List.map_cons, List.map_nil, List.cons_append, List.nil_append, List.replicate, List.getElem?_cons_zero, List.getElem?_cons_succ, List.set_cons_zero, List.set_cons_succ, Nat.sub_self, Nat.zero_add, Nat.add_zero, Nat.reduceAdd, Nat.reduceSub, Nat.reduceEqDiff, if_true, if_false, if_pos, reduceIte, reduceCtorEq, Bool.not_true, Bool.not_false, truth, tyName, isTy]
    rw [if_pos hr]
    dsimp only
    generalize hm : sSeq (sAsg (mApp 2 F__law_cell _) (gN 5)) _ = body
    have hloop : ∃ a4 a5 a6 a7 ds, Dg ds ∧ ds.length ≤ 5000 ∧ forGo none (rngItems 0 ((63 : Int) - 0).toNat) (gN 4) body (rngItems 0 ((63 : Int) - 0).toNat) [some (.r 0), some (pI 0), some (pI 63), some (.r 1), none, none, none, none] [.scr ns, .lst []] = .nx [some (.r 0), some (pI 0), some (pI 63), some (.r 1), a4, a5, a6, a7] [.scr ns, .lst (ds.map pI)] := by
      subst hm
      refine forGo_post (Post := fun r => ∃ a4 a5 a6 a7 ds, Dg ds ∧ ds.length ≤ 5000 ∧ r = .nx [some (.r 0), some (pI 0), some (pI 63), some (.r 1), a4, a5, a6, a7] [.scr ns, .lst (ds.map pI)])
        (fun i env st => ∃ a4 a5 a6 a7 ds, Dg ds ∧ ds.length ≤ 60 * i ∧ env = [some (.r 0), some (pI 0), some (pI 63), some (.r 1), a4, a5, a6, a7] ∧ st = [.scr ns, .lst (ds.map pI)]) ⟨none, none, none, none, [], fun z hz => (nomatch hz), Nat.le_refl _, rfl, rfl⟩ ?_ ?_
      · rintro i x env st hx ⟨a4, a5, a6, a7, ds, h1, h2, rfl, rfl⟩
        have hi : i < 63 := by
          have := (List.getElem?_eq_some_iff.mp hx).1
          simpa [rngItems] using this
        have ex : x = pI i := by
          simp only [rngItems, List.getElem?_map] at hx
          rw [List.getElem?_range (by simpa using hi)] at hx
          simp at hx
          exact hx.symm
        subst ex
        refine ⟨rfl, _, rfl, ?_⟩
        rw [seq_nx (env' := [some (.r 0), some (pI 0), some (pI 63), some (.r 1), some (pI i), some (pI (ns.getD i 0)), a6, a7]) (st' := [.scr ns, .lst (ds.map pI)]) (by simp [bodyF, sSeq, sNil, sRet, sRetK, sIf, sAsg, sExpr, sSub, sBrk, sCt, sParN, R.then, R.bind, R.lift, R.noExc, mVar, mD, mTup, mLst, mAndV, mOrV, mNotV, mIf, mNeg, mIsi, mApp, mCall, mMeth, mMeth0, mChain, m2, mSlice, oNone, oSome, aNil, aCons, tVal, tTruth, tAndM, tOrM, tNotM, tmYes, gN, gT, gsGo, setAll, List.length_cons, List.length_nil, List.map_cons, List.map_nil, List.cons_append, List.nil_append, List.replicate, List.getElem?_cons_zero, List.getElem?_cons_succ, List.set_cons_zero, List.set_cons_succ, Nat.sub_self, Nat.zero_add, Nat.add_zero, Nat.reduceAdd, Nat.reduceSub, Nat.reduceEqDiff, if_true, if_false, if_pos, reduceIte, reduceCtorEq, Bool.not_true, Bool.not_false, truth, tyName, isTy, f_cell])]
        have hb : (ns.getD i 0).natAbs.log2 < 1048577 := by
          by_cases q : i < ns.length
          · rw [List.getD_eq_getElem?_getD, List.getElem?_eq_getElem q]
            exact hn _ (List.getElem_mem q)
          · rw [List.getD_eq_getElem?_getD, List.getElem?_eq_none (by omega)]
            decide
        generalize ns.getD i 0 = c at hb
        have hc2 : ∃ c', 0 ≤ c' ∧ sIf (tVal (m2 fLt (mVar 5) (mD (.int 0)))) (sSeq (sAsg (m2 fSub (mD (.int 1)) (m2 (fMul false) (mD (.int 2)) (mVar 5))) (gN 5)) sNil) sNil [some (.r 0), some (pI 0), some (pI 63), some (.r 1), some (pI i), some (pI c), a6, a7] [.scr ns, .lst (ds.map pI)] = .nx [some (.r 0), some (pI 0), some (pI 63), some (.r 1), some (pI i), some (pI c'), a6, a7] [.scr ns, .lst (ds.map pI)] := by
          by_cases q : c < 0
          · have hk : mulOk 2 c = true := by
              simp only [mulOk, decide_eq_true_eq]
              have : (2 : Int).natAbs.log2 = 1 := by decide
              omega
            exact ⟨1 - 2 * c, by omega, by simp [bodyF, sSeq, sNil, sRet, sRetK, sIf, sAsg, sExpr, sSub, sBrk, sCt, sParN, R.then, R.bind, R.lift, R.noExc, mVar, mD, mTup, mLst, mAndV, mOrV, mNotV, mIf, mNeg, mIsi, mApp, mCall, mMeth, mMeth0, mChain, m2, mSlice, oNone, oSome, aNil, aCons, tVal, tTruth, tAndM, tOrM, tNotM, tmYes, gN, gT, gsGo, setAll, List.length_cons, List.length_nil, List.map_cons, List.map_nil, List.cons_append, List.nil_append, List.replicate, List.getElem?_cons_zero, List.getElem?_cons_succ, List.set_cons_zero, List.set_cons_succ, Nat.sub_self, Nat.zero_add, Nat.add_zero, Nat.reduceAdd, Nat.reduceSub, Nat.reduceEqDiff, if_true, if_false, if_pos, reduceIte, reduceCtorEq, Bool.not_true, Bool.not_false, truth, tyName, isTy, fLt, fSub, fI, fMul, q, hk]⟩
          · exact ⟨c, by omega, by simp [bodyF, sSeq, sNil, sRet, sRetK, sIf, sAsg, sExpr, sSub, sBrk, sCt, sParN, R.then, R.bind, R.lift, R.noExc, mVar, mD, mTup, mLst, mAndV, mOrV, mNotV, mIf, mNeg, mIsi, mApp, mCall, mMeth, mMeth0, mChain, m2, mSlice, oNone, oSome, aNil, aCons, tVal, tTruth, tAndM, tOrM, tNotM, tmYes, gN, gT, gsGo, setAll, List.length_cons, List.length_nil, List.map_cons, List.map_nil, List.cons_append, List.nil_append, List.replicate, List.getElem?_cons_zero, List.getElem?_cons_succ, List.set_cons_zero, List.set_cons_succ, Nat.sub_self, Nat.zero_add, Nat.add_zero, Nat.reduceAdd, Nat.reduceSub, Nat.reduceEqDiff, if_true, if_false, if_pos, reduceIte, reduceCtorEq, Bool.not_true, Bool.not_false, truth, tyName, isTy, fLt, q]⟩
        obtain ⟨c', hc', ec⟩ := hc2
        rw [seq_nx ec]
        by_cases hlen : (1500 : Int) < ds.length
        · rw [seq_bk (env' := [some (.r 0), some (pI 0), some (pI 63), some (.r 1), some (pI i), some (pI c'), a6, a7]) (st' := [.scr ns, .lst (ds.map pI)]) (by simp [bodyF, sSeq, sNil, sRet, sRetK, sIf, sAsg, sExpr, sSub, sBrk, sCt, sParN, R.then, R.bind, R.lift, R.noExc, mVar, mD, mTup, mLst, mAndV, mOrV, mNotV, mIf, mNeg, mIsi, mApp, mCall, mMeth, mMeth0, mChain, m2, mSlice, oNone, oSome, aNil, aCons, tVal, tTruth, tAndM, tOrM, tNotM, tmYes, gN, gT, gsGo, setAll, List.length_cons, List.length_nil, List.map_cons, List.map_nil, List.cons_append, List.nil_append, List.replicate, List.getElem?_cons_zero, List.getElem?_cons_succ, List.set_cons_zero, List.set_cons_succ, Nat.sub_self, Nat.zero_add, Nat.add_zero, Nat.reduceAdd, Nat.reduceSub, Nat.reduceEqDiff, if_true, if_false, if_pos, reduceIte, reduceCtorEq, Bool.not_true, Bool.not_false, truth, tyName, isTy, fGt, fLen, viewL, hlen])]
          exact ⟨_, _, _, _, ds, h1, by omega, rfl⟩
        · rw [seq_nx (env' := [some (.r 0), some (pI 0), some (pI 63), some (.r 1), some (pI i), some (pI c'), a6, a7]) (st' := [.scr ns, .lst (ds.map pI)]) (by simp [bodyF, sSeq, sNil, sRet, sRetK, sIf, sAsg, sExpr, sSub, sBrk, sCt, sParN, R.then, R.bind, R.lift, R.noExc, mVar, mD, mTup, mLst, mAndV, mOrV, mNotV, mIf, mNeg, mIsi, mApp, mCall, mMeth, mMeth0, mChain, m2, mSlice, oNone, oSome, aNil, aCons, tVal, tTruth, tAndM, tOrM, tNotM, tmYes, gN, gT, gsGo, setAll, List.length_cons, List.length_nil, List.map_cons, List.map_nil, List.cons_append, List.nil_append, List.replicate, List.getElem?_cons_zero, List.getElem?_cons_succ, List.set_cons_zero, List.set_cons_succ, Nat.sub_self, Nat.zero_add, Nat.add_zero, Nat.reduceAdd, Nat.reduceSub, Nat.reduceEqDiff, if_true, if_false, if_pos, reduceIte, reduceCtorEq, Bool.not_true, Bool.not_false, truth, tyName, isTy, fGt, fLen, viewL, hlen])]
          rw [seq_end]
          have hp : powOk 10 18 = true := by decide
          by_cases hbig : 1000000000000000000 ≤ c'
          · obtain ⟨a6', c2, ds', g1, g2, e⟩ := loop60 ns ds (some (pI i)) a7 a6 c' h1 (by omega)
            have ei : sIf (tVal (m2 fGe (mVar 5) (m2 fPow (mD (.int 10)) (mD (.int 18))))) = fun m k env st => sIf (tVal (m2 fGe (mVar 5) (m2 fPow (mD (.int 10)) (mD (.int 18))))) m k env st := rfl
            simp only [sIf, tVal, m2, mVar, mD, R.bind, R.then, R.lift, List.getElem?_cons_succ, List.getElem?_cons_zero, fPow, fI, hp, if_true, fGe]
            have hb2 : decide ((10 : Int) ^ (18 : Int).toNat ≤ c') = true := by
              rw [decide_eq_true_eq]
              have : (10 : Int) ^ (18 : Int).toNat = 1000000000000000000 := by decide
              omega
            rw [hb2]
            dsimp only
            rw [seq_end, e]
            exact ⟨_, _, _, _, ds', g1, by omega, rfl, rfl⟩
          · simp only [sIf, tVal, m2, mVar, mD, R.bind, R.then, R.lift, List.getElem?_cons_succ, List.getElem?_cons_zero, fPow, fI, hp, if_true, fGe]
            have hb2 : decide ((10 : Int) ^ (18 : Int).toNat ≤ c') = false := by
              rw [decide_eq_false_iff_not]
              have : (10 : Int) ^ (18 : Int).toNat = 1000000000000000000 := by decide
              omega
            rw [hb2]
            dsimp only
            have hm := fmodM (c' * 48271 + i * 69621 + 11)
            have k1 : mulOk c' 48271 = true := mulOk_small (by omega) (by decide)
            have k2 : mulOk (i : Int) 69621 = true := mulOk_small (by omega) (by decide)
            rw [seq_nx (env' := [some (.r 0), some (pI 0), some (pI 63), some (.r 1), some (pI i), some (pI c'), a6, some (pI ((c' * 48271 + i * 69621 + 11).fmod 2147483647))]) (st' := [.scr ns, .lst (ds.map pI)]) (by simp [bodyF, sSeq, sNil, sRet, sRetK, sIf, sAsg, sExpr, sSub, sBrk, sCt, sParN, R.then, R.bind, R.lift, R.noExc, mVar, mD, mTup, mLst, mAndV, mOrV, mNotV, mIf, mNeg, mIsi, mApp, mCall, mMeth, mMeth0, mChain, m2, mSlice, oNone, oSome, aNil, aCons, tVal, tTruth, tAndM, tOrM, tNotM, tmYes, gN, gT, gsGo, setAll, List.length_cons, List.length_nil, List.map_cons, List.map_nil, List.cons_append, List.nil_append, List.replicate, List.getElem?_cons_zero, List.getElem?_cons_succ, List.set_cons_zero, List.set_cons_succ, Nat.sub_self, Nat.zero_add, Nat.add_zero, Nat.reduceAdd, Nat.reduceSub, Nat.reduceEqDiff, if_true, if_false, if_pos, reduceIte, reduceCtorEq, Bool.not_true, Bool.not_false, truth, tyName, isTy, fMod, fI, fInt, fAdd, fMul, k1, k2])]
            rw [seq_end]
            obtain ⟨a6', c2, ds', g1, g2, e⟩ := loop12 ns ds (some (pI i)) (some (pI c')) a6 _ h1 (by omega) hm
            rw [e]
            exact ⟨_, _, _, _, ds', g1, by omega, rfl, rfl⟩
      · rintro env st ⟨a4, a5, a6, a7, ds, h1, h2, rfl, rfl⟩
        refine ⟨rfl, a4, a5, a6, a7, ds, h1, ?_, rfl⟩
        have : ds.length ≤ 60 * 63 := by simpa [rngItems] using h2
        omega
    obtain ⟨a4, a5, a6, a7, ds, h1, h2, e⟩ := hloop
    refine ⟨a4, a5, a6, a7, ds, h1, h2, ?_⟩
    rw [e]
    simp only [bodyF, sSeq, sNil, sRet, sRetK, sIf, sAsg, sExpr, sSub, sBrk, sCt, sParN, R.then, R.bind, R.lift, R.noExc, mVar, mD, mTup, mLst, mAndV, mOrV, mNotV, mIf, mNeg, mIsi, mApp, mCall, mMeth, mMeth0, mChain, m2, mSlice, oNone, oSome, aNil, aCons, tVal, tTruth, tAndM, tOrM, tNotM, tmYes, gN, gT, gsGo, setAll, List.length_cons, List.length_nil, List.map_cons, List.map_nil, List.cons_append, List.nil_append, List.replicate, List.getElem?_cons_zero, List.getElem?_cons_succ, List.set_cons_zero, List.set_cons_succ, Nat.sub_self, Nat.zero_add, Nat.add_zero, Nat.reduceAdd, Nat.reduceSub, Nat.reduceEqDiff, if_true, if_false, if_pos, reduceIte, reduceCtorEq, Bool.not_true, Bool.not_false, truth, tyName, isTy]
  obtain ⟨a4, a5, a6, a7, ds, h1, h2, e⟩ := key
  refine ⟨ds, h1, h2, body_rt ?_⟩
  refine e.trans ?_
  have hp : (ds.map pI) = (ds.map D.int).map Val.p := by rw [List.map_map]; rfl
  rw [seq_end, ret_lst (l := 1) (ds := ds.map .int) (by simp) rfl rfl (by omega) (by simp [hp])]
  rfl
abbrev Bx (ds : List Int) (at_ : Nat) : SObj := .lst [.p (.lst (ds.map .int)), pI at_]
theorem f_draw (o : SObj) (ds : List Int) (hd : Dg ds) (rest : Sto) (k m : Nat) (hk : k < 1000000000) (hm : 0 < m) : ∃ v : Nat, v < m ∧ F__law_draw [.r 1, pI m] (o :: Bx ds k :: rest) = .ok (pI v) (o :: Bx ds (k + 1) :: rest) := by
  have hm0 : ¬ m = 0 := by omega
  have hmod : ∀ z : Int, ∃ v : Nat, v < m ∧ z.fmod m = v := fun z => by
    have h1 := Int.fmod_nonneg_of_pos z (show (0 : Int) < m by omega)
    have h2 := Int.fmod_lt_of_pos z (show (0 : Int) < m by omega)
    exact ⟨(z.fmod m).toNat, by omega, by omega⟩
  have hk7 : mulOk (k : Int) 7 = true := mulOk_small (by omega) (by decide)
  have h1 : L2.ixN 2 1 = some 1 := by decide
  have h0 : L2.atI [Val.p (.lst (ds.map .int)), pI k] 1 = some (pI k) := by simp [L2.atI, h1]
  have h00 : ∀ z, L2.atI [Val.p (.lst (ds.map .int)), z] 0 = some (Val.p (.lst (ds.map .int))) := fun z => by simp [L2.atI, show L2.ixN 2 0 = some 0 from by decide]
  by_cases q : k < ds.length
  · obtain ⟨v, hv, ev⟩ := hmod ds[k]
    refine ⟨v, hv, ?_⟩
    have hq : (k : Int) < ds.length := by omega
    have ha : L2.atI (ds.map (Val.p ∘ D.int)) (k : Int) = some (pI ds[k]) := by rw [atI_nat]; simp [q]
    simp [F__law_draw, B__law_draw, bodyF, sSeq, sNil, sRet, sRetK, sIf, sAsg, sExpr, sSub, sBrk, sCt, sParN, R.then, R.bind, R.lift, R.noExc, mVar, mD, mTup, mLst, mAndV, mOrV, mNotV, mIf, mNeg, mIsi, mApp, mCall, mMeth, mMeth0, mChain, m2, mSlice, oNone, oSome, aNil, aCons, tVal, tTruth, tAndM, tOrM, tNotM, tmYes, gN, gT, gsGo, setAll, List.length_cons, List.length_nil, List.map_cons, List.map_nil, List.cons_append, List.nil_append, List.replicate, List.getElem?_cons_zero, List.getElem?_cons_succ, List.set_cons_zero, List.set_cons_succ, Nat.sub_self, Nat.zero_add, Nat.add_zero, Nat.reduceAdd, Nat.reduceSub, Nat.reduceEqDiff, if_true, if_false, if_pos, reduceIte, reduceCtorEq, Bool.not_true, Bool.not_false, truth, tyName, isTy, fIx, fIxO, viewL, h0, h00, h1, setSub, fAdd, fLt, fLen, hq, fInt, fMod, fI, ha, hm0, ev]
  · obtain ⟨v, hv, ev⟩ := hmod ((k : Int) * 7)
    refine ⟨v, hv, ?_⟩
    have hq : ¬ (k : Int) < ds.length := by omega
    simp [F__law_draw, B__law_draw, bodyF, sSeq, sNil, sRet, sRetK, sIf, sAsg, sExpr, sSub, sBrk, sCt, sParN, R.then, R.bind, R.lift, R.noExc, mVar, mD, mTup, mLst, mAndV, mOrV, mNotV, mIf, mNeg, mIsi, mApp, mCall, mMeth, mMeth0, mChain, m2, mSlice, oNone, oSome, aNil, aCons, tVal, tTruth, tAndM, tOrM, tNotM, tmYes, gN, gT, gsGo, setAll, List.length_cons, List.length_nil, List.map_cons, List.map_nil, List.cons_append, List.nil_append, List.replicate, List.getElem?_cons_zero, List.getElem?_cons_succ, List.set_cons_zero, List.set_cons_succ, Nat.sub_self, Nat.zero_add, Nat.add_zero, Nat.reduceAdd, Nat.reduceSub, Nat.reduceEqDiff, if_true, if_false, if_pos, reduceIte, reduceCtorEq, Bool.not_true, Bool.not_false, truth, tyName, isTy, fIx, fIxO, viewL, h0, h00, h1, setSub, fAdd, fLt, fLen, hq, fInt, fMod, fI, fMul, hk7, hm0, ev]
end Sh
end
section
set_option Elab.async false
set_option linter.all false
set_option maxRecDepth 100000
set_option maxHeartbeats 2000000
namespace Sh
open PySem PySem.Spec L2 Sl PyProof.Rows
structure Tbl where
  rows : List (List Int)
  tops : List (List Int)
  bas : List Nat
  w : Int
structure Par where
  many : Nat
  lows : List Nat
  loose : List Nat
  signs : List Int
def Par.helpers (K : Par) : Nat := K.many + K.lows.length + K.loose.length
abbrev natsD (xs : List Nat) : D := .lst (xs.map fun k => .int (k : Nat))
def fldsC (K : Par) (lr lb : Nat) (s : Tbl) : List (Str × Val) :=
  [("many", pI K.many), ("lows", .p (natsD K.lows)), ("loose", .p (natsD K.loose)), ("signs", .p (intsD K.signs)), ("helpers", pI K.helpers), ("rows", .r lr), ("basis", .r lb), ("whole", pI s.w), ("tops", .p (.lst (s.tops.map intsD)))]
structure CS (K : Par) (s : Tbl) (c lr lb : Nat) (st : Sto) : Prop where
  ins : st[c]? = some (.ins "Climb" (fldsC K lr lb s))
  rows : st[lr]? = some (.lst (s.rows.map fun r => .p (intsD r)))
  bas : st[lb]? = some (.lst (s.bas.map fun k => pI (k : Nat)))
  ne : lr ≠ lb
section
variable {K : Par} {s : Tbl} {c lr lb : Nat} {st : Sto} {env : Slots} {mo : EM}
end
def big : Nat := 2 ^ 4000
def clr (w : Int) (col : Nat) (row other : List Int) : List Int := (other.zip row).map fun p => (row.getD col 0 * p.1 - other.getD col 0 * p.2).fdiv w
def SmallL (xs : List Int) : Prop := ∀ x ∈ xs, x.natAbs < big
theorem SmallL.at {xs : List Int} (h : SmallL xs) (k : Nat) : (xs.getD k 0).natAbs < big := by
  by_cases q : k < xs.length
  · rw [List.getD_eq_getElem?_getD, List.getElem?_eq_getElem q]
    exact h _ (List.getElem_mem q)
  · rw [List.getD_eq_getElem?_getD, List.getElem?_eq_none (by omega)]
    exact Nat.two_pow_pos _
end Sh
end
section
set_option Elab.async false
set_option linter.all false
set_option maxRecDepth 100000
set_option maxHeartbeats 2000000
set_option exponentiation.threshold 100
namespace Sh
open PySem PySem.Spec L2 Sl PyProof.Rows
section
variable {K : Par} {s : Tbl} {c lr lb : Nat} {st : Sto}
theorem CS.lc (h : CS K s c lr lb st) : c < st.length := (List.getElem?_eq_some_iff.mp h.ins).1
theorem CS.c_lr (h : CS K s c lr lb st) : c ≠ lr := fun e => by have := h.ins; rw [e, h.rows] at this; cases this
theorem CS.c_lb (h : CS K s c lr lb st) : c ≠ lb := fun e => by have := h.ins; rw [e, h.bas] at this; cases this
theorem CS.put (h : CS K s c lr lb st) (s' : Tbl) (e1 : s'.rows = s.rows) (e2 : s'.bas = s.bas) : CS K s' c lr lb (st.set c (.ins "Climb" (fldsC K lr lb s'))) := by
  have h1 := h.lc
  refine ⟨by rw [List.getElem?_set_self h1], ?_, ?_, h.ne⟩
  · rw [List.getElem?_set_ne h.c_lr, e1]; exact h.rows
  · rw [List.getElem?_set_ne h.c_lb, e2]; exact h.bas
end
structure Wf (m wd : Nat) (s : Tbl) : Prop where
  rl : s.rows.length = m
  tl : s.tops.length = 2
  bl : s.bas.length = m
  rw_ : ∀ r ∈ s.rows, r.length = wd
  tw : ∀ r ∈ s.tops, r.length = wd
  rs : ∀ r ∈ s.rows, SmallL r
  ts : ∀ r ∈ s.tops, SmallL r
  w0 : 0 < s.w
  wb : s.w.natAbs < big
  ml : m ≤ 1000
  wl : wd ≤ 1000
def pivT (s : Tbl) (at_ col : Nat) : Tbl :=
  { rows := s.rows.zipIdx.map fun p => if p.2 = at_ then s.rows.getD at_ [] else clr s.w col (s.rows.getD at_ []) p.1
    tops := s.tops.map fun o => clr s.w col (s.rows.getD at_ []) o
    bas := s.bas.set at_ col
    w := (s.rows.getD at_ []).getD col 0 }
theorem getD_mem {α : Type} {xs : List α} {k : Nat} {d : α} (h : k < xs.length) : xs.getD k d ∈ xs := by
  rw [List.getD_eq_getElem?_getD, List.getElem?_eq_getElem h]
  exact List.getElem_mem h
theorem getD_at {α : Type} {xs : List α} {k : Nat} {d : α} (h : k < xs.length) : xs[k] = xs.getD k d := by
  rw [List.getD_eq_getElem?_getD, List.getElem?_eq_getElem h]; rfl
theorem deq_int (a b : Int) : fEq false (pI a) (pI b) = fun st => some (.p (.bl (a == b)), st) := by
  funext st
  simp [fEq, viewD, eqOk, noDct, dep, deq]
end Sh
end
section
set_option Elab.async false
set_option linter.all false
set_option maxRecDepth 100000
set_option maxHeartbeats 2000000
set_option exponentiation.threshold 100
namespace Sh
open PySem PySem.Spec L2 Sl PyProof.Rows
def lastOf (xs : List Int) : Int := xs.getD (xs.length - 1) 0
def stopsB (s : Tbl) (a f col : Nat) : Bool :=
  decide (lastOf (s.rows.getD a []) * (s.rows.getD f []).getD col 0 < lastOf (s.rows.getD f []) * (s.rows.getD a []).getD col 0) ||
  ((lastOf (s.rows.getD a []) * (s.rows.getD f []).getD col 0 == lastOf (s.rows.getD f []) * (s.rows.getD a []).getD col 0) && decide (s.bas.getD a 0 < s.bas.getD f 0))
def ahead (s : Tbl) (col i : Nat) : Option Nat → Bool
  | none => true
  | some f => stopsB s i f col
def rowStep (s : Tbl) (col : Nat) (acc : Option Nat) (p : List Int × Nat) : Option Nat := bif decide (0 < p.1.getD col 0) && ahead s col p.2 acc then some p.2 else acc
def firstRow (s : Tbl) (col : Nat) : Option Nat := s.rows.zipIdx.foldl (rowStep s col) none
end Sh
end
section
set_option Elab.async false
set_option linter.all false
set_option maxRecDepth 100000
set_option maxHeartbeats 2000000
set_option exponentiation.threshold 100
namespace Sh
open PySem PySem.Spec L2 Sl PyProof.Rows
structure Goes (K : Par) (c lb n0 : Nat) (st : Sto) (s' : Tbl) (st' : Sto) : Prop where
  ex : ∃ lr, n0 ≤ lr ∧ CS K s' c lr lb st'
  len : st.length ≤ st'.length
  clo : Clo st → Clo st'
  fr : ∀ i, i < n0 → st'[i]? = st[i]?
theorem Goes.refl {K : Par} {s : Tbl} {c lr lb n0 : Nat} {st : Sto} (h : CS K s c lr lb st) (hl : n0 ≤ lr) : Goes K c lb n0 st s st := ⟨⟨lr, hl, h⟩, Nat.le_refl _, fun z => z, fun i _ => rfl⟩
theorem Goes.trans {K : Par} {s' s'' : Tbl} {c lb n0 : Nat} {st st' st'' : Sto} (g : Goes K c lb n0 st s' st') (k : Goes K c lb n0 st' s'' st'') : Goes K c lb n0 st s'' st'' :=
  ⟨k.ex, Nat.le_trans g.len k.len, fun z => k.clo (g.clo z), fun i h => (k.fr i h).trans (g.fr i h)⟩
def negRow (s : Tbl) (a : Nat) : Tbl := { s with rows := s.rows.set a ((s.rows.getD a []).map fun x => 0 - x) }
theorem Wf.neg {m wd : Nat} {s : Tbl} (w : Wf m wd s) {a : Nat} (ha : a < m) : Wf m wd (negRow s a) := by
  have hr : s.rows.getD a [] ∈ s.rows := getD_mem (by rw [w.rl]; exact ha)
  refine ⟨by simp [negRow, w.rl], w.tl, w.bl, fun r hr2 => ?_, w.tw, fun r hr2 => ?_, w.ts, w.w0, w.wb, w.ml, w.wl⟩
  · rcases List.mem_or_eq_of_mem_set hr2 with h | rfl
    · exact w.rw_ r h
    · rw [List.length_map]; exact w.rw_ _ hr
  · rcases List.mem_or_eq_of_mem_set hr2 with h | rfl
    · exact w.rs r h
    · intro x hx
      obtain ⟨y, hy, rfl⟩ := List.mem_map.mp hx
      have := w.rs _ hr y hy
      omega
theorem deq_intN (a b : Int) : fEq true (pI a) (pI b) = fun st => some (.p (.bl !(a == b)), st) := by
  funext st
  simp [fEq, viewD, eqOk, noDct, dep, deq]
end Sh
end
section
set_option Elab.async false
set_option linter.all false
set_option maxRecDepth 100000
set_option maxHeartbeats 2000000
set_option exponentiation.threshold 100
namespace Sh
open PySem PySem.Spec L2 Sl PyProof.Rows
def frD (q : Rat) : D := .tup [.int q.num, .int q.den]
structure SmR (q : Rat) : Prop where
  n : q.num.natAbs < big
  d : q.den < big
theorem frD_divInt {t b : Int} (hb : 0 < b) : frD (Rat.divInt t b) = .tup [.int (t.fdiv (Int.gcd t b)), .int (b.fdiv (Int.gcd t b))] := by
  unfold frD
  rw [Rat.num_divInt, Rat.den_divInt, if_neg (by omega), Int.sign_eq_one_of_pos hb, Int.one_mul, Int.gcd_comm b t, Int.fdiv_eq_ediv_of_nonneg _ (by omega), Int.fdiv_eq_ediv_of_nonneg _ (by omega)]
  have : ((b.natAbs / Int.gcd t b : Nat) : Int) = b / (Int.gcd t b : Nat) := by
    rw [Int.natCast_ediv]
    congr 1
    omega
  rw [this]
def half : Nat := 2 ^ 2000
structure HalfR (q : Rat) : Prop where
  n : q.num.natAbs < half
  d : q.den < half
theorem half_big {a : Nat} (h : a < half) : a < big := Nat.lt_of_lt_of_le h (Nat.pow_le_pow_right (by decide) (by decide))
theorem HalfR.sm {q : Rat} (h : HalfR q) : SmR q := ⟨half_big h.n, half_big h.d⟩
theorem den_pos (q : Rat) : (0 : Int) < q.den := by have := q.den_pos; omega
theorem den_ne (q : Rat) : (q.den : Int) ≠ 0 := by have := q.den_pos; omega
theorem add_div (a b : Rat) : a + b = Rat.divInt (a.num * b.den + b.num * a.den) (a.den * b.den) := by
  have h := Rat.divInt_add_divInt a.num b.num (den_ne a) (den_ne b)
  rw [Rat.num_divInt_den, Rat.num_divInt_den] at h
  exact h
end Sh
end
section
set_option Elab.async false
set_option linter.all false
set_option maxRecDepth 100000
set_option maxHeartbeats 2000000
set_option exponentiation.threshold 100
namespace Sh
open PySem PySem.Spec L2 Sl PyProof.Rows
abbrev ratsD (xs : List Rat) : D := .lst (xs.map frD)
end Sh
end
section
set_option Elab.async false
set_option linter.all false
set_option maxRecDepth 100000
set_option maxHeartbeats 2000000
set_option exponentiation.threshold 100
namespace Sh
open PySem PySem.Spec L2 Sl PyProof.Rows
structure HalfT (s : Tbl) : Prop where
  rs : ∀ r ∈ s.rows, ∀ x ∈ r, x.natAbs < half
  ts : ∀ r ∈ s.tops, ∀ x ∈ r, x.natAbs < half
  w : s.w.natAbs < half
section
variable {K : Par} {s : Tbl} {c lr lb m wd : Nat} {st : Sto}
end
end Sh
end
section
set_option Elab.async false
set_option linter.all false
set_option maxRecDepth 100000
set_option maxHeartbeats 2000000
set_option exponentiation.threshold 100
namespace Sh
open PySem PySem.Spec L2 Sl PyProof.Rows
def mostT : T := ['m', 'o', 's', 't']
def parOf (free : List Bool) (kinds : List T) (bounds : List Int) : Par :=
  { many := free.length
    lows := (List.range free.length).filter fun i => free.getD i false
    loose := (List.range kinds.length).filter fun i => kinds.getD i [] == mostT
    signs := bounds.map fun b => if b < 0 then -1 else 1 }
def rowIn (K : Par) (row : List Int) (b : Int) (a : Nat) : List Int :=
  ((row ++ K.lows.map (fun l => 0 - row.getD l 0) ++ K.loose.map (fun o => if o = a then (1 : Int) else 0)).map fun x => K.signs.getD a 0 * x) ++ (List.range K.signs.length).map (fun o => if o = a then (1 : Int) else 0) ++ [(b.natAbs : Int)]
def lackR (K : Par) (rows : List (List Int)) : List Int := (List.range (K.helpers + K.signs.length + 1)).map fun c => if K.helpers ≤ c ∧ c < K.helpers + K.signs.length then 0 else 0 - (rows.map fun r => r.getD c 0).sum
def goalR (K : Par) (goal : List Int) : List Int := (goal.map fun x => 0 - x) ++ K.lows.map (fun l => goal.getD l 0) ++ List.replicate (K.loose.length + K.signs.length + 1) 0
def rowsIn (K : Par) (rows : List (List Int)) (bounds : List Int) : List (List Int) := (List.range rows.length).map fun i => rowIn K (rows.getD i []) (bounds.getD i 0) i
def tblIn (K : Par) (rows : List (List Int)) (bounds goal : List Int) : Tbl :=
  { rows := rowsIn K rows bounds
    tops := [lackR K (rowsIn K rows bounds), goalR K goal]
    bas := (List.range rows.length).map fun i => K.helpers + i
    w := 1 }
theorem add_lst {a b : List D} {st : Sto} (h : a.length + b.length ≤ 100000) : fAdd false (.p (.lst a)) (.p (.lst b)) st = some (.p (.lst (a ++ b)), st) := by
  have e : newLst false (a.map Val.p ++ b.map Val.p) st = some (.p (.lst (a ++ b)), st) := by
    rw [← List.map_append]
    unfold newLst
    simp only [pureL_map]
    rw [if_pos (small_size (by simpa using h))]
  simp only [fAdd, viewP]
  exact e
section
variable {K : Par} {c : Nat} {st : Sto} {fs : List (Str × Val)}
structure Has (K : Par) (c : Nat) (fs : List (Str × Val)) (st : Sto) : Prop where
  at_ : st[c]? = some (.ins "Climb" fs)
  lows : lookV "lows" fs = some (.p (natsD K.lows))
  loose : lookV "loose" fs = some (.p (natsD K.loose))
  signs : lookV "signs" fs = some (.p (intsD K.signs))
  helpers : lookV "helpers" fs = some (pI K.helpers)
end
end Sh
end
section
set_option Elab.async false
set_option linter.all false
set_option maxRecDepth 100000
set_option maxHeartbeats 4000000
set_option exponentiation.threshold 100
namespace Sh
open PySem PySem.Spec L2 Sl PyProof.Rows
section
variable {K : Par} {c lr : Nat} {st : Sto} {fs : List (Str × Val)} {rows : List (List Int)} {wd : Nat}
end
end Sh
end
section
set_option Elab.async false
set_option linter.all false
set_option maxRecDepth 100000
set_option maxHeartbeats 4000000
set_option exponentiation.threshold 100
namespace Sh
open PySem PySem.Spec L2 Sl PyProof.Rows
structure LpIn where
  rows : List (List Int)
  bounds : List Int
  kinds : List T
  free : List Bool
  goal : List Int
structure LpIn.Ok (I : LpIn) : Prop where
  bl : I.bounds.length = I.rows.length
  kl : I.kinds.length = I.rows.length
  gl : I.goal.length = I.free.length
  rl : ∀ r ∈ I.rows, r.length = I.free.length
  rs : ∀ r ∈ I.rows, SmallL r
  m : I.rows.length ≤ 200
  n : I.free.length ≤ 200
def LpIn.par (I : LpIn) : Par := parOf I.free I.kinds I.bounds
def LpIn.tbl (I : LpIn) : Tbl := tblIn I.par I.rows I.bounds I.goal
def LpIn.args (I : LpIn) : List Val := [.p (.lst (I.rows.map intsD)), .p (intsD I.bounds), .p (.lst (I.kinds.map .str)), .p (.lst (I.free.map .bl)), .p (intsD I.goal)]
theorem par_lens (I : LpIn) : I.par.lows.length ≤ I.free.length ∧ I.par.loose.length ≤ I.kinds.length ∧ I.par.signs.length = I.bounds.length := by
  refine ⟨?_, ?_, by simp [LpIn.par, parOf]⟩
  · exact Nat.le_trans (List.length_filter_le _ _) (by simp)
  · exact Nat.le_trans (List.length_filter_le _ _) (by simp)
theorem rowsIn_len (I : LpIn) (ok : I.Ok) : ∀ r ∈ I.tbl.rows, r.length = I.par.helpers + I.par.signs.length + 1 := fun r hr => by
  obtain ⟨i, hi, rfl⟩ := List.mem_map.mp hr
  have hi2 : i < I.rows.length := by simpa using hi
  have := ok.rl _ (getD_mem (d := []) hi2)
  simp only [rowIn, List.length_append, List.length_map, List.length_range, List.length_cons, List.length_nil, this]
  have : I.par.helpers = I.free.length + I.par.lows.length + I.par.loose.length := rfl
  omega
theorem deq_str2 (a b : T) (st : Sto) : fEq false (.p (.str a)) (.p (.str b)) st = some (.p (.bl (a == b)), st) := by
  simp [fEq, viewD, eqOk, noDct, dep, deq]
end Sh
end
section
set_option linter.all false
set_option maxRecDepth 10000
namespace Lp
def sm : Nat → (Nat → Int) → Int
  | 0, _ => 0
  | n + 1, f => sm n f + f n
theorem sm_congr : ∀ {n : Nat} {f g : Nat → Int}, (∀ i, i < n → f i = g i) → sm n f = sm n g
  | 0, _, _, _ => rfl
  | n + 1, f, g, h => by
    simp only [sm]
    rw [sm_congr (n := n) fun i hi => h i (by omega), h n (by omega)]
theorem sm_zero {n : Nat} {f : Nat → Int} (h : ∀ i, i < n → f i = 0) : sm n f = 0 := by
  induction n with
  | zero => rfl
  | succ n ih => simp only [sm]; rw [ih fun i hi => h i (by omega), h n (by omega)]; rfl
theorem sm_add (n : Nat) (f g : Nat → Int) : sm n (fun i => f i + g i) = sm n f + sm n g := by
  induction n with
  | zero => rfl
  | succ n ih => simp only [sm]; rw [ih]; omega
theorem sm_sub (n : Nat) (f g : Nat → Int) : sm n (fun i => f i - g i) = sm n f - sm n g := by
  induction n with
  | zero => rfl
  | succ n ih => simp only [sm]; rw [ih]; omega
theorem sm_mul (n : Nat) (k : Int) (f : Nat → Int) : sm n (fun i => k * f i) = k * sm n f := by
  induction n with
  | zero => simp [sm]
  | succ n ih => simp only [sm]; rw [ih, Int.mul_add]
theorem sm_mulr (n : Nat) (k : Int) (f : Nat → Int) : sm n (fun i => f i * k) = sm n f * k := by
  rw [Int.mul_comm, ← sm_mul]
  exact sm_congr fun i _ => Int.mul_comm _ _
theorem sm_neg (n : Nat) (f : Nat → Int) : sm n (fun i => - f i) = - sm n f := by
  induction n with
  | zero => rfl
  | succ n ih => simp only [sm]; rw [ih]; omega
theorem sm_swap (n m : Nat) (f : Nat → Nat → Int) : sm n (fun i => sm m (fun j => f i j)) = sm m (fun j => sm n (fun i => f i j)) := by
  induction n with
  | zero => exact (sm_zero fun _ _ => rfl).symm
  | succ n ih => simp only [sm]; rw [ih, sm_add]
theorem sm_one {n : Nat} {f : Nat → Int} (p : Nat) (hp : p < n) (h : ∀ i, i < n → i ≠ p → f i = 0) : sm n f = f p := by
  induction n with
  | zero => omega
  | succ n ih =>
    simp only [sm]
    by_cases q : p = n
    · subst q
      rw [sm_zero fun i hi => h i (by omega) (by omega)]
      omega
    · rw [ih (by omega) fun i hi => h i (by omega), h n (by omega) (Ne.symm q)]
      omega
theorem sm_split {n : Nat} {f : Nat → Int} (p : Nat) (hp : p < n) : sm n f = f p + sm n (fun i => if i = p then 0 else f i) := by
  have e : sm n f = sm n (fun i => (if i = p then f i else 0) + (if i = p then 0 else f i)) := sm_congr fun i _ => by split <;> simp
  rw [e, sm_add, sm_one p hp (fun i _ hi => if_neg hi), if_pos rfl]
theorem sm_abs {n : Nat} {f : Nat → Int} {M : Nat} (h : ∀ i, i < n → (f i).natAbs ≤ M) : (sm n f).natAbs ≤ n * M := by
  induction n with
  | zero => simp [sm]
  | succ n ih =>
    simp only [sm]
    have h1 := ih fun i hi => h i (by omega)
    have h2 := h n (by omega)
    rw [Nat.succ_mul]
    omega
def skip (j c : Nat) : Nat := if c < j then c else c + 1
def sgn (j : Nat) : Int := if j % 2 = 0 then 1 else -1
theorem sgn_succ (j : Nat) : sgn (j + 1) = - sgn j := by
  unfold sgn
  rcases Nat.mod_two_eq_zero_or_one j with h | h
  · have h2 : (j + 1) % 2 ≠ 0 := by omega
    rw [if_pos h, if_neg h2]
  · have h2 : (j + 1) % 2 = 0 := by omega
    have h3 : j % 2 ≠ 0 := by omega
    rw [if_neg h3, if_pos h2]; rfl
def minor (M : Nat → Nat → Int) (j : Nat) : Nat → Nat → Int := fun c r => M (skip j c) (r + 1)
def det : Nat → (Nat → Nat → Int) → Int
  | 0, _ => 1
  | m + 1, M => sm (m + 1) fun j => sgn j * M j 0 * det m (minor M j)
theorem skip_lt {j c m : Nat} (h : c < m) : skip j c < m + 1 := by unfold skip; split <;> omega
theorem skip_ne (j c : Nat) : skip j c ≠ j := by unfold skip; split <;> omega
theorem det_congr : ∀ {m : Nat} {M N : Nat → Nat → Int}, (∀ c r, c < m → r < m → M c r = N c r) → det m M = det m N
  | 0, _, _, _ => rfl
  | m + 1, M, N, h => by
    unfold det
    refine sm_congr fun j hj => ?_
    rw [h j 0 hj (by omega), det_congr (m := m) (M := minor M j) (N := minor N j) fun c r hc hr => h _ _ (skip_lt hc) (by omega)]
def rep (M : Nat → Nat → Int) (p : Nat) (a : Nat → Int) : Nat → Nat → Int := fun c => if c = p then a else M c
theorem rep_same (M : Nat → Nat → Int) (p : Nat) (a : Nat → Int) : rep M p a p = a := if_pos rfl
theorem rep_ne (M : Nat → Nat → Int) {p c : Nat} (a : Nat → Int) (h : c ≠ p) : rep M p a c = M c := if_neg h
theorem rep_rep (M : Nat → Nat → Int) (p : Nat) (a b : Nat → Int) : rep (rep M p a) p b = rep M p b := by
  funext c; unfold rep; split <;> rfl
theorem rep_comm (M : Nat → Nat → Int) {p q : Nat} (a b : Nat → Int) (h : p ≠ q) : rep (rep M p a) q b = rep (rep M q b) p a := by
  funext c; unfold rep
  by_cases h1 : c = q
  · rw [if_pos h1, if_neg (by omega), if_pos h1]
  · by_cases h2 : c = p
    · rw [if_neg h1, if_pos h2, if_pos h2]
    · rw [if_neg h1, if_neg h2, if_neg h2, if_neg h1]
theorem rep_own (M : Nat → Nat → Int) (p : Nat) : rep M p (M p) = M := by
  funext c; unfold rep; split
  · rename_i h; rw [h]
  · rfl
def unskip (j p : Nat) : Nat := if p < j then p else p - 1
theorem minor_rep_same (M : Nat → Nat → Int) (p : Nat) (a : Nat → Int) : minor (rep M p a) p = minor M p := by
  funext c r
  show rep M p a (skip p c) (r + 1) = M (skip p c) (r + 1)
  rw [rep_ne _ _ (skip_ne p c)]
theorem minor_rep_ne (M : Nat → Nat → Int) {p j : Nat} (a : Nat → Int) (h : p ≠ j) : minor (rep M p a) j = rep (minor M j) (unskip j p) (fun r => a (r + 1)) := by
  funext c r
  show rep M p a (skip j c) (r + 1) = rep (minor M j) (unskip j p) (fun r => a (r + 1)) c r
  by_cases q : c = unskip j p
  · have e : skip j c = p := by
      unfold unskip at q; unfold skip
      split at q <;> split <;> omega
    rw [e, rep_same, q, rep_same]
  · have e : skip j c ≠ p := by
      intro z; apply q
      unfold skip at z; unfold unskip
      split at z <;> split <;> omega
    rw [rep_ne _ _ e, rep_ne _ _ q]
    rfl
theorem unskip_lt {j p m : Nat} (hp : p < m + 1) (hj : j < m + 1) (h : p ≠ j) : unskip j p < m := by unfold unskip; split <;> omega
theorem det_lin : ∀ {m : Nat} (M : Nat → Nat → Int) {p : Nat} (x y : Int) (a b : Nat → Int), p < m → det m (rep M p fun r => x * a r + y * b r) = x * det m (rep M p a) + y * det m (rep M p b)
  | 0, _, _, _, _, _, _, h => by omega
  | m + 1, M, p, x, y, a, b, hp => by
    unfold det
    rw [← sm_mul, ← sm_mul, ← sm_add]
    refine sm_congr fun j hj => ?_
    by_cases q : j = p
    · subst q
      rw [rep_same, rep_same, rep_same, minor_rep_same, minor_rep_same, minor_rep_same]
      grind
    · rw [rep_ne _ _ q, rep_ne _ _ q, rep_ne _ _ q, minor_rep_ne _ _ (Ne.symm q), minor_rep_ne _ _ (Ne.symm q), minor_rep_ne _ _ (Ne.symm q)]
      rw [det_lin (minor M j) x y (fun r => a (r + 1)) (fun r => b (r + 1)) (unskip_lt hp hj (Ne.symm q))]
      grind
theorem det_adj : ∀ {m : Nat} (M : Nat → Nat → Int) {p : Nat}, p + 1 < m → M p = M (p + 1) → det m M = 0
  | 0, _, _, h, _ => by omega
  | m + 1, M, p, hp, e => by
    have key : ∀ j, j < m + 1 → j ≠ p → j ≠ p + 1 → det m (minor M j) = 0 := fun j hj n1 n2 => by
      by_cases q : j < p
      · refine det_adj (minor M j) (p := p - 1) (by omega) ?_
        funext r
        show M (skip j (p - 1)) (r + 1) = M (skip j (p - 1 + 1)) (r + 1)
        have e1 : skip j (p - 1) = p := by unfold skip; split <;> omega
        have e2 : skip j (p - 1 + 1) = p + 1 := by unfold skip; split <;> omega
        rw [e1, e2, e]
      · refine det_adj (minor M j) (p := p) (by omega) ?_
        funext r
        show M (skip j p) (r + 1) = M (skip j (p + 1)) (r + 1)
        have e1 : skip j p = p := by unfold skip; split <;> omega
        have e2 : skip j (p + 1) = p + 1 := by unfold skip; split <;> omega
        rw [e1, e2, e]
    have e2 : minor M p = minor M (p + 1) := by
      funext c r
      show M (skip p c) (r + 1) = M (skip (p + 1) c) (r + 1)
      by_cases q : c = p
      · have a1 : skip p c = p + 1 := by unfold skip; split <;> omega
        have a2 : skip (p + 1) c = p := by unfold skip; split <;> omega
        rw [a1, a2, e]
      · have : skip p c = skip (p + 1) c := by unfold skip; split <;> split <;> omega
        rw [this]
    unfold det
    rw [sm_split p (by omega), sm_one (p + 1) (by omega) fun i hi ne => by
      by_cases q : i = p
      · rw [if_pos q]
      · rw [if_neg q, key i hi q ne]; simp]
    rw [if_neg (by omega), sgn_succ, e2, e]
    grind
theorem det_swap {m : Nat} (M : Nat → Nat → Int) {p : Nat} (hp : p + 1 < m) (a b : Nat → Int) : det m (rep (rep M p a) (p + 1) b) = - det m (rep (rep M p b) (p + 1) a) := by
  have h0 : ∀ x : Nat → Int, det m (rep (rep M p x) (p + 1) x) = 0 := fun x => det_adj _ hp (by rw [rep_same, rep_ne _ _ (by omega), rep_same])
  have h1 := h0 (fun r => 1 * a r + 1 * b r)
  rw [det_lin _ 1 1 a b (by omega : p + 1 < m), rep_comm _ _ _ (by omega), rep_comm _ _ b (by omega), det_lin _ 1 1 a b (by omega), det_lin _ 1 1 a b (by omega)] at h1
  have ha := h0 a
  have hb := h0 b
  rw [rep_comm _ _ _ (by omega)] at ha hb
  rw [rep_comm M (p := p) (q := p + 1) a b (by omega), rep_comm M (p := p) (q := p + 1) b a (by omega)]
  grind
theorem det_alt {m : Nat} : ∀ (d : Nat) (M : Nat → Nat → Int) {p : Nat}, p + d + 1 < m → M p = M (p + d + 1) → det m M = 0
  | 0, M, p, hp, e => det_adj M hp e
  | d + 1, M, p, hp, e => by
    have h := det_swap M (p := p + d + 1) hp (M (p + d + 1)) (M (p + d + 2))
    rw [rep_own] at h
    have e2 : rep M (p + d + 1 + 1) (M (p + d + 2)) = M := rep_own _ _
    rw [e2] at h
    rw [h, det_alt d (rep (rep M (p + d + 1) (M (p + d + 2))) (p + d + 1 + 1) (M (p + d + 1))) (p := p) (by omega) ?_]
    · rfl
    · rw [rep_ne _ _ (by omega), rep_ne _ _ (by omega), rep_ne _ _ (by omega), rep_same]
      exact e
theorem det_eq {m : Nat} (M : Nat → Nat → Int) {p q : Nat} (hp : p < m) (hq : q < m) (n : p ≠ q) (e : M p = M q) : det m M = 0 := by
  rcases Nat.lt_or_gt_of_ne n with h | h
  · exact det_alt (q - p - 1) M (p := p) (by omega) (by rw [e]; congr 1; omega)
  · exact det_alt (p - q - 1) M (p := q) (by omega) (by rw [← e]; congr 1; omega)
def unit (i : Nat) : Nat → Int := fun r => if r = i then 1 else 0
theorem det_one : ∀ m : Nat, det m (fun c => unit c) = 1
  | 0 => rfl
  | m + 1 => by
    unfold det
    rw [sm_one 0 (by omega) fun i hi ne => by
      have : unit i 0 = 0 := if_neg (Ne.symm ne)
      show sgn i * unit i 0 * _ = 0
      rw [this]; simp]
    have e : det m (minor (fun c => unit c) 0) = det m (fun c => unit c) := det_congr fun c r _ _ => by
      show (if r + 1 = skip 0 c then (1 : Int) else 0) = if r = c then 1 else 0
      have : skip 0 c = c + 1 := by unfold skip; split <;> omega
      rw [this]
      by_cases q : r = c
      · rw [if_pos q, if_pos (by omega)]
      · rw [if_neg q, if_neg (by omega)]
    rw [e, det_one m]
    simp [sgn, unit]
def fac : Nat → Nat
  | 0 => 1
  | n + 1 => (n + 1) * fac n
theorem det_abs : ∀ {m : Nat} {M : Nat → Nat → Int} {K : Nat}, (∀ c r, c < m → r < m → (M c r).natAbs ≤ K) → (det m M).natAbs ≤ fac m * K ^ m
  | 0, _, _, _ => by simp [det, fac]
  | m + 1, M, K, h => by
    unfold det
    have e : fac (m + 1) * K ^ (m + 1) = (m + 1) * (K * (fac m * K ^ m)) := by
      simp only [fac, Nat.pow_succ]
      grind
    rw [e]
    refine sm_abs fun j hj => ?_
    have h1 := det_abs (m := m) (M := minor M j) (K := K) fun c r hc hr => h _ _ (skip_lt hc) (by omega)
    have h2 := h j 0 hj (by omega)
    rw [Int.natAbs_mul, Int.natAbs_mul]
    have h3 : (sgn j).natAbs = 1 := by unfold sgn; split <;> rfl
    rw [h3, Nat.one_mul]
    exact Nat.mul_le_mul h2 h1
theorem det_sum {m : Nat} (M : Nat → Nat → Int) {p : Nat} (hp : p < m) : ∀ (n : Nat) (x : Nat → Int) (a : Nat → Nat → Int), det m (rep M p fun r => sm n fun k => x k * a k r) = sm n fun k => x k * det m (rep M p (a k))
  | 0, x, a => by
    have h := det_lin M 0 0 (fun _ => 0) (fun _ => 0) hp
    simp only [sm]
    simpa using h
  | n + 1, x, a => by
    simp only [sm]
    rw [← det_sum M hp n x a]
    have h := det_lin M 1 (x n) (fun r => sm n fun k => x k * a k r) (a n) hp
    simpa using h
end Lp
end
section
set_option linter.all false
set_option maxRecDepth 10000
namespace Lp
def enc (N : Nat) : Nat → (Nat → Nat) → Nat
  | 0, _ => 0
  | k + 1, s => enc N k s * N + s k
structure Run (m N hb b : Nat) (s : Nat → Nat → Nat) (p q : Nat → Nat) (t : Nat → Nat → Nat → Int) (w : Nat → Int) (z : Nat → Nat → Int) : Prop where
  pm : ∀ n, p n < m
  sN : ∀ n j, j < m → s n j < N
  wp : ∀ n, 0 < w n
  nxt : ∀ n j, s (n + 1) j = if j = p n then q n else s n j
  tr : ∀ n r c, r < m → r ≠ p n → w n * t (n + 1) r c = t n (p n) (q n) * t n r c - t n r (q n) * t n (p n) c
  w1 : ∀ n, w (n + 1) = t n (p n) (q n)
  zr : ∀ n c, w n * z (n + 1) c = t n (p n) (q n) * z n c - z n (q n) * t n (p n) c
  tb : ∀ n r j, r < m → j < m → t n r (s n j) = if r = j then w n else 0
  zb : ∀ n j, j < m → z n (s n j) = 0
  cross : ∀ n k c, z k c * w n - sm m (fun j => z k (s n j) * t n j c) = w k * z n c
  det : ∀ n k, (∀ j, j < m → s n j = s k j) → p n = p k ∧ q n = q k ∧ w n = w k ∧ (∀ c, z n c = z k c)
  fe : ∀ n r, r < m → 0 ≤ t n r b
  qh : ∀ n, q n < hb
  q1 : ∀ n, z n (q n) < 0
  q2 : ∀ n c, c < q n → 0 ≤ z n c
  p1 : ∀ n, 0 < t n (p n) (q n)
  p2 : ∀ n r, r < m → 0 < t n r (q n) → t n (p n) b * t n r (q n) < t n r b * t n (p n) (q n) ∨ (t n (p n) b * t n r (q n) = t n r b * t n (p n) (q n) ∧ s n (p n) ≤ s n r)
section
variable {m N hb b : Nat} {s : Nat → Nat → Nat} {p q : Nat → Nat} {t : Nat → Nat → Nat → Int} {w : Nat → Int} {z : Nat → Nat → Int}
def Per (m : Nat) (s : Nat → Nat → Nat) (P : Nat) : Prop := 0 < P ∧ ∀ n j, j < m → s (n + P) j = s n j
theorem Run.still (R : Run m N hb b s p q t w z) {P : Nat} (h : Per m s P) (n : Nat) : t n (p n) b = 0 := by
  have up : ∀ n, z n b * w (n + 1) ≤ z (n + 1) b * w n ∧ (0 < t n (p n) b → z n b * w (n + 1) < z (n + 1) b * w n) := fun n => by
    have e := R.zr n b
    rw [← R.w1] at e
    have f := R.fe n (p n) (R.pm n)
    have g := R.q1 n
    have k : 0 ≤ - z n (q n) * t n (p n) b := Int.mul_nonneg (by omega) f
    constructor
    · grind
    · intro hp
      have k2 : 0 < - z n (q n) * t n (p n) b := Int.mul_pos (by omega) hp
      grind
  have go : ∀ d, z n b * w (n + 1 + d) ≤ z (n + 1 + d) b * w n ∧ (0 < t n (p n) b → z n b * w (n + 1 + d) < z (n + 1 + d) b * w n) := by
    intro d
    induction d with
    | zero => exact up n
    | succ d ih =>
      have u := (up (n + 1 + d)).1
      have w0 := R.wp n
      have w1 := R.wp (n + 1 + d)
      have w2 := R.wp (n + 1 + d + 1)
      have ea : n + 1 + (d + 1) = n + 1 + d + 1 := by omega
      rw [ea]
      generalize z (n + 1 + d + 1) b = z2 at *
      generalize w (n + 1 + d + 1) = u2 at *
      generalize z (n + 1 + d) b = z1 at *
      generalize w (n + 1 + d) = u1 at *
      generalize z n b = z0 at *
      generalize w n = u0 at *
      constructor
      · have a1 : z0 * u1 * u2 ≤ z1 * u0 * u2 := Int.mul_le_mul_of_nonneg_right ih.1 (by omega)
        have a2 : z1 * u2 * u0 ≤ z2 * u1 * u0 := Int.mul_le_mul_of_nonneg_right u (by omega)
        have a3 : u1 * (z0 * u2) ≤ u1 * (z2 * u0) := by grind
        exact Int.le_of_mul_le_mul_left a3 w1
      · intro hp
        have a1 : z0 * u1 * u2 < z1 * u0 * u2 := Int.mul_lt_mul_of_pos_right (ih.2 hp) w2
        have a2 : z1 * u2 * u0 ≤ z2 * u1 * u0 := Int.mul_le_mul_of_nonneg_right u (by omega)
        have a3 : u1 * (z0 * u2) < u1 * (z2 * u0) := by grind
        exact Int.lt_of_mul_lt_mul_left a3 (by omega)
  have f := R.fe n (p n) (R.pm n)
  by_cases q0 : 0 < t n (p n) b
  · obtain ⟨P', rfl⟩ : ∃ P', P = P' + 1 := ⟨P - 1, by have := h.1; omega⟩
    have g := (go P').2 q0
    obtain ⟨_, _, e3, e4⟩ := R.det (n + (P' + 1)) n (h.2 n)
    have ea : n + 1 + P' = n + (P' + 1) := by omega
    rw [ea, e3, e4] at g
    omega
  · omega
theorem Run.zero (R : Run m N hb b s p q t w z) {P : Nat} (h : Per m s P) (c : Nat) : ∀ (d n r : Nat), r < m → s n r = c → (∀ j, j < m → s (n + d) j ≠ c) → t n r b = 0
  | 0, n, r, hr, e, k => absurd e (k r hr)
  | d + 1, n, r, hr, e, k => by
    by_cases g : r = p n
    · rw [g]; exact R.still h n
    · have e1 : s (n + 1) r = c := by rw [R.nxt, if_neg g]; exact e
      have ih := Run.zero R h c d (n + 1) r hr e1 fun j hj => by
        have : n + 1 + d = n + (d + 1) := by omega
        rw [this]
        exact k j hj
      have f := R.tr n r b hr g
      rw [ih, R.still h n] at f
      have f2 : t n (p n) (q n) * t n r b = 0 := by omega
      rcases Int.mul_eq_zero.mp f2 with y | y
      · have := R.p1 n; omega
      · exact y
end
end Lp
end
section
set_option linter.all false
set_option maxRecDepth 10000
namespace Lp
section
variable (m : Nat) (T0 : Nat → Nat → Int) (β : Nat → Nat)
def col (c : Nat) : Nat → Int := fun i => T0 i c
def Bm : Nat → Nat → Int := fun j => col T0 (β j)
def Wd : Int := det m (Bm T0 β)
def Tb (p c : Nat) : Int := det m (rep (Bm T0 β) p (col T0 c))
def Ad (p i : Nat) : Int := det m (rep (Bm T0 β) p (unit i))
def Inv : Prop := ∀ i k, i < m → k < m → sm m (fun j => T0 i (β j) * Ad m T0 β j k) = if i = k then Wd m T0 β else 0
def Tp (g : Nat → Int) (c : Nat) : Int := Wd m T0 β * g c - sm m (fun j => g (β j) * Tb m T0 β j c)
end
section
variable {m : Nat} {T0 : Nat → Nat → Int} {β γ : Nat → Nat} {g : Nat → Int}
theorem tb_sum {p : Nat} (hp : p < m) (c : Nat) : Tb m T0 β p c = sm m (fun i => T0 i c * Ad m T0 β p i) := by
  unfold Tb Ad
  rw [← det_sum (Bm T0 β) hp m (fun i => T0 i c) (fun i => unit i)]
  refine det_congr fun k r _ hr => ?_
  unfold rep
  by_cases q : k = p
  · rw [if_pos q, if_pos q]
    show T0 r c = sm m fun i => T0 i c * unit i r
    rw [sm_one r hr fun i _ ne => by
      have : unit i r = 0 := if_neg (Ne.symm ne)
      rw [this, Int.mul_zero]]
    have : unit r r = 1 := if_pos rfl
    rw [this, Int.mul_one]
  · rw [if_neg q, if_neg q]
theorem tb_basis {p j : Nat} (hp : p < m) (hj : j < m) : Tb m T0 β p (β j) = if p = j then Wd m T0 β else 0 := by
  unfold Tb Wd
  by_cases q : p = j
  · rw [if_pos q, ← q]
    congr 1
    exact rep_own _ _
  · rw [if_neg q]
    refine det_eq _ hp hj q ?_
    rw [rep_same, rep_ne _ _ (Ne.symm q)]
    rfl
theorem row_back (h : Inv m T0 β) {i : Nat} (hi : i < m) (c : Nat) : sm m (fun j => T0 i (β j) * Tb m T0 β j c) = Wd m T0 β * T0 i c := by
  have e : sm m (fun j => T0 i (β j) * Tb m T0 β j c) = sm m (fun l => sm m (fun j => T0 l c * (T0 i (β j) * Ad m T0 β j l))) := by
    rw [sm_swap]
    refine sm_congr fun j hj => ?_
    rw [tb_sum hj, ← sm_mul]
    exact sm_congr fun l _ => by grind
  rw [e, sm_one i hi fun l hl ne => by rw [sm_mul, h i l hi hl, if_neg (Ne.symm ne), Int.mul_zero], sm_mul, h i i hi hi, if_pos rfl, Int.mul_comm]
def upd (β : Nat → Nat) (p q : Nat) : Nat → Nat := fun j => if j = p then q else β j
theorem bm_upd {p q : Nat} : Bm T0 (upd β p q) = rep (Bm T0 β) p (col T0 q) := by
  funext j
  show col T0 (if j = p then q else β j) = if j = p then col T0 q else col T0 (β j)
  split <;> rfl
theorem wd_upd {p q : Nat} : Wd m T0 (upd β p q) = Tb m T0 β p q := by unfold Wd Tb; rw [bm_upd]
theorem tb_upd_same {p q c : Nat} : Tb m T0 (upd β p q) p c = Tb m T0 β p c := by unfold Tb; rw [bm_upd, rep_rep]
theorem ad_upd (h : Inv m T0 β) (hW : Wd m T0 β ≠ 0) {p q : Nat} (hp : p < m) (hq : Tb m T0 β p q ≠ 0) :
    (∀ r k, r < m → k < m → r ≠ p → Wd m T0 β * Ad m T0 (upd β p q) r k = Tb m T0 β p q * Ad m T0 β r k - Tb m T0 β r q * Ad m T0 β p k) ∧ Inv m T0 (upd β p q) := by
  let U : Nat → Nat → Int := fun r k => if r = p then Wd m T0 β * Ad m T0 β p k else Tb m T0 β p q * Ad m T0 β r k - Tb m T0 β r q * Ad m T0 β p k
  have hBU : ∀ i k, i < m → k < m → sm m (fun j => T0 i (upd β p q j) * U j k) = Wd m T0 β * Tb m T0 β p q * (if i = k then 1 else 0) := fun i k hi hk => by
    rw [sm_split p hp]
    have e0 : T0 i (upd β p q p) * U p k = T0 i q * (Wd m T0 β * Ad m T0 β p k) := by
      have a1 : upd β p q p = q := if_pos rfl
      have a2 : U p k = Wd m T0 β * Ad m T0 β p k := if_pos rfl
      rw [a1, a2]
    have e1 : sm m (fun j => if j = p then 0 else T0 i (upd β p q j) * U j k) = sm m (fun j => Tb m T0 β p q * (T0 i (β j) * Ad m T0 β j k) - Ad m T0 β p k * (T0 i (β j) * Tb m T0 β j q)) := sm_congr fun j hj => by
      by_cases y : j = p
      · rw [if_pos y, y]; grind
      · have a1 : upd β p q j = β j := if_neg y
        have a2 : U j k = Tb m T0 β p q * Ad m T0 β j k - Tb m T0 β j q * Ad m T0 β p k := if_neg y
        rw [if_neg y, a1, a2]; grind
    rw [e0, e1, sm_sub, sm_mul, sm_mul, h i k hi hk, row_back h hi q]
    split <;> grind
  have hAB : ∀ r j, r < m → j < m → sm m (fun i => Ad m T0 (upd β p q) r i * T0 i (upd β p q j)) = if r = j then Tb m T0 β p q else 0 := fun r j hr hj => by
    have := tb_basis (T0 := T0) (β := upd β p q) hr hj
    rw [tb_sum hr, wd_upd] at this
    rw [← this]
    exact sm_congr fun i _ => Int.mul_comm _ _
  have hU : ∀ r k, r < m → k < m → U r k = Wd m T0 β * Ad m T0 (upd β p q) r k := fun r k hr hk => by
    have e : sm m (fun j => sm m (fun i => Ad m T0 (upd β p q) r i * (T0 i (upd β p q j) * U j k))) = sm m (fun i => sm m (fun j => Ad m T0 (upd β p q) r i * (T0 i (upd β p q j) * U j k))) := sm_swap _ _ _
    have e1 : sm m (fun j => sm m (fun i => Ad m T0 (upd β p q) r i * (T0 i (upd β p q j) * U j k))) = Tb m T0 β p q * U r k := by
      rw [sm_one r hr fun j hj ne => ?_]
      · have : sm m (fun i => Ad m T0 (upd β p q) r i * (T0 i (upd β p q r) * U r k)) = sm m (fun i => Ad m T0 (upd β p q) r i * T0 i (upd β p q r)) * U r k := by
          rw [← sm_mulr]; exact sm_congr fun i _ => by grind
        rw [this, hAB r r hr hr, if_pos rfl]
      · have : sm m (fun i => Ad m T0 (upd β p q) r i * (T0 i (upd β p q j) * U j k)) = sm m (fun i => Ad m T0 (upd β p q) r i * T0 i (upd β p q j)) * U j k := by
          rw [← sm_mulr]; exact sm_congr fun i _ => by grind
        rw [this, hAB r j hr hj, if_neg (Ne.symm ne), Int.zero_mul]
    have e2 : sm m (fun i => sm m (fun j => Ad m T0 (upd β p q) r i * (T0 i (upd β p q j) * U j k))) = Tb m T0 β p q * (Wd m T0 β * Ad m T0 (upd β p q) r k) := by
      rw [sm_one k hk fun i hi ne => by rw [sm_mul, hBU i k hi hk, if_neg ne]; simp, sm_mul, hBU k k hk hk, if_pos rfl]
      grind
    rw [e1, e2] at e
    exact Int.eq_of_mul_eq_mul_left hq e
  refine ⟨fun r k hr hk ne => ?_, fun i k hi hk => ?_⟩
  · rw [← hU r k hr hk]
    exact if_neg ne
  · have e : sm m (fun j => T0 i (upd β p q j) * U j k) = Wd m T0 β * sm m (fun j => T0 i (upd β p q j) * Ad m T0 (upd β p q) j k) := by
      rw [← sm_mul]
      exact sm_congr fun j hj => by rw [hU j k hj hk]; grind
    rw [hBU i k hi hk] at e
    refine Int.eq_of_mul_eq_mul_left hW (e.symm.trans ?_)
    rw [wd_upd]
    split <;> grind
theorem tb_upd (h : Inv m T0 β) (hW : Wd m T0 β ≠ 0) {p q r : Nat} (hp : p < m) (hq : Tb m T0 β p q ≠ 0) (hr : r < m) (ne : r ≠ p) (c : Nat) :
    Wd m T0 β * Tb m T0 (upd β p q) r c = Tb m T0 β p q * Tb m T0 β r c - Tb m T0 β r q * Tb m T0 β p c := by
  rw [tb_sum hr, tb_sum (c := c) (β := β) hr, tb_sum (c := c) (β := β) hp, ← sm_mul, ← sm_mul, ← sm_mul, ← sm_sub]
  refine sm_congr fun k hk => ?_
  have := (ad_upd h hW hp hq).1 r k hr hk ne
  grind
theorem tp_upd (h : Inv m T0 β) (hW : Wd m T0 β ≠ 0) {p q : Nat} (hp : p < m) (hq : Tb m T0 β p q ≠ 0) (c : Nat) :
    Wd m T0 β * Tp m T0 (upd β p q) g c = Tb m T0 β p q * Tp m T0 β g c - Tp m T0 β g q * Tb m T0 β p c := by
  unfold Tp
  rw [wd_upd, Int.mul_sub]
  have e : Wd m T0 β * sm m (fun j => g (upd β p q j) * Tb m T0 (upd β p q) j c) = g q * (Wd m T0 β * Tb m T0 β p c) + sm m (fun j => Tb m T0 β p q * (g (β j) * Tb m T0 β j c) - Tb m T0 β p c * (g (β j) * Tb m T0 β j q)) := by
    rw [← sm_mul, sm_split p hp]
    have e0 : upd β p q p = q := if_pos rfl
    rw [e0, tb_upd_same]
    have e1 : sm m (fun j => if j = p then 0 else Wd m T0 β * (g (upd β p q j) * Tb m T0 (upd β p q) j c)) = sm m (fun j => Tb m T0 β p q * (g (β j) * Tb m T0 β j c) - Tb m T0 β p c * (g (β j) * Tb m T0 β j q)) := sm_congr fun j hj => by
      by_cases y : j = p
      · rw [if_pos y, y]; grind
      · have a1 : upd β p q j = β j := if_neg y
        have := tb_upd h hW hp hq hj y c
        rw [if_neg y, a1]; grind
    rw [e1]; grind
  rw [e, sm_sub, sm_mul, sm_mul]
  grind
theorem cross (h : Inv m T0 β) (c : Nat) : Tp m T0 γ g c * Wd m T0 β - sm m (fun j => Tp m T0 γ g (β j) * Tb m T0 β j c) = Wd m T0 γ * Tp m T0 β g c := by
  have key : sm m (fun j => sm m (fun l => g (γ l) * Tb m T0 γ l (β j)) * Tb m T0 β j c) = Wd m T0 β * sm m (fun l => g (γ l) * Tb m T0 γ l c) := by
    have e : sm m (fun j => sm m (fun l => g (γ l) * Tb m T0 γ l (β j)) * Tb m T0 β j c) = sm m (fun l => sm m (fun j => g (γ l) * (Tb m T0 γ l (β j) * Tb m T0 β j c))) := by
      rw [← sm_swap]
      refine sm_congr fun j _ => ?_
      rw [← sm_mulr]
      exact sm_congr fun l _ => by grind
    rw [e, ← sm_mul]
    refine sm_congr fun l hl => ?_
    rw [sm_mul]
    have e2 : sm m (fun j => Tb m T0 γ l (β j) * Tb m T0 β j c) = sm m (fun i => sm m (fun j => Ad m T0 γ l i * (T0 i (β j) * Tb m T0 β j c))) := by
      rw [← sm_swap]
      refine sm_congr fun j _ => ?_
      rw [tb_sum hl, ← sm_mulr]
      exact sm_congr fun i _ => by grind
    have e3 : sm m (fun i => sm m (fun j => Ad m T0 γ l i * (T0 i (β j) * Tb m T0 β j c))) = Wd m T0 β * Tb m T0 γ l c := by
      rw [tb_sum (c := c) hl, ← sm_mul]
      exact sm_congr fun i hi => by rw [sm_mul, row_back h hi]; grind
    rw [e2, e3]; grind
  unfold Tp
  have e : sm m (fun j => (Wd m T0 γ * g (β j) - sm m (fun l => g (γ l) * Tb m T0 γ l (β j))) * Tb m T0 β j c) = Wd m T0 γ * sm m (fun j => g (β j) * Tb m T0 β j c) - Wd m T0 β * sm m (fun l => g (γ l) * Tb m T0 γ l c) := by
    rw [← key, ← sm_mul, ← sm_sub]
    exact sm_congr fun j _ => by grind
  rw [e]; grind
theorem tb_abs {K : Nat} (hK : ∀ i c, i < m → (T0 i c).natAbs ≤ K) (p c : Nat) : (Tb m T0 β p c).natAbs ≤ fac m * K ^ m := by
  refine det_abs fun k r _ hr => ?_
  unfold rep
  split
  · exact hK r c hr
  · exact hK r _ hr
theorem wd_abs {K : Nat} (hK : ∀ i c, i < m → (T0 i c).natAbs ≤ K) : (Wd m T0 β).natAbs ≤ fac m * K ^ m := det_abs fun k r _ hr => hK r _ hr
theorem tp_abs {K : Nat} (hK : ∀ i c, i < m → (T0 i c).natAbs ≤ K) (hg : ∀ c, (g c).natAbs ≤ K) (c : Nat) : (Tp m T0 β g c).natAbs ≤ (m + 1) * (K * (fac m * K ^ m)) := by
  unfold Tp
  have h1 : (Wd m T0 β * g c).natAbs ≤ K * (fac m * K ^ m) := by
    rw [Int.natAbs_mul, Nat.mul_comm]
    exact Nat.mul_le_mul (hg c) (wd_abs hK)
  have h2 : (sm m (fun j => g (β j) * Tb m T0 β j c)).natAbs ≤ m * (K * (fac m * K ^ m)) := sm_abs fun j _ => by
    rw [Int.natAbs_mul]
    exact Nat.mul_le_mul (hg _) (tb_abs hK _ _)
  rw [Nat.succ_mul]
  omega
theorem first (h : ∀ j i, j < m → i < m → T0 i (β j) = if i = j then 1 else 0) : Wd m T0 β = 1 ∧ Inv m T0 β ∧ ∀ p c, p < m → Tb m T0 β p c = T0 p c := by
  have eB : ∀ j i, j < m → i < m → Bm T0 β j i = unit j i := fun j i hj hi => h j i hj hi
  have hW : Wd m T0 β = 1 := by
    unfold Wd
    rw [← det_one m]
    exact det_congr fun c r hc hr => eB c r hc hr
  have hA : ∀ p i, p < m → i < m → Ad m T0 β p i = if p = i then 1 else 0 := fun p i hp hi => by
    unfold Ad
    by_cases q : p = i
    · rw [if_pos q, ← det_one m]
      refine det_congr fun c r hc hr => ?_
      unfold rep
      split
      · rename_i y; rw [y, q]
      · exact eB c r hc hr
    · rw [if_neg q]
      have : det m (rep (Bm T0 β) p (unit i)) = det m (rep (fun c => unit c) p (unit i)) := det_congr fun c r hc hr => by
        unfold rep
        split
        · rfl
        · exact eB c r hc hr
      rw [this]
      refine det_eq _ hp hi q ?_
      rw [rep_same, rep_ne _ _ (Ne.symm q)]
  refine ⟨hW, fun i k hi hk => ?_, fun p c hp => ?_⟩
  · rw [sm_one i hi fun j hj ne => by rw [h j i hj hi, if_neg (Ne.symm ne), Int.zero_mul], h i i hi hi, if_pos rfl, hA i k hi hk, hW]
    split <;> rfl
  · rw [tb_sum hp, sm_one p hp fun i hi ne => by rw [hA p i hp hi, if_neg (Ne.symm ne), Int.mul_zero], hA p p hp hp, if_pos rfl, Int.mul_one]
theorem tp_first (h : ∀ j i, j < m → i < m → T0 i (β j) = if i = j then 1 else 0) (hg : ∀ j, j < m → g (β j) = 0) (c : Nat) : Tp m T0 β g c = g c := by
  unfold Tp
  rw [(first h).1, sm_zero fun j hj => by rw [hg j hj, Int.zero_mul]]
  omega
end
end Lp
end
section
set_option Elab.async false
set_option linter.all false
set_option maxRecDepth 100000
set_option maxHeartbeats 4000000
set_option exponentiation.threshold 100
namespace Sh
open PySem PySem.Spec L2 Sl PyProof.Rows
def m0 (s : Tbl) (r c : Nat) : Int := (s.rows.getD r []).getD c 0
def t0 (s : Tbl) (t c : Nat) : Int := (s.tops.getD t []).getD c 0
def b0 (s : Tbl) (j : Nat) : Nat := s.bas.getD j 0
theorem clr_at {w : Int} {col c : Nat} {row other : List Int} (h : row.length = other.length) (hc : c < other.length) : (clr w col row other).getD c 0 = (row.getD col 0 * other.getD c 0 - other.getD col 0 * row.getD c 0).fdiv w := by
  unfold clr
  rw [List.getD_eq_getElem?_getD, List.getElem?_map, List.getElem?_eq_getElem (by rw [List.length_zip]; omega)]
  simp only [Option.map_some, Option.getD_some, List.getElem_zip]
  rw [getD_at (d := 0) hc, getD_at (d := 0) (by omega : c < row.length)]
theorem clr_len {w : Int} {col : Nat} {row other : List Int} (h : row.length = other.length) : (clr w col row other).length = other.length := by
  unfold clr
  rw [List.length_map, List.length_zip]
  omega
section
variable {s : Tbl} {m wd : Nat}
theorem piv_row (l1 : s.rows.length = m) {a q r : Nat} (hr : r < m) : (pivT s a q).rows.getD r [] = if r = a then s.rows.getD a [] else clr s.w q (s.rows.getD a []) (s.rows.getD r []) := by
  have : r < s.rows.length := by omega
  show ((s.rows.zipIdx.map _).getD r []) = _
  rw [List.getD_eq_getElem?_getD, List.getElem?_map, List.getElem?_zipIdx, List.getElem?_eq_getElem this]
  simp only [Option.map_some, Option.getD_some, Nat.zero_add]
  rw [getD_at (d := []) this]
theorem piv_m0 (l1 : s.rows.length = m) (l2 : ∀ r ∈ s.rows, r.length = wd) {a q r c : Nat} (ha : a < m) (hr : r < m) (hc : c < wd) : m0 (pivT s a q) r c = if r = a then m0 s a c else (m0 s a q * m0 s r c - m0 s r q * m0 s a c).fdiv s.w := by
  have ea := l2 _ (getD_mem (d := []) (by omega : a < s.rows.length))
  have er := l2 _ (getD_mem (d := []) (by omega : r < s.rows.length))
  unfold m0
  rw [piv_row l1 hr]
  split
  · rfl
  · rw [clr_at (by rw [ea, er]) (by rw [er]; exact hc)]
theorem piv_t0 (l1 : s.rows.length = m) (l2 : ∀ r ∈ s.rows, r.length = wd) (l3 : s.tops.length = 2) (l4 : ∀ r ∈ s.tops, r.length = wd) {a q t c : Nat} (ha : a < m) (ht : t < 2) (hc : c < wd) : t0 (pivT s a q) t c = (m0 s a q * t0 s t c - t0 s t q * m0 s a c).fdiv s.w := by
  have ht2 : t < s.tops.length := by omega
  have ea := l2 _ (getD_mem (d := []) (by omega : a < s.rows.length))
  have er := l4 _ (getD_mem (d := []) ht2)
  unfold t0 m0
  have : (pivT s a q).tops.getD t [] = clr s.w q (s.rows.getD a []) (s.tops.getD t []) := by
    show ((s.tops.map _).getD t []) = _
    rw [List.getD_eq_getElem?_getD, List.getElem?_map, List.getElem?_eq_getElem ht2]
    simp only [Option.map_some, Option.getD_some]
    rw [getD_at (d := []) ht2]
  rw [this, clr_at (by rw [ea, er]) (by rw [er]; exact hc)]
theorem piv_b0 (l : s.bas.length = m) {a q : Nat} (ha : a < m) : b0 (pivT s a q) = Lp.upd (b0 s) a q := by
  funext j
  show (s.bas.set a q).getD j 0 = if j = a then q else s.bas.getD j 0
  rw [List.getD_eq_getElem?_getD, List.getD_eq_getElem?_getD, List.getElem?_set]
  by_cases e : j = a
  · subst e
    rw [if_pos rfl, if_pos (by omega), if_pos rfl]; rfl
  · rw [if_neg (Ne.symm e), if_neg e]
end
structure St (s0 : Tbl) (m wd : Nat) (σ : Int) (s : Tbl) : Prop where
  rl : s.rows.length = m
  tl : s.tops.length = 2
  bl : s.bas.length = m
  rw_ : ∀ r ∈ s.rows, r.length = wd
  tw : ∀ r ∈ s.tops, r.length = wd
  sg : σ = 1 ∨ σ = -1
  wp : 0 < s.w
  we : s.w = σ * Lp.Wd m (m0 s0) (b0 s)
  re : ∀ r c, r < m → c < wd → m0 s r c = σ * Lp.Tb m (m0 s0) (b0 s) r c
  te : ∀ t c, t < 2 → c < wd → t0 s t c = σ * Lp.Tp m (m0 s0) (b0 s) (t0 s0 t) c
  iv : Lp.Inv m (m0 s0) (b0 s)
  bn : ∀ j, j < m → b0 s j + 1 < wd
  fe : ∀ r, r < m → 0 ≤ m0 s r (wd - 1)
section
variable {s0 s : Tbl} {m wd : Nat} {σ : Int}
theorem St.wW (h : St s0 m wd σ s) : Lp.Wd m (m0 s0) (b0 s) = σ * s.w ∧ Lp.Wd m (m0 s0) (b0 s) ≠ 0 := by
  have e := h.we
  have p := h.wp
  rcases h.sg with g | g <;> rw [g] at e ⊢ <;> omega
theorem St.exact (h : St s0 m wd σ s) {a q r c : Nat} (ha : a < m) (hq : q < wd) (hr : r < m) (hc : c < wd) (ne : r ≠ a) (hp : m0 s a q ≠ 0) :
    m0 s a q * m0 s r c - m0 s r q * m0 s a c = s.w * (σ * Lp.Tb m (m0 s0) (Lp.upd (b0 s) a q) r c) := by
  have hT : Lp.Tb m (m0 s0) (b0 s) a q ≠ 0 := fun z => hp (by rw [h.re a q ha hq, z, Int.mul_zero])
  have e := Lp.tb_upd h.iv h.wW.2 ha hT hr ne c
  rw [h.re a q ha hq, h.re r c hr hc, h.re r q hr hq, h.re a c ha hc, h.we]
  rcases h.sg with g | g <;> rw [g] <;> grind
theorem St.exactT (h : St s0 m wd σ s) {a q t c : Nat} (ha : a < m) (hq : q < wd) (ht : t < 2) (hc : c < wd) (hp : m0 s a q ≠ 0) :
    m0 s a q * t0 s t c - t0 s t q * m0 s a c = s.w * (σ * Lp.Tp m (m0 s0) (Lp.upd (b0 s) a q) (t0 s0 t) c) := by
  have hT : Lp.Tb m (m0 s0) (b0 s) a q ≠ 0 := fun z => hp (by rw [h.re a q ha hq, z, Int.mul_zero])
  have e := Lp.tp_upd (g := t0 s0 t) h.iv h.wW.2 ha hT c
  rw [h.re a q ha hq, h.te t c ht hc, h.te t q ht hq, h.re a c ha hc, h.we]
  rcases h.sg with g | g <;> rw [g] <;> grind
theorem St.pivot (h : St s0 m wd σ s) {s1 : Tbl} {ε : Int} (hε : ε = 1 ∨ ε = -1) {a q : Nat} (ha : a < m) (hq : q + 1 < wd)
    (l1 : s1.rows.length = m) (l2 : ∀ r ∈ s1.rows, r.length = wd) (hm : ∀ r c, m0 s1 r c = if r = a then ε * m0 s a c else m0 s r c) (e1 : s1.tops = s.tops) (e2 : s1.bas = s.bas) (e3 : s1.w = s.w) (hp : 0 < ε * m0 s a q)
    (hf : ∀ r, r < m → r ≠ a → 0 ≤ ε * (m0 s a q * m0 s r (wd - 1) - m0 s r q * m0 s a (wd - 1))) (hfa : 0 ≤ ε * m0 s a (wd - 1)) :
    St s0 m wd (ε * σ) (pivT s1 a q) ∧
    (∀ c, c < wd → m0 (pivT s1 a q) a c = ε * m0 s a c) ∧
    (∀ r c, r < m → c < wd → r ≠ a → s.w * m0 (pivT s1 a q) r c = ε * (m0 s a q * m0 s r c - m0 s r q * m0 s a c)) ∧
    (∀ t c, t < 2 → c < wd → s.w * t0 (pivT s1 a q) t c = ε * (m0 s a q * t0 s t c - t0 s t q * m0 s a c)) := by
  have hp0 : m0 s a q ≠ 0 := fun z => by rw [z, Int.mul_zero] at hp; omega
  have hq' : q < wd := by omega
  have w0 : s.w ≠ 0 := by have := h.wp; omega
  have hT : Lp.Tb m (m0 s0) (b0 s) a q ≠ 0 := fun z => hp0 (by rw [h.re a q ha hq', z, Int.mul_zero])
  have hb : b0 (pivT s1 a q) = Lp.upd (b0 s) a q := by
    rw [piv_b0 (by rw [e2]; exact h.bl) ha]
    unfold b0; rw [e2]
  have tt : ∀ t c, t0 s1 t c = t0 s t c := fun t c => by unfold t0; rw [e1]
  have ra : ∀ c, c < wd → m0 (pivT s1 a q) a c = ε * m0 s a c := fun c hc => by rw [piv_m0 l1 l2 ha ha hc, if_pos rfl, hm, if_pos rfl]
  have rr : ∀ r c, r < m → c < wd → r ≠ a → m0 (pivT s1 a q) r c = ε * (σ * Lp.Tb m (m0 s0) (Lp.upd (b0 s) a q) r c) := fun r c hr hc ne => by
    rw [piv_m0 l1 l2 ha hr hc, if_neg ne, hm, hm, hm, hm, if_pos rfl, if_pos rfl, if_neg ne, if_neg ne, e3]
    have e := h.exact ha hq' hr hc ne hp0
    have : ε * m0 s a q * m0 s r c - m0 s r q * (ε * m0 s a c) = s.w * (ε * (σ * Lp.Tb m (m0 s0) (Lp.upd (b0 s) a q) r c)) := by grind
    rw [this, Int.mul_fdiv_cancel_left _ w0]
  have rt : ∀ t c, t < 2 → c < wd → t0 (pivT s1 a q) t c = ε * (σ * Lp.Tp m (m0 s0) (Lp.upd (b0 s) a q) (t0 s0 t) c) := fun t c ht hc => by
    rw [piv_t0 l1 l2 (by rw [e1]; exact h.tl) (by rw [e1]; exact h.tw) ha ht hc, tt, tt, hm, hm, if_pos rfl, if_pos rfl, e3]
    have e := h.exactT ha hq' ht hc hp0
    have : ε * m0 s a q * t0 s t c - t0 s t q * (ε * m0 s a c) = s.w * (ε * (σ * Lp.Tp m (m0 s0) (Lp.upd (b0 s) a q) (t0 s0 t) c)) := by grind
    rw [this, Int.mul_fdiv_cancel_left _ w0]
  have k2 : ∀ r c, r < m → c < wd → r ≠ a → s.w * m0 (pivT s1 a q) r c = ε * (m0 s a q * m0 s r c - m0 s r q * m0 s a c) := fun r c hr hc ne => by
    rw [rr r c hr hc ne, h.exact ha hq' hr hc ne hp0]; grind
  have k3 : ∀ t c, t < 2 → c < wd → s.w * t0 (pivT s1 a q) t c = ε * (m0 s a q * t0 s t c - t0 s t q * m0 s a c) := fun t c ht hc => by
    rw [rt t c ht hc, h.exactT ha hq' ht hc hp0]; grind
  have hw1 : (pivT s1 a q).w = ε * m0 s a q := by
    show m0 s1 a q = _
    rw [hm, if_pos rfl]
  refine ⟨⟨?_, ?_, ?_, fun r hr => ?_, fun r hr => ?_, ?_, ?_, ?_, fun r c hr hc => ?_, fun t c ht hc => ?_, ?_, fun j hj => ?_, fun r hr => ?_⟩, ra, k2, k3⟩
  · simp [pivT, l1]
  · simp [pivT, e1, h.tl]
  · simp [pivT, e2, h.bl]
  · obtain ⟨⟨r', i⟩, hri, rfl⟩ := List.mem_map.mp hr
    have er := l2 _ (List.fst_mem_of_mem_zipIdx hri)
    have ea := l2 _ (getD_mem (d := []) (by omega : a < s1.rows.length))
    dsimp only
    split
    · exact ea
    · rw [clr_len (by rw [ea]; exact er.symm)]; exact er
  · obtain ⟨r', hri, rfl⟩ := List.mem_map.mp hr
    have er := h.tw r' (by rw [← e1]; exact hri)
    have ea := l2 _ (getD_mem (d := []) (by omega : a < s1.rows.length))
    rw [clr_len (by rw [ea]; exact er.symm)]; exact er
  · rcases hε with g | g <;> rcases h.sg with g2 | g2 <;> rw [g, g2] <;> decide
  · rw [hw1]; exact hp
  · rw [hw1, hb, Lp.wd_upd, h.re a q ha hq', Int.mul_assoc]
  · rw [hb]
    by_cases e : r = a
    · subst e
      rw [ra c hc, Lp.tb_upd_same, h.re r c hr hc, Int.mul_assoc]
    · rw [rr r c hr hc e, Int.mul_assoc]
  · rw [hb, rt t c ht hc, Int.mul_assoc]
  · rw [hb]
    exact (Lp.ad_upd h.iv h.wW.2 ha hT).2
  · rw [hb]
    show (if j = a then q else b0 s j) + 1 < wd
    split
    · exact hq
    · exact h.bn j hj
  · have hb' : wd - 1 < wd := by omega
    by_cases e : r = a
    · subst e
      rw [ra _ hb']; exact hfa
    · have e1 := k2 r _ hr hb' e
      have e2 := hf r hr e
      have := h.wp
      rw [← e1] at e2
      rcases Int.lt_or_le (m0 (pivT s1 a q) r (wd - 1)) 0 with k | k
      · have := Int.mul_neg_of_pos_of_neg h.wp k
        omega
      · exact k
end
structure Bd (s0 : Tbl) (m wd K : Nat) : Prop where
  k1 : 1 ≤ K
  ml : m ≤ 1000
  wl : wd ≤ 1000
  w0 : 0 < wd
  r : ∀ i c, (m0 s0 i c).natAbs ≤ K
  t : ∀ t c, (t0 s0 t c).natAbs ≤ K
  h : (m + 1) * (K * (Lp.fac m * K ^ m)) < half
section
variable {s0 s : Tbl} {m wd K : Nat} {σ : Int}
theorem Bd.h1 (b : Bd s0 m wd K) : Lp.fac m * K ^ m < half := by
  have h1 : Lp.fac m * K ^ m ≤ K * (Lp.fac m * K ^ m) := Nat.le_mul_of_pos_left _ b.k1
  have h2 : K * (Lp.fac m * K ^ m) ≤ (m + 1) * (K * (Lp.fac m * K ^ m)) := Nat.le_mul_of_pos_left _ (by omega)
  have := b.h
  omega
theorem abs_sg {σ x : Int} (h : σ = 1 ∨ σ = -1) : (σ * x).natAbs = x.natAbs := by
  rcases h with g | g <;> rw [g] <;> omega
theorem mem_m0 {s : Tbl} {r : List Int} {x : Int} (hr : r ∈ s.rows) (hx : x ∈ r) : ∃ i c, i < s.rows.length ∧ c < r.length ∧ x = m0 s i c := by
  obtain ⟨i, hi, rfl⟩ := List.mem_iff_getElem.mp hr
  obtain ⟨c, hc, rfl⟩ := List.mem_iff_getElem.mp hx
  exact ⟨i, c, hi, hc, by unfold m0; rw [← getD_at hi, ← getD_at hc]⟩
theorem mem_t0 {s : Tbl} {r : List Int} {x : Int} (hr : r ∈ s.tops) (hx : x ∈ r) : ∃ i c, i < s.tops.length ∧ c < r.length ∧ x = t0 s i c := by
  obtain ⟨i, hi, rfl⟩ := List.mem_iff_getElem.mp hr
  obtain ⟨c, hc, rfl⟩ := List.mem_iff_getElem.mp hx
  exact ⟨i, c, hi, hc, by unfold t0; rw [← getD_at hi, ← getD_at hc]⟩
theorem St.half (h : St s0 m wd σ s) (b : Bd s0 m wd K) : HalfT s := by
  have b1 := b.h1
  have b2 := b.h
  refine ⟨fun r hr x hx => ?_, fun r hr x hx => ?_, ?_⟩
  · obtain ⟨i, c, hi, hc, rfl⟩ := mem_m0 hr hx
    rw [h.re i c (by rw [← h.rl]; exact hi) (by rw [← h.rw_ r hr]; exact hc), abs_sg h.sg]
    exact Nat.lt_of_le_of_lt (Lp.tb_abs (fun i c _ => b.r i c) _ _) b1
  · obtain ⟨i, c, hi, hc, rfl⟩ := mem_t0 hr hx
    rw [h.te i c (by rw [← h.tl]; exact hi) (by rw [← h.tw r hr]; exact hc), abs_sg h.sg]
    exact Nat.lt_of_le_of_lt (Lp.tp_abs (fun i c _ => b.r i c) (fun c => b.t i c) _) b2
  · rw [h.we, abs_sg h.sg]
    exact Nat.lt_of_le_of_lt (Lp.wd_abs fun i c _ => b.r i c) b1
end
end Sh
end
section
set_option Elab.async false
set_option linter.all false
set_option maxRecDepth 100000
set_option maxHeartbeats 4000000
set_option exponentiation.threshold 100
namespace Sh
open PySem PySem.Spec L2 Sl PyProof.Rows
def Lx (s : Tbl) (b q a r : Nat) : Prop := m0 s a b * m0 s r q < m0 s r b * m0 s a q ∨ (m0 s a b * m0 s r q = m0 s r b * m0 s a q ∧ b0 s a ≤ b0 s r)
theorem ratio {ib iq fb fq rb rq : Int} (hf : 0 < fq) (hi : 0 < iq) (hr : 0 < rq) (h1 : ib * fq ≤ fb * iq) (h2 : fb * rq ≤ rb * fq) : ib * rq ≤ rb * iq ∧ ((ib * fq < fb * iq ∨ fb * rq < rb * fq) → ib * rq < rb * iq) := by
  have a1 : ib * fq * rq ≤ fb * iq * rq := Int.mul_le_mul_of_nonneg_right h1 (by omega)
  have a2 : fb * rq * iq ≤ rb * fq * iq := Int.mul_le_mul_of_nonneg_right h2 (by omega)
  have e1 : ib * fq * rq = ib * rq * fq := by grind
  have e2 : fb * iq * rq = fb * rq * iq := by grind
  have e3 : rb * fq * iq = rb * iq * fq := by grind
  constructor
  · exact Int.le_of_mul_le_mul_right (a := fq) (by omega) hf
  · intro k
    refine Int.lt_of_mul_lt_mul_right (a := fq) ?_ (by omega)
    rcases k with k | k
    · have := Int.mul_lt_mul_of_pos_right k hr
      omega
    · have := Int.mul_lt_mul_of_pos_right k hi
      omega
theorem Lx.trans {s : Tbl} {b q i f r : Nat} (pi : 0 < m0 s i q) (pf : 0 < m0 s f q) (pr : 0 < m0 s r q) (h1 : Lx s b q i f) (h2 : Lx s b q f r) : Lx s b q i r := by
  have k1 : m0 s i b * m0 s f q ≤ m0 s f b * m0 s i q := by rcases h1 with h | h <;> omega
  have k2 : m0 s f b * m0 s r q ≤ m0 s r b * m0 s f q := by rcases h2 with h | h <;> omega
  obtain ⟨a, c⟩ := ratio pf pi pr k1 k2
  rcases h1 with h1 | ⟨_, h1⟩
  · exact .inl (c (.inl h1))
  · rcases h2 with h2 | ⟨_, h2⟩
    · exact .inl (c (.inr h2))
    · by_cases e : m0 s i b * m0 s r q = m0 s r b * m0 s i q
      · exact .inr ⟨e, by omega⟩
      · exact .inl (by omega)
theorem lastOf_m0 {s : Tbl} {m wd r : Nat} (l1 : s.rows.length = m) (l2 : ∀ r ∈ s.rows, r.length = wd) (hr : r < m) : lastOf (s.rows.getD r []) = m0 s r (wd - 1) := by
  unfold lastOf m0
  rw [l2 _ (getD_mem (by omega))]
def Found (s : Tbl) (m b q : Nat) (S : Nat → Prop) : Option Nat → Prop
  | none => ∀ r, S r → m0 s r q ≤ 0
  | some f => f < m ∧ 0 < m0 s f q ∧ ∀ r, S r → 0 < m0 s r q → Lx s b q f r
theorem firstRow_found {s : Tbl} {m wd q : Nat} (l1 : s.rows.length = m) (l2 : ∀ r ∈ s.rows, r.length = wd) : Found s m (wd - 1) q (fun r => r < m) (firstRow s q) := by
  have key : ∀ (L : List (List Int × Nat)) (acc : Option Nat) (S : Nat → Prop), (∀ p ∈ L, p.2 < m ∧ p.1 = s.rows.getD p.2 []) → Found s m (wd - 1) q S acc → Found s m (wd - 1) q (fun r => S r ∨ ∃ p ∈ L, p.2 = r) (L.foldl (rowStep s q) acc) := by
    intro L
    induction L with
    | nil =>
      intro acc S _ h
      cases acc with
      | none => exact fun r hr => h r (by simpa using hr)
      | some f => exact ⟨h.1, h.2.1, fun r hr => h.2.2 r (by simpa using hr)⟩
    | cons p L ih =>
      intro acc S hL h
      rw [List.foldl_cons]
      obtain ⟨hp, hpe⟩ := hL p (List.mem_cons_self ..)
      have em : p.1.getD q 0 = m0 s p.2 q := by rw [hpe]; rfl
      have stp : Found s m (wd - 1) q (fun r => S r ∨ r = p.2) (rowStep s q acc p) := by
        unfold rowStep
        rw [em]
        by_cases pos : 0 < m0 s p.2 q
        · rw [decide_eq_true pos, Bool.true_and]
          cases acc with
          | none =>
            refine ⟨hp, pos, fun r hr hr2 => ?_⟩
            rcases hr with hr | hr
            · have := h r hr; omega
            · subst hr; exact .inr ⟨rfl, Nat.le_refl _⟩
          | some f =>
            obtain ⟨hf, pf, hS⟩ := h
            show Found s m (wd - 1) q _ (bif stopsB s p.2 f q then some p.2 else some f)
            have es : stopsB s p.2 f q = (decide (m0 s p.2 (wd - 1) * m0 s f q < m0 s f (wd - 1) * m0 s p.2 q) || ((m0 s p.2 (wd - 1) * m0 s f q == m0 s f (wd - 1) * m0 s p.2 q) && decide (b0 s p.2 < b0 s f))) := by
              unfold stopsB
              rw [lastOf_m0 l1 l2 hp, lastOf_m0 l1 l2 hf]
              rfl
            cases hst : stopsB s p.2 f q with
            | true =>
              have hl : Lx s (wd - 1) q p.2 f := by
                rw [es] at hst
                simp only [Bool.or_eq_true, Bool.and_eq_true, decide_eq_true_eq, beq_iff_eq] at hst
                rcases hst with k | ⟨k1, k2⟩
                · exact .inl k
                · exact .inr ⟨k1, by omega⟩
              refine ⟨hp, pos, fun r hr hr2 => ?_⟩
              rcases hr with hr | hr
              · exact hl.trans pos pf hr2 (hS r hr hr2)
              · subst hr; exact .inr ⟨rfl, Nat.le_refl _⟩
            | false =>
              have hl : Lx s (wd - 1) q f p.2 := by
                rw [es] at hst
                simp only [Bool.or_eq_false_iff, Bool.and_eq_false_iff, decide_eq_false_iff_not, beq_eq_false_iff_ne] at hst
                obtain ⟨k1, k2⟩ := hst
                by_cases e : m0 s p.2 (wd - 1) * m0 s f q = m0 s f (wd - 1) * m0 s p.2 q
                · rcases k2 with k2 | k2
                  · exact absurd e k2
                  · exact .inr ⟨e.symm, by omega⟩
                · exact .inl (by omega)
              refine ⟨hf, pf, fun r hr hr2 => ?_⟩
              rcases hr with hr | hr
              · exact hS r hr hr2
              · subst hr; exact hl
        · rw [decide_eq_false pos, Bool.false_and]
          show Found s m (wd - 1) q _ acc
          cases acc with
          | none =>
            intro r hr
            rcases hr with hr | hr
            · exact h r hr
            · subst hr; omega
          | some f =>
            refine ⟨h.1, h.2.1, fun r hr hr2 => ?_⟩
            rcases hr with hr | hr
            · exact h.2.2 r hr hr2
            · subst hr; exact absurd hr2 pos
      have := ih _ _ (fun p' hp' => hL p' (List.mem_cons_of_mem _ hp')) stp
      have eS : (fun r => (S r ∨ r = p.2) ∨ ∃ p' ∈ L, p'.2 = r) = fun r => S r ∨ ∃ p' ∈ p :: L, p'.2 = r := by
        funext r
        simp only [List.mem_cons, exists_eq_or_imp, eq_iff_iff]
        constructor
        · rintro ((k | k) | k)
          · exact .inl k
          · exact .inr (.inl k.symm)
          · exact .inr (.inr k)
        · rintro (k | k | k)
          · exact .inl (.inl k)
          · exact .inl (.inr k.symm)
          · exact .inr k
      rw [eS] at this
      exact this
  have hz : ∀ p ∈ s.rows.zipIdx, p.2 < m ∧ p.1 = s.rows.getD p.2 [] := by
    rintro ⟨r, i⟩ hp
    have hir := List.mem_zipIdx_iff_getElem?.mp hp
    obtain ⟨h1, h2⟩ := List.getElem?_eq_some_iff.mp hir
    exact ⟨by rw [← l1]; exact h1, by rw [← h2]; exact getD_at h1⟩
  have h := key s.rows.zipIdx none (fun _ => False) hz fun _ z => z.elim
  have eS : (fun r => False ∨ ∃ p ∈ s.rows.zipIdx, p.2 = r) = fun r => r < m := by
    funext r
    simp only [false_or, eq_iff_iff]
    constructor
    · rintro ⟨p, hp, rfl⟩
      exact (hz p hp).1
    · intro hr
      have hr2 : r < s.rows.length := by omega
      exact ⟨(s.rows[r], r), List.mem_zipIdx_iff_getElem?.mpr (List.getElem?_eq_getElem hr2), rfl⟩
  rw [eS] at h
  exact h
section
variable {s0 s : Tbl} {m wd : Nat} {σ : Int} {K : Par}
theorem St.found (h : St s0 m wd σ s) {q a : Nat} (e : firstRow s q = some a) : a < m ∧ 0 < m0 s a q ∧ ∀ r, r < m → 0 < m0 s r q → Lx s (wd - 1) q a r := by
  have := firstRow_found (q := q) h.rl h.rw_
  rw [e] at this
  exact this
theorem St.step (h : St s0 m wd σ s) {a q : Nat} (hq : q + 1 < wd) (e : firstRow s q = some a) :
    St s0 m wd σ (pivT s a q) ∧
    (∀ c, c < wd → m0 (pivT s a q) a c = m0 s a c) ∧
    (∀ r c, r < m → c < wd → r ≠ a → s.w * m0 (pivT s a q) r c = m0 s a q * m0 s r c - m0 s r q * m0 s a c) ∧
    (∀ t c, t < 2 → c < wd → s.w * t0 (pivT s a q) t c = m0 s a q * t0 s t c - t0 s t q * m0 s a c) := by
  obtain ⟨ha, hp, hl⟩ := h.found e
  obtain ⟨k1, k2, k3, k4⟩ := h.pivot (s1 := s) (ε := 1) (.inl rfl) ha hq h.rl h.rw_ (fun r c => by split <;> simp_all) rfl rfl rfl (by omega) (fun r hr ne => by
    rw [Int.one_mul]
    have f1 := h.fe r hr
    have f2 := h.fe a ha
    by_cases pos : 0 < m0 s r q
    · have := hl r hr pos
      have : m0 s a (wd - 1) * m0 s r q ≤ m0 s r (wd - 1) * m0 s a q := by rcases this with k | k <;> omega
      have e1 : m0 s a q * m0 s r (wd - 1) = m0 s r (wd - 1) * m0 s a q := Int.mul_comm _ _
      have e2 : m0 s r q * m0 s a (wd - 1) = m0 s a (wd - 1) * m0 s r q := Int.mul_comm _ _
      omega
    · have a1 : 0 ≤ m0 s a q * m0 s r (wd - 1) := Int.mul_nonneg (by omega) f1
      have a2 : 0 ≤ (- m0 s r q) * m0 s a (wd - 1) := Int.mul_nonneg (by omega) f2
      rw [Int.neg_mul] at a2
      omega) (by rw [Int.one_mul]; exact h.fe a ha)
  simp only [Int.one_mul] at k1 k2 k3 k4
  exact ⟨k1, k2, k3, k4⟩
theorem b0_out {s : Tbl} {m j : Nat} (l : s.bas.length = m) (hj : m ≤ j) : b0 s j = 0 := by
  unfold b0
  rw [List.getD_eq_getElem?_getD, List.getElem?_eq_none (by omega)]; rfl
theorem m0_out {s : Tbl} {m wd r c : Nat} (l1 : s.rows.length = m) (l2 : ∀ r ∈ s.rows, r.length = wd) (hr : r < m) (hc : wd ≤ c) : m0 s r c = 0 := by
  unfold m0
  rw [List.getD_eq_getElem?_getD (a := 0), List.getElem?_eq_none (by rw [l2 _ (getD_mem (by omega))]; exact hc)]; rfl
theorem t0_out {s : Tbl} {wd t c : Nat} (l1 : s.tops.length = 2) (l2 : ∀ r ∈ s.tops, r.length = wd) (ht : t < 2) (hc : wd ≤ c) : t0 s t c = 0 := by
  unfold t0
  rw [List.getD_eq_getElem?_getD (a := 0), List.getElem?_eq_none (by rw [l2 _ (getD_mem (by omega))]; exact hc)]; rfl
theorem St.ext {s' : Tbl} (h : St s0 m wd σ s) (h' : St s0 m wd σ s') (e : ∀ j, j < m → b0 s j = b0 s' j) : s = s' := by
  have eb : b0 s = b0 s' := by
    funext j
    by_cases q : j < m
    · exact e j q
    · rw [b0_out h.bl (by omega), b0_out h'.bl (by omega)]
  have ew : s.w = s'.w := by rw [h.we, h'.we, eb]
  have er : s.rows = s'.rows := by
    refine List.ext_getElem (by rw [h.rl, h'.rl]) fun i h1 h2 => ?_
    have l1 := h.rw_ _ (List.getElem_mem h1)
    have l2 := h'.rw_ _ (List.getElem_mem h2)
    refine List.ext_getElem (by rw [l1, l2]) fun c g1 g2 => ?_
    have i1 : i < m := by rw [← h.rl]; exact h1
    have c1 : c < wd := by omega
    have this : m0 s i c = m0 s' i c := by rw [h.re i c i1 c1, h'.re i c i1 c1, eb]
    unfold m0 at this
    rw [← getD_at h1, ← getD_at h2, ← getD_at g1, ← getD_at g2] at this
    exact this
  have et : s.tops = s'.tops := by
    refine List.ext_getElem (by rw [h.tl, h'.tl]) fun i h1 h2 => ?_
    have l1 := h.tw _ (List.getElem_mem h1)
    have l2 := h'.tw _ (List.getElem_mem h2)
    refine List.ext_getElem (by rw [l1, l2]) fun c g1 g2 => ?_
    have i1 : i < 2 := by rw [← h.tl]; exact h1
    have c1 : c < wd := by omega
    have this : t0 s i c = t0 s' i c := by rw [h.te i c i1 c1, h'.te i c i1 c1, eb]
    unfold t0 at this
    rw [← getD_at h1, ← getD_at h2, ← getD_at g1, ← getD_at g2] at this
    exact this
  have ebl : s.bas = s'.bas := by
    refine List.ext_getElem (by rw [h.bl, h'.bl]) fun i h1 h2 => ?_
    have := congrFun eb i
    unfold b0 at this
    rw [← getD_at h1, ← getD_at h2] at this
    exact this
  cases s; cases s'
  simp only at ew er et ebl
  subst ew er et ebl
  rfl
theorem St.basis (h : St s0 m wd σ s) {r j : Nat} (hr : r < m) (hj : j < m) : m0 s r (b0 s j) = if r = j then s.w else 0 := by
  rw [h.re r _ hr (by have := h.bn j hj; omega), Lp.tb_basis hr hj, h.we]
  split
  · rfl
  · rw [Int.mul_zero]
end
end Sh
end
section
set_option Elab.async false
set_option linter.all false
set_option maxRecDepth 100000
set_option maxHeartbeats 4000000
set_option exponentiation.threshold 100
namespace Sh
open PySem PySem.Spec L2 Sl PyProof.Rows
section
variable {s0 s : Tbl} {m wd : Nat} {σ : Int} {K : Par}
end
end Sh
end
section
set_option Elab.async false
set_option linter.all false
set_option maxRecDepth 100000
set_option maxHeartbeats 4000000
set_option exponentiation.threshold 100
namespace Sh
open PySem PySem.Spec L2 Sl PyProof.Rows
section
variable {s0 s : Tbl} {m wd H : Nat} {σ : Int}
end
theorem sm_app (f : Nat → Int) (a : Nat) : ∀ b : Nat, Lp.sm (a + b) f = Lp.sm a f + Lp.sm b (fun i => f (a + i))
  | 0 => by simp [Lp.sm]
  | b + 1 => by
    show Lp.sm (a + b) f + f (a + b) = _
    rw [sm_app f a b]
    show _ = Lp.sm a f + (Lp.sm b (fun i => f (a + i)) + f (a + b))
    omega
section
variable {α : Type}
theorem getD_app1 {a b : List α} {i : Nat} {d : α} (h : i < a.length) : (a ++ b).getD i d = a.getD i d := by
  rw [List.getD_eq_getElem?_getD, List.getElem?_append_left h, ← List.getD_eq_getElem?_getD]
theorem getD_app2 {a b : List α} {n i : Nat} {d : α} (h : a.length = n) : (a ++ b).getD (n + i) d = b.getD i d := by
  rw [List.getD_eq_getElem?_getD, List.getElem?_append_right (by omega), ← List.getD_eq_getElem?_getD]
  congr 1; omega
theorem getD_map {β : Type} {f : α → β} {a : List α} {i : Nat} {d : α} {e : β} (h : i < a.length) : (a.map f).getD i e = f (a.getD i d) := by
  rw [List.getD_eq_getElem?_getD, List.getElem?_map, List.getElem?_eq_getElem h, List.getD_eq_getElem?_getD, List.getElem?_eq_getElem h]; rfl
theorem getD_rng {β : Type} {f : Nat → β} {n i : Nat} {e : β} (h : i < n) : ((List.range n).map f).getD i e = f i := by
  rw [getD_map (d := 0) (by simpa using h), List.getD_eq_getElem?_getD, List.getElem?_range h]; rfl
end
namespace LpIn
variable (I : LpIn)
def m : Nat := I.rows.length
def n : Nat := I.free.length
def a (i k : Nat) : Int := (I.rows.getD i []).getD k 0
def bd (i : Nat) : Int := I.bounds.getD i 0
def gl (k : Nat) : Int := I.goal.getD k 0
def low (l : Nat) : Nat := I.par.lows.getD l 0
def loo (o : Nat) : Nat := I.par.loose.getD o 0
def sg (i : Nat) : Int := if I.bd i < 0 then -1 else 1
def nl : Nat := I.par.lows.length
def no : Nat := I.par.loose.length
def H : Nat := I.par.helpers
end LpIn
section
variable {I : LpIn}
theorem LpIn.H_eq : I.H = I.n + I.nl + I.no := rfl
theorem sg_at (ok : I.Ok) {i : Nat} (hi : i < I.m) : I.par.signs.getD i 0 = I.sg i := by
  show (I.bounds.map _).getD i 0 = _
  have := ok.bl
  rw [getD_map (d := 0) (by show i < I.bounds.length; unfold LpIn.m at hi; omega)]
  rfl
theorem sg_two (i : Nat) : I.sg i = 1 ∨ I.sg i = -1 := by unfold LpIn.sg; split <;> simp
theorem row_eq {i : Nat} (hi : i < I.m) (c : Nat) : m0 I.tbl i c = (rowIn I.par (I.rows.getD i []) (I.bounds.getD i 0) i).getD c 0 := by
  show (((List.range I.rows.length).map _).getD i []).getD c 0 = _
  rw [getD_rng (show i < I.rows.length from hi)]
theorem own_at (ok : I.Ok) {i c : Nat} (hi : i < I.m) (hc : c < I.H) : m0 I.tbl i c = I.sg i * (((I.rows.getD i []) ++ I.par.lows.map (fun l => 0 - (I.rows.getD i []).getD l 0) ++ I.par.loose.map (fun o => if o = i then (1 : Int) else 0)).getD c 0) := by
  have hl : (I.rows.getD i []).length = I.n := ok.rl _ (getD_mem hi)
  have e : ((I.rows.getD i []) ++ I.par.lows.map (fun l => 0 - (I.rows.getD i []).getD l 0) ++ I.par.loose.map (fun o => if o = i then (1 : Int) else 0)).length = I.H := by
    simp only [List.length_append, List.length_map, hl]; rfl
  rw [row_eq hi]
  unfold rowIn
  rw [getD_app1 (by rw [List.length_append, List.length_map]; omega), getD_app1 (by rw [List.length_map]; omega), getD_map (d := 0) (by omega), sg_at ok hi]
theorem ent_n (ok : I.Ok) {i k : Nat} (hi : i < I.m) (hk : k < I.n) : m0 I.tbl i k = I.sg i * I.a i k := by
  have hl : (I.rows.getD i []).length = I.n := ok.rl _ (getD_mem hi)
  rw [own_at ok hi (by rw [LpIn.H_eq]; omega), List.append_assoc, getD_app1 (by omega)]; rfl
theorem ent_l (ok : I.Ok) {i l : Nat} (hi : i < I.m) (hk : l < I.nl) : m0 I.tbl i (I.n + l) = I.sg i * (- I.a i (I.low l)) := by
  have hl : (I.rows.getD i []).length = I.n := ok.rl _ (getD_mem hi)
  rw [own_at ok hi (by rw [LpIn.H_eq]; omega), List.append_assoc, getD_app2 hl, getD_app1 (by rw [List.length_map]; exact hk), getD_map (d := 0) hk]
  show I.sg i * (0 - I.a i (I.low l)) = _
  rw [Int.zero_sub]
theorem ent_o (ok : I.Ok) {i o : Nat} (hi : i < I.m) (hk : o < I.no) : m0 I.tbl i (I.n + I.nl + o) = I.sg i * (if I.loo o = i then 1 else 0) := by
  have hl : (I.rows.getD i []).length = I.n := ok.rl _ (getD_mem hi)
  rw [own_at ok hi (by rw [LpIn.H_eq]; omega), getD_app2 (by rw [List.length_append, List.length_map, hl]; rfl), getD_map (d := 0) hk]; rfl
theorem ent_h (ok : I.Ok) {i j : Nat} (hi : i < I.m) (hj : j < I.m) : m0 I.tbl i (I.H + j) = if i = j then 1 else 0 := by
  have hl : (I.rows.getD i []).length = I.n := ok.rl _ (getD_mem hi)
  have hs : I.par.signs.length = I.m := by have := (par_lens I).2.2; have := ok.bl; unfold LpIn.m; omega
  rw [row_eq hi]
  unfold rowIn
  rw [List.append_assoc, getD_app2 (by simp only [List.length_append, List.length_map, hl]; rfl), getD_app1 (by simp; omega), getD_rng (by omega)]
  by_cases e : i = j
  · rw [if_pos e.symm, if_pos e]
  · rw [if_neg (Ne.symm e), if_neg e]
theorem ent_b (ok : I.Ok) {i : Nat} (hi : i < I.m) : m0 I.tbl i (I.H + I.m) = I.sg i * I.bd i := by
  have hl : (I.rows.getD i []).length = I.n := ok.rl _ (getD_mem hi)
  have hs : I.par.signs.length = I.m := by have := (par_lens I).2.2; have := ok.bl; unfold LpIn.m; omega
  rw [row_eq hi]
  unfold rowIn
  rw [show I.H + I.m = (I.H + I.m) + 0 from rfl, getD_app2 (by simp only [List.length_append, List.length_map, List.length_range, hl, hs]; rfl)]
  show ((I.bd i).natAbs : Int) = _
  unfold LpIn.sg
  split <;> omega
theorem gol_n (ok : I.Ok) {k : Nat} (hk : k < I.n) : t0 I.tbl 1 k = - I.gl k := by
  have hl : I.goal.length = I.n := ok.gl
  show (goalR I.par I.goal).getD k 0 = _
  unfold goalR
  rw [List.append_assoc, getD_app1 (by rw [List.length_map]; omega), getD_map (d := 0) (by omega), Int.zero_sub]; rfl
theorem gol_l (ok : I.Ok) {l : Nat} (hk : l < I.nl) : t0 I.tbl 1 (I.n + l) = I.gl (I.low l) := by
  have hl : I.goal.length = I.n := ok.gl
  show (goalR I.par I.goal).getD _ 0 = _
  unfold goalR
  rw [List.append_assoc, getD_app2 (by rw [List.length_map]; omega), getD_app1 (by rw [List.length_map]; exact hk), getD_map (d := 0) hk]; rfl
theorem gol_z (ok : I.Ok) {c : Nat} (hk : I.n + I.nl ≤ c) : t0 I.tbl 1 c = 0 := by
  have hl : I.goal.length = I.n := ok.gl
  show (goalR I.par I.goal).getD c 0 = _
  unfold goalR
  obtain ⟨e, rfl⟩ := Nat.exists_eq_add_of_le hk
  rw [getD_app2 (by rw [List.length_append, List.length_map, List.length_map, hl]; rfl), List.getD_eq_getElem?_getD, List.getElem?_replicate]
  split <;> rfl
theorem sum_sm : ∀ (xs : List (List Int)) (c : Nat), (xs.map fun r => r.getD c 0).sum = Lp.sm xs.length (fun i => (xs.getD i []).getD c 0) := by
  intro xs c
  induction xs with
  | nil => rfl
  | cons x xs ih =>
    rw [List.map_cons, List.sum_cons, ih, List.length_cons, Nat.add_comm xs.length 1, sm_app]
    congr 1
    · show _ = 0 + x.getD c 0
      omega
    · refine Lp.sm_congr fun i _ => ?_
      rw [Nat.add_comm 1 i]; rfl
theorem lak_h (ok : I.Ok) {j : Nat} (hj : j < I.m) : t0 I.tbl 0 (I.H + j) = 0 := by
  have hs : I.par.signs.length = I.m := by have := (par_lens I).2.2; have := ok.bl; unfold LpIn.m; omega
  show (lackR I.par I.tbl.rows).getD _ 0 = 0
  unfold lackR
  rw [getD_rng (by show I.H + j < I.H + _ + 1; omega), if_pos ⟨by show I.H ≤ _; omega, by show _ < I.H + _; omega⟩]
theorem lak_z (ok : I.Ok) {c : Nat} (hc : c < I.H + I.m + 1) (h : c < I.H ∨ c = I.H + I.m) : t0 I.tbl 0 c = - Lp.sm I.m (fun i => m0 I.tbl i c) := by
  have hs : I.par.signs.length = I.m := by have := (par_lens I).2.2; have := ok.bl; unfold LpIn.m; omega
  show (lackR I.par I.tbl.rows).getD _ 0 = _
  unfold lackR
  rw [getD_rng (by show c < I.H + _ + 1; omega), if_neg (by show ¬ (I.H ≤ c ∧ c < I.H + _); omega), sum_sm, Int.zero_sub]
  have : I.tbl.rows.length = I.m := by show (rowsIn _ _ _).length = _; unfold rowsIn; simp; rfl
  rw [this]
  rfl
end
end Sh
end
section
set_option Elab.async false
set_option linter.all false
set_option maxRecDepth 100000
set_option maxHeartbeats 4000000
set_option exponentiation.threshold 100
namespace Sh
open PySem PySem.Spec L2 Sl PyProof.Rows
section
variable {I : LpIn}
structure Feas (I : LpIn) (w : Int) (c : Nat → Int) (Y : Nat → Int) : Prop where
  most : ∀ i, i < I.m → I.kinds.getD i [] = mostT → Lp.sm I.n (fun k => I.a i k * Y k) ≤ w * c i
  just : ∀ i, i < I.m → I.kinds.getD i [] ≠ mostT → Lp.sm I.n (fun k => I.a i k * Y k) = w * c i
  held : ∀ k, k < I.n → I.free.getD k false = false → 0 ≤ Y k
structure Fac (I : LpIn) (w : Int) (g : Nat → Int) (F : Nat → Int) : Prop where
  most : ∀ i, i < I.m → I.kinds.getD i [] = mostT → 0 ≤ F i
  free : ∀ k, k < I.n → I.free.getD k false = true → Lp.sm I.m (fun i => F i * I.a i k) = w * g k
  held : ∀ k, k < I.n → w * g k ≤ Lp.sm I.m (fun i => F i * I.a i k)
variable {s : Tbl} {σ : Int}
theorem St.inj {s0 s : Tbl} {m wd : Nat} (h : St s0 m wd σ s) {r j : Nat} (hr : r < m) (hj : j < m) (e : b0 s j = b0 s r) : j = r := by
  have e1 := h.basis hr hj
  have e2 := h.basis hr hr
  rw [e, e2, if_pos rfl] at e1
  have := h.wp
  by_cases q : r = j
  · exact q.symm
  · rw [if_neg q] at e1; omega
abbrev StI (I : LpIn) (σ : Int) (s : Tbl) : Prop := St I.tbl I.m (I.H + I.m + 1) σ s
end
end Sh
end
section
set_option Elab.async false
set_option linter.all false
set_option maxRecDepth 100000
set_option maxHeartbeats 4000000
set_option exponentiation.threshold 100
namespace Sh
open PySem PySem.Spec L2 Sl PyProof.Rows
def LpIn.top (I : LpIn) (K : Nat) : Nat := (I.m + 1) * ((I.m + 1) * K * (Lp.fac I.m * ((I.m + 1) * K) ^ I.m))
structure LpIn.Sm (I : LpIn) (K : Nat) : Prop where
  k1 : 1 ≤ K
  a : ∀ i k, (I.a i k).natAbs ≤ K
  b : ∀ i, (I.bd i).natAbs ≤ K
  g : ∀ k, (I.gl k).natAbs ≤ K
  h : I.top K < half
section
variable {I : LpIn}
theorem rows_len : I.tbl.rows.length = I.m := by show (rowsIn _ _ _).length = _; unfold rowsIn; simp; rfl
theorem signs_len (ok : I.Ok) : I.par.signs.length = I.m := by have := (par_lens I).2.2; have := ok.bl; unfold LpIn.m; omega
theorem H_le (ok : I.Ok) : I.H ≤ 600 ∧ I.m ≤ 200 ∧ I.n ≤ 200 := by
  obtain ⟨l1, l2, l3⟩ := par_lens I
  have h1 := ok.m
  have h2 := ok.n
  have h3 := ok.kl
  refine ⟨?_, h1, h2⟩
  rw [LpIn.H_eq]
  unfold LpIn.n LpIn.nl LpIn.no
  omega
theorem st_first (ok : I.Ok) : StI I 1 I.tbl := by
  have hb : ∀ j, j < I.m → b0 I.tbl j = I.H + j := fun j hj => by
    show ((List.range I.rows.length).map _).getD j 0 = _
    rw [getD_rng (show j < I.rows.length from hj)]; rfl
  have hf : ∀ j i, j < I.m → i < I.m → m0 I.tbl i (b0 I.tbl j) = if i = j then 1 else 0 := fun j i hj hi => by rw [hb j hj, ent_h ok hi hj]
  obtain ⟨f1, f2, f3⟩ := Lp.first hf
  refine ⟨rows_len, rfl, by show ((List.range I.rows.length).map _).length = _; simp; rfl, fun r hr => ?_, fun r hr => ?_, .inl rfl, show (0 : Int) < 1 by decide, by rw [f1]; rfl, fun r c hr hc => by rw [f3 r c hr, Int.one_mul], fun t c ht hc => ?_, f2, fun j hj => by rw [hb j hj]; omega, fun r hr => ?_⟩
  · rw [rowsIn_len I ok r hr, signs_len ok]; rfl
  · have hl := ok.gl
    rcases List.mem_cons.mp hr with rfl | hr
    · unfold lackR
      rw [List.length_map, List.length_range, signs_len ok]; rfl
    · rcases List.mem_cons.mp hr with rfl | hr
      · unfold goalR
        rw [List.length_append, List.length_append, List.length_map, List.length_map, List.length_replicate, signs_len ok, hl]
        show I.n + I.nl + (I.no + I.m + 1) = _
        rw [LpIn.H_eq]; omega
      · cases hr
  · rw [Lp.tp_first hf (fun j hj => ?_), Int.one_mul]
    rw [hb j hj]
    have : t = 0 ∨ t = 1 := by omega
    rcases this with rfl | rfl
    · exact lak_h ok hj
    · exact gol_z ok (by rw [LpIn.H_eq]; omega)
  · show 0 ≤ m0 I.tbl r (I.H + I.m)
    rw [ent_b ok hr]
    unfold LpIn.sg
    split <;> omega
theorem ent_abs (ok : I.Ok) {K : Nat} (sm : I.Sm K) (i c : Nat) : (m0 I.tbl i c).natAbs ≤ K := by
  have k1 := sm.k1
  by_cases hi : i < I.m
  · by_cases h1 : c < I.n
    · rw [ent_n ok hi h1, abs_sg (sg_two i)]; exact sm.a i c
    · by_cases h2 : c < I.n + I.nl
      · obtain ⟨l, rfl⟩ := Nat.exists_eq_add_of_le (by omega : I.n ≤ c)
        rw [ent_l ok hi (by omega), abs_sg (sg_two i), Int.natAbs_neg]; exact sm.a i _
      · by_cases h3 : c < I.H
        · obtain ⟨l, rfl⟩ := Nat.exists_eq_add_of_le (by omega : I.n + I.nl ≤ c)
          rw [ent_o ok hi (by rw [LpIn.H_eq] at h3; omega), abs_sg (sg_two i)]
          split <;> (simp; try omega)
        · by_cases h4 : c < I.H + I.m
          · obtain ⟨l, rfl⟩ := Nat.exists_eq_add_of_le (by omega : I.H ≤ c)
            rw [ent_h ok hi (by omega)]
            split <;> (simp; try omega)
          · by_cases h5 : c = I.H + I.m
            · subst h5
              rw [ent_b ok hi, abs_sg (sg_two i)]; exact sm.b i
            · rw [m0_out (st_first ok).rl (st_first ok).rw_ hi (by omega)]; simp
  · unfold m0
    rw [List.getD_eq_getElem?_getD (a := []), List.getElem?_eq_none (by rw [rows_len]; omega)]
    simp
theorem bd_first (ok : I.Ok) {K : Nat} (sm : I.Sm K) : Bd I.tbl I.m (I.H + I.m + 1) ((I.m + 1) * K) := by
  have k1 := sm.k1
  obtain ⟨e1, e2, e3⟩ := H_le ok
  have hK : K ≤ (I.m + 1) * K := Nat.le_mul_of_pos_left _ (by omega)
  have hmK : I.m * K ≤ (I.m + 1) * K := Nat.mul_le_mul_right _ (by omega)
  refine ⟨by omega, by omega, by omega, by omega, fun i c => Nat.le_trans (ent_abs ok sm i c) hK, fun t c => ?_, sm.h⟩
  by_cases hc : c < I.H + I.m + 1
  · by_cases ht : t < 2
    · have : t = 0 ∨ t = 1 := by omega
      rcases this with rfl | rfl
      · by_cases hh : c < I.H ∨ c = I.H + I.m
        · rw [lak_z ok hc hh, Int.natAbs_neg]
          exact Nat.le_trans (Lp.sm_abs fun i _ => ent_abs ok sm i c) hmK
        · obtain ⟨l, rfl⟩ := Nat.exists_eq_add_of_le (by omega : I.H ≤ c)
          rw [lak_h ok (by omega)]; simp
      · by_cases h1 : c < I.n
        · rw [gol_n ok h1, Int.natAbs_neg]; exact Nat.le_trans (sm.g c) hK
        · by_cases h2 : c < I.n + I.nl
          · obtain ⟨l, rfl⟩ := Nat.exists_eq_add_of_le (by omega : I.n ≤ c)
            rw [gol_l ok (by omega)]; exact Nat.le_trans (sm.g _) hK
          · rw [gol_z ok (by omega)]; simp
    · unfold t0
      rw [List.getD_eq_getElem?_getD (a := []), List.getElem?_eq_none (by rw [(st_first ok).tl]; omega)]
      simp
  · by_cases ht : t < 2
    · rw [t0_out (st_first ok).tl (st_first ok).tw ht (by omega)]; simp
    · unfold t0
      rw [List.getD_eq_getElem?_getD (a := []), List.getElem?_eq_none (by rw [(st_first ok).tl]; omega)]
      simp
variable {s : Tbl} {σ : Int}
def ratsOf (w : Int) (n : Nat) (Y : Nat → Int) : List Rat := (List.range n).map fun k => Rat.divInt (Y k) w
theorem lookLast_some {α : Type} {k : DK} {v : α} : ∀ {ps : List (DK × α)}, (k, v) ∈ ps → (∀ p ∈ ps, p.1 = k → p.2 = v) → lookLast k ps = some v
  | (k', d) :: ps, hm, hu => by
    unfold lookLast
    cases e : lookLast k ps with
    | some u =>
      have : ∀ (ps : List (DK × α)) (u : α), lookLast k ps = some u → ∃ p ∈ ps, p.1 = k ∧ p.2 = u := by
        intro ps
        induction ps with
        | nil => intro u h; cases h
        | cons p ps ih =>
          intro u h
          obtain ⟨k', d⟩ := p
          unfold lookLast at h
          cases e : lookLast k ps with
          | some u' =>
            rw [e] at h
            cases h
            obtain ⟨p, h1, h2⟩ := ih _ e
            exact ⟨p, List.mem_cons_of_mem _ h1, h2⟩
          | none =>
            rw [e] at h
            dsimp only at h
            by_cases q : k' = k
            · rw [if_pos q] at h
              cases h
              exact ⟨_, List.mem_cons_self .., q, rfl⟩
            · rw [if_neg q] at h; cases h
      obtain ⟨p, h1, h2, h3⟩ := this ps u e
      rw [← h3, hu p (List.mem_cons_of_mem _ h1) h2]
    | none =>
      dsimp only
      rcases List.mem_cons.mp hm with h | h
      · cases h
        rw [if_pos rfl]
      · have := lookLast_some (ps := ps) h fun p hp => hu p (List.mem_cons_of_mem _ hp)
        rw [e] at this
        cases this
theorem lookLast_none {α : Type} {k : DK} : ∀ {ps : List (DK × α)}, (∀ p ∈ ps, p.1 ≠ k) → lookLast k ps = none
  | [], _ => rfl
  | (k', d) :: ps, h => by
    unfold lookLast
    rw [lookLast_none fun p hp => h p (List.mem_cons_of_mem _ hp)]
    exact if_neg (h (k', d) (List.mem_cons_self ..))
end
end Sh
end
section
set_option Elab.async false
set_option linter.all false
set_option maxRecDepth 100000
set_option maxHeartbeats 4000000
set_option exponentiation.threshold 100
namespace Sh
open PySem PySem.Spec L2 Sl PyProof.Rows
inductive Ans
  | none (w : Int) (F : Nat → Int)
  | free (w : Int) (Y Z : Nat → Int)
  | best (w : Int) (Y F : Nat → Int)
def Ans.d (I : LpIn) : Ans → D
  | none w F => .tup [.str ['n', 'o', 'n', 'e'], ratsD (ratsOf w I.m F)]
  | free w Y Z => .tup [.str ['f', 'r', 'e', 'e'], ratsD (ratsOf w I.n Y), ratsD (ratsOf w I.n Z)]
  | best w Y F => .tup [.str ['b', 'e', 's', 't'], ratsD (ratsOf w I.n Y), ratsD (ratsOf w I.m F)]
structure Sz (B : Nat) (w : Int) (Y : Nat → Int) : Prop where
  wp : 0 < w
  wb : w.natAbs ≤ B
  yb : ∀ k, (Y k).natAbs ≤ 2 * B
def Ans.Ok (I : LpIn) (B : Nat) : Ans → Prop
  | none w F => Sz B w F ∧ Fac I w (fun _ => 0) F ∧ Lp.sm I.m (fun i => F i * I.bd i) < 0
  | free w Y Z => Sz B w Y ∧ Sz B w Z ∧ Feas I w I.bd Y ∧ Feas I w (fun _ => 0) Z ∧ 0 < Lp.sm I.n (fun k => I.gl k * Z k)
  | best w Y F => Sz B w Y ∧ Sz B w F ∧ Feas I w I.bd Y ∧ Fac I w I.gl F ∧ Lp.sm I.m (fun i => F i * I.bd i) = Lp.sm I.n (fun k => I.gl k * Y k)
section
variable {env : Slots} {st st1 st2 : Sto} {am : AM} {xs : List Val}
end
section
variable {I : LpIn} {s : Tbl} {σ : Int} {K : Nat}
theorem StI.abs (ok : I.Ok) (sm : I.Sm K) (h : StI I σ s) : (∀ r c, r < I.m → c < I.H + I.m + 1 → (m0 s r c).natAbs ≤ I.top K) ∧ (∀ t c, t < 2 → c < I.H + I.m + 1 → (t0 s t c).natAbs ≤ I.top K) ∧ s.w.natAbs ≤ I.top K := by
  have b := bd_first ok sm
  have h1 : Lp.fac I.m * ((I.m + 1) * K) ^ I.m ≤ (I.m + 1) * K * (Lp.fac I.m * ((I.m + 1) * K) ^ I.m) := Nat.le_mul_of_pos_left _ b.k1
  have h2 : (I.m + 1) * K * (Lp.fac I.m * ((I.m + 1) * K) ^ I.m) ≤ I.top K := Nat.le_mul_of_pos_left _ (by omega)
  refine ⟨fun r c hr hc => ?_, fun t c ht hc => ?_, ?_⟩
  · rw [h.re r c hr hc, abs_sg h.sg]
    exact Nat.le_trans (Lp.tb_abs (fun i c _ => b.r i c) _ _) (by omega)
  · rw [h.te t c ht hc, abs_sg h.sg]
    exact Lp.tp_abs (fun i c _ => b.r i c) (fun c => b.t t c) _
  · rw [h.we, abs_sg h.sg]
    exact Nat.le_trans (Lp.wd_abs fun i c _ => b.r i c) (by omega)
end
end Sh
end
section
set_option Elab.async false
set_option linter.all false
set_option maxRecDepth 100000
set_option maxHeartbeats 2000000
namespace Sh
open PySem PySem.Spec L2 Sl PyProof.Rows
def isInt : D → Bool
  | .int _ => true
  | _ => false
theorem f_is_whole (d : D) (st : Sto) : F_is_whole [.p d] st = .ok (yes (isInt d)) st := by
  cases d <;> simp only [F_is_whole, B_is_whole, bodyF, sSeq, sNil, sRet, sRetK, sIf, sAsg, sExpr, sSub, sBrk, sCt, sParN, R.then, R.bind, R.lift, R.noExc, mVar, mD, mTup, mLst, mAndV, mOrV, mNotV, mIf, mNeg, mIsi, mApp, mCall, mMeth, mMeth0, mChain, m2, mSlice, oNone, oSome, aNil, aCons, tVal, tTruth, tAndM, tOrM, tNotM, tmYes, gN, gT, gsGo, setAll, List.length_cons, List.length_nil, List.map_cons, List.map_nil, List.cons_append, List.nil_append, List.replicate, List.getElem?_cons_zero, List.getElem?_cons_succ, List.set_cons_zero, List.set_cons_succ, Nat.sub_self, Nat.zero_add, Nat.add_zero, Nat.reduceAdd, Nat.reduceSub, Nat.reduceEqDiff, if_true, if_false, if_pos, reduceIte, reduceCtorEq, Bool.not_true, Bool.not_false, truth, tyName, isTy] <;> rfl
def betw (a b : Int) : D → Bool
  | .int i => decide (a ≤ i) && decide (i ≤ b)
  | _ => false
theorem f_is_between (d : D) (a b : Int) (st : Sto) : F_is_between [.p d, pI a, pI b] st = .ok (yes (betw a b d)) st := by
  refine f_rt (es_ret rfl ?_)
  have h := ev_and (ma := mApp 1 F_is_whole (aCons (mVar 0) aNil)) (mb := mChain fLe fLe (mVar 1) (mVar 0) (mVar 2)) (b := betw a b d) (ev_app (a1 rfl) rfl (f_is_whole d st)) (env := [some (.p d), some (pI a), some (pI b)]) fun hd => by
    cases d with
    | int i => exact ev_chain rfl rfl rfl fun _ => ⟨_, rfl, rfl⟩
    | _ => cases hd
  refine h.trans ?_
  cases d <;> simp [isInt, betw]
def onlyT (signs t : T) : Bool := t.all fun c => signs.contains c
theorem f_has_only (t signs : T) (st : Sto) (hl : t.length ≤ 100) : F__has_only [.p (.str t), .p (.str signs)] st = .ok (yes (onlyT signs t)) st := by
  refine f_rt (es_ret rfl ?_)
  have h := ev_all (ow := [2]) (mi := mIter (mVar 0)) (gm := gN 2) (m := m2 (fInX false) (mVar 2) (mVar 1)) (st := st) (env := [some (.p (.str t)), some (.p (.str signs)), none]) (src := none) (ds := t.map fun c => .str [c]) (fun d => match d with | .str [c] => signs.contains c | _ => false) (iter_strD rfl) rfl (by simp; omega) fun d hd => by
    obtain ⟨c, _, rfl⟩ := List.mem_map.mp hd
    exact ⟨_, rfl, ev_2 rfl rfl rfl⟩
  refine h.trans ?_
  simp only [List.all_map]
  rfl
def LET : T := ['a', 'b', 'c', 'd', 'e', 'f', 'g', 'h', 'i', 'j', 'k', 'l', 'm', 'n', 'o', 'p', 'q', 'r', 's', 't', 'u', 'v', 'w', 'x', 'y', 'z']
def DIG : T := ['0', '1', '2', '3', '4', '5', '6', '7', '8', '9']
def nameT (t : T) : Bool := match t with
  | [] => false
  | c :: _ => decide (t.length ≤ 10) && LET.contains c && onlyT (LET ++ DIG) t
def nameD : D → Bool
  | .str t => nameT t
  | _ => false
theorem f_is_name (d : D) (st : Sto) : F_is_name [.p d] st = .ok (yes (nameD d)) st := by
  cases d with
  | str t =>
    have h := f_gd (B := B_is_name) (k0 := 1) (xs := [.p (.str t)]) (st := st) (es_guard rfl (et_or (et_not (et_truth (ev_isi rfl rfl))) fun _ => et_not (et_val (ev_chain rfl (ev_call (a1 rfl) rfl) rfl fun _ => ⟨_, rfl, rfl⟩))) (sr := .rt (yes (nameT t)) st) fun hg => es_ret rfl ?_)
    · refine h.trans ?_
      match t with
      | [] => rfl
      | c :: cs =>
        by_cases h10 : (c :: cs).length ≤ 10
        · have e : (decide ((1 : Int) ≤ ((c :: cs).length : Int)) && decide (((c :: cs).length : Int) ≤ 10)) = true := by
            simp only [Bool.and_eq_true, decide_eq_true_eq, List.length_cons] at h10 ⊢
            omega
          simp only [e, nameD]
          rfl
        · have e : (decide ((1 : Int) ≤ ((c :: cs).length : Int)) && decide (((c :: cs).length : Int) ≤ 10)) = false := by
            simp only [Bool.and_eq_false_iff, decide_eq_false_iff_not, List.length_cons] at h10 ⊢
            omega
          simp only [e, nameD, nameT, h10]
          simp [isTy]
    · have hl : (1 : Int) ≤ t.length ∧ (t.length : Int) ≤ 10 := by
        simp only [isTy, beq_self_eq_true, Bool.true_or, Bool.not_true, Bool.false_or, Bool.not_eq_false', Bool.and_eq_true, decide_eq_true_eq] at hg
        exact hg
      match t, hl with
      | c :: cs, hl =>
        have h10 : (c :: cs).length ≤ 10 := by omega
        have hi : fIx (.p (.str (c :: cs))) (pI 0) st = some (.p (.str [c]), st) := by simp [fIx, atI, ixN]
        have h := ev_and (ma := m2 (fInX false) (m2 fIx (mVar 0) (mD (.int 0))) (mD c_LETTERS)) (mb := mApp 2 F__has_only (aCons (mVar 0) (aCons (m2 (fAdd false) (mD c_LETTERS) (mD c_DIGITS)) aNil))) (env := [some (.p (.str (c :: cs)))]) (st := st)
          (ev_2 (ev_2 rfl rfl hi) rfl rfl) fun _ => ev_app (a2 rfl (ev_2 rfl rfl rfl)) rfl (f_has_only (c :: cs) (LET ++ DIG) st (by omega))
        refine h.trans ?_
        simp only [nameT, h10, decide_true, Bool.true_and]
        rfl
  | _ => simp [F_is_name, B_is_name, bodyF, sSeq, sNil, sRet, sRetK, sIf, sAsg, sExpr, sSub, sBrk, sCt, sParN, R.then, R.bind, R.lift, R.noExc, mVar, mD, mTup, mLst, mAndV, mOrV, mNotV, mIf, mNeg, mIsi, mApp, mCall, mMeth, mMeth0, mChain, m2, mSlice, oNone, oSome, aNil, aCons, tVal, tTruth, tAndM, tOrM, tNotM, tmYes, gN, gT, gsGo, setAll, List.length_cons, List.length_nil, List.map_cons, List.map_nil, List.cons_append, List.nil_append, List.replicate, List.getElem?_cons_zero, List.getElem?_cons_succ, List.set_cons_zero, List.set_cons_succ, Nat.sub_self, Nat.zero_add, Nat.add_zero, Nat.reduceAdd, Nat.reduceSub, Nat.reduceEqDiff, if_true, if_false, if_pos, reduceIte, reduceCtorEq, Bool.not_true, Bool.not_false, truth, tyName, isTy, nameD]
def ascT : List T → Bool
  | a :: b :: r => tlt a b && ascT (b :: r)
  | _ => true
def strOf : D → T
  | .str t => t
  | _ => []
theorem asc_range (xs : List T) : ((List.range (xs.length - 1)).all fun k => tlt (xs.getD k []) (xs.getD (k + 1) [])) = ascT xs := by
  match xs with
  | [] => rfl
  | [a] => rfl
  | a :: b :: r =>
    have ih := asc_range (b :: r)
    simp only [List.length_cons, Nat.add_sub_cancel] at ih ⊢
    rw [List.range_succ_eq_map, List.all_cons, List.all_map]
    unfold ascT
    rw [← ih]
    rfl
theorem ix_seq {md : Bool} {xs : List T} {k : Nat} (st : Sto) (h : k < xs.length) : fIx (.p (if md then .tup (xs.map .str) else .lst (xs.map .str))) (pI k) st = some (.p (.str (xs.getD k [])), st) := by
  cases md <;> simp [fIx, fIxO, viewL, atI_nat, h]
theorem f_is_ascending (md : Bool) (xs : List T) (st : Sto) (hl : xs.length ≤ 1000) : F_is_ascending [.p (if md then .tup (xs.map .str) else .lst (xs.map .str))] st = .ok (yes (ascT xs)) st := by
  refine f_rt (es_ret rfl ?_)
  have hlen : fLen [.p (if md then D.tup (xs.map .str) else .lst (xs.map .str))] st = some (pI xs.length, st) := by cases md <;> simp [fLen, viewL]
  have h := ev_all (ow := [1]) (gm := gN 1) (mi := mRng1 (aCons (m2 fSub (mCall fLen (aCons (mVar 0) aNil)) (mD (.int 1))) aNil)) (m := m2 fLt (m2 fIx (mVar 0) (mVar 1)) (m2 fIx (mVar 0) (m2 (fAdd false) (mVar 1) (mD (.int 1))))) (st := st)
    (env := [some (.p (if md then .tup (xs.map .str) else .lst (xs.map .str))), none]) (src := none) (fun d => match d with | .int k => tlt (xs.getD k.toNat []) (xs.getD (k.toNat + 1) []) | _ => false)
    (rng1_D (a1 (ev_2 (ev_call (a1 rfl) hlen) rfl rfl)) (by omega)) rfl (by simp; omega) fun d hd => by
      obtain ⟨k, hk, rfl⟩ := List.mem_map.mp hd
      have hk2 : k < xs.length - 1 := by
        have := List.mem_range.mp hk
        omega
      have e1 := ix_seq (md := md) st (show k < xs.length by omega)
      have e2 := ix_seq (md := md) st (show k + 1 < xs.length by omega)
      exact ⟨_, rfl, ev_2 (ev_2 rfl rfl e1) (ev_2 rfl (ev_2 rfl rfl rfl) e2) rfl⟩
  refine h.trans ?_
  rw [List.all_map, ← asc_range]
  congr 3
  congr 1
  omega
end Sh
end
section
set_option Elab.async false
set_option linter.all false
set_option maxRecDepth 100000
set_option exponentiation.threshold 100
set_option maxHeartbeats 2000000
namespace Sh
open PySem PySem.Spec L2 Sl PyProof.Rows
def pairD (p : D → D → Bool) : D → Bool
  | .tup [x, y] => p x y
  | _ => false
def fst0 : D → T
  | .tup (x :: _) => strOf x
  | _ => []
def wal : Nat := 2 ^ 600
def wal0 : Nat := 2 ^ 500
theorem wal0_big : 1000000000000 < wal0 := Nat.lt_of_lt_of_le (by decide : 1000000000000 < 2 ^ 64) (Nat.pow_le_pow_right (by decide) (by decide))
theorem wal_big : 2 * wal0 ≤ wal := Nat.le_trans (by rw [wal0, ← Nat.pow_succ']; exact Nat.le_refl _) (Nat.pow_le_pow_right (by decide) (by decide : 501 ≤ 600))
def okD : D → Bool
  | .tup ds => decide (ds.length ≤ 1000) && okL ds
  | .lst ds => decide (ds.length ≤ 1000) && okL ds
  | .dct _ _ => false
  | .str t => decide (t.length ≤ 100)
  | .int i => decide (i.natAbs < wal)
  | _ => true
where okL : List D → Bool
  | [] => true
  | d :: ds => okD d && okL ds
theorem okL_all : ∀ {ds : List D}, okD.okL ds = true → ∀ d ∈ ds, okD d = true
  | [], _, d, h => by cases h
  | e :: ds, h, d, hd => by
    simp only [okD.okL, Bool.and_eq_true] at h
    rcases List.mem_cons.mp hd with rfl | hd
    · exact h.1
    · exact okL_all h.2 d hd
theorem okD_tup {ds : List D} (h : okD (.tup ds) = true) : ds.length ≤ 1000 ∧ ∀ d ∈ ds, okD d = true := by
  simp only [okD, Bool.and_eq_true, decide_eq_true_eq] at h
  exact ⟨h.1, okL_all h.2⟩
mutual
theorem ok_noDct : ∀ {d : D}, okD d = true → noDct d = true
  | .tup ds, h => by simp only [okD, Bool.and_eq_true] at h; exact okL_noDct h.2
  | .lst ds, h => by simp only [okD, Bool.and_eq_true] at h; exact okL_noDct h.2
  | .dct _ _, h => by cases h
  | .non, _ => rfl
  | .bl _, _ => rfl
  | .int _, _ => rfl
  | .str _, _ => rfl
theorem okL_noDct : ∀ {ds : List D}, okD.okL ds = true → noDctL ds = true
  | [], _ => rfl
  | d :: ds, h => by
    simp only [okD.okL, Bool.and_eq_true] at h
    simp only [noDctL, Bool.and_eq_true]
    exact ⟨ok_noDct h.1, okL_noDct h.2⟩
end
def isPair : D → Bool
  | .tup [_, _] => true
  | _ => false
theorem pair_of {d : D} (h : isPair d = true) : ∃ x y, d = .tup [x, y] := by
  unfold isPair at h
  split at h
  · exact ⟨_, _, rfl⟩
  · cases h
theorem f_is_pair (d : D) (st : Sto) : F_is_pair [.p d] st = .ok (yes (isPair d)) st := by
  cases d with
  | tup ds =>
    refine f_rt (es_ret rfl ?_)
    have h := ev_and (ma := mIsi "tuple" (mVar 0)) (mb := m2 (fEq false) (mCall fLen (aCons (mVar 0) aNil)) (mD (.int 2))) (env := [some (.p (.tup ds))]) (st := st) (ev_isi rfl rfl) fun _ => ev_2 (ev_call (a1 rfl) rfl) rfl rfl
    refine h.trans ?_
    congr 3
    match ds with
    | [] => rfl
    | [a] => rfl
    | [a, b] => rfl
    | a :: b :: c :: r =>
      simp [isPair, isTy, deq]
      omega
  | _ => simp [F_is_pair, B_is_pair, bodyF, sSeq, sNil, sRet, sRetK, sIf, sAsg, sExpr, sSub, sBrk, sCt, sParN, R.then, R.bind, R.lift, R.noExc, mVar, mD, mTup, mLst, mAndV, mOrV, mNotV, mIf, mNeg, mIsi, mApp, mCall, mMeth, mMeth0, mChain, m2, mSlice, oNone, oSome, aNil, aCons, tVal, tTruth, tAndM, tOrM, tNotM, tmYes, gN, gT, gsGo, setAll, List.length_cons, List.length_nil, List.map_cons, List.map_nil, List.cons_append, List.nil_append, List.replicate, List.getElem?_cons_zero, List.getElem?_cons_succ, List.set_cons_zero, List.set_cons_succ, Nat.sub_self, Nat.zero_add, Nat.add_zero, Nat.reduceAdd, Nat.reduceSub, Nat.reduceEqDiff, if_true, if_false, if_pos, reduceIte, reduceCtorEq, Bool.not_true, Bool.not_false, truth, tyName, isTy, isPair]
theorem nameD_str {d : D} (h : nameD d = true) : isStr d = true := by cases d <;> simp_all [nameD, isStr]
end Sh
end
section
set_option Elab.async false
set_option linter.all false
set_option maxRecDepth 100000
set_option maxHeartbeats 2000000
namespace Sh
open PySem PySem.Spec L2 Sl PyProof.Rows
theorem pair_row {ds : List D} {p : D → D → Bool} (h : ds.all (pairD p) = true) : ∀ d ∈ ds, ∃ x y, d = .tup [x, y] ∧ p x y = true := fun d hd => by
  have h1 := List.all_eq_true.mp h d hd
  unfold pairD at h1
  split at h1
  · exact ⟨_, _, rfl, h1⟩
  · cases h1
theorem firsts {ow : List Nat} {mi : IM} {j : Nat} {src : Option Src} {ds : List D} {env : Slots} {st : Sto} (hi : mi env st = .ok (ds.map .p, src) st) (hw : watch st src (ds.map .p) = true) (hl : ds.length ≤ 1000) (hj : ∀ x, ((wipeE env ow).set j (some x))[j]? = some (some x))
    (h : ∀ d ∈ ds, ∃ x r, d = .tup (x :: r) ∧ isStr x = true) : mComp false ow mi (gN j) tmYes (m2 fIx (mVar j) (mD (.int 0))) env st = .ok (.p (.lst ((ds.map fst0).map .str))) st := by
  have e := comp_D (ow := ow) (gm := gN j) (mt := tmYes) (me := m2 fIx (mVar j) (mD (.int 0))) (fun _ => true) (fun d => .str (fst0 d)) hi hw (Nat.le_trans hl (by rw [sizeLine_eq]; omega)) fun d hd => by
    obtain ⟨x, r, rfl, hs⟩ := h d hd
    obtain ⟨t, rfl⟩ : ∃ t, x = .str t := by cases x <;> simp_all [isStr]
    refine ⟨_, rfl, rfl, fun _ => ev_2 (x := .p (.tup (.str t :: r))) (by unfold mVar; rw [hj]) rfl ?_⟩
    have h0 : ixN (r.length + 1) 0 = some 0 := by simp [ixN]
    simp [fIx, atI, h0, fst0, strOf]
  rw [e, filter_yes, List.map_map]
  rfl
def anyTermsD : D → Bool
  | .tup ds => ds.all (pairD fun x _ => nameD x) && (ds.all (pairD fun _ y => betw (-99) 99 y && !deq y (.int 0)) && ascT (ds.map fst0))
  | _ => false
theorem neg_c {c : D} {i : Int} (h : c = .int i) {env : Slots} {st : Sto} : mNeg (mD c) env st = .ok (pI (-i)) st := by
  subst h
  rfl
theorem f_is_any_terms (d : D) (st : Sto) (ok : okD d = true) : F_is_any_terms [.p d] st = .ok (yes (anyTermsD d)) st := by
  cases d with
  | tup ds =>
    have hl := (okD_tup ok).1
    have h1 := ev_all (ow := [1]) (mi := mIter (mVar 0)) (gm := gN 1) (m := mAndV (mApp 1 F_is_pair (aCons (mVar 1) aNil)) (mApp 1 F_is_name (aCons (m2 fIx (mVar 1) (mD (.int 0))) aNil))) (src := none) (st := st) (env := [some (.p (.tup ds)), none]) (ds := ds) (pairD fun x _ => nameD x) (iter_tupD rfl) rfl (by omega) fun d hd => by
      refine ⟨_, rfl, ?_⟩
      by_cases hp : isPair d = true
      · obtain ⟨x, y, rfl⟩ := pair_of hp
        exact ev_and (a := true) (b := nameD x) (ev_app (a1 rfl) rfl (f_is_pair _ st)) fun _ => ev_app (a1 (ev_2 (x := .p (.tup [x, y])) (y := pI 0) rfl rfl rfl)) rfl (f_is_name x st)
      · have := ev_and (b := true) (mb := mApp 1 F_is_name (aCons (m2 fIx (mVar 1) (mD (.int 0))) aNil)) (env := [some (.p (.tup ds)), some (.p d)]) (ma := mApp 1 F_is_pair (aCons (mVar 1) aNil)) (ev_app (a1 rfl) rfl (f_is_pair d st)) fun q => absurd q hp
        refine this.trans ?_
        have e : isPair d = false := by simpa using hp
        have e2 : pairD (fun x _ => nameD x) d = false := by
          unfold pairD
          unfold isPair at e
          split at e <;> simp_all
        rw [e, e2]
        rfl
    refine f_rt ?_
    refine (es_guard (n0 := st.length) rfl (et_or (et_not (et_truth (ev_isi rfl rfl))) fun _ => et_not (et_truth h1)) (sr := .rt (yes (ds.all (pairD fun _ y => betw (-99) 99 y && !deq y (.int 0)) && ascT (ds.map fst0))) st) fun hg => ?_).trans ?_
    · have hp : ds.all (pairD fun x _ => nameD x) = true := by simpa [isTy] using hg
      have h2 := ev_all (ow := [1]) (mi := mIter (mVar 0)) (gm := gN 1) (m := mAndV (mApp 3 F_is_between (aCons (m2 fIx (mVar 1) (mD (.int 1))) (aCons (mNeg (mD c_MOST_NUMBER)) (aCons (mD c_MOST_NUMBER) aNil)))) (m2 (fEq true) (m2 fIx (mVar 1) (mD (.int 1))) (mD (.int 0)))) (src := none) (st := st) (env := [some (.p (.tup ds)), none]) (ds := ds) (pairD fun _ y => betw (-99) 99 y && !deq y (.int 0)) (iter_tupD rfl) rfl (by omega) fun d hd => by
        obtain ⟨x, y, rfl, _⟩ := pair_row hp d hd
        refine ⟨_, rfl, ev_and (b := !deq y (.int 0)) (ev_app (a3 (ev_2 rfl rfl rfl) (neg_c rfl) rfl) rfl (f_is_between y (-99) 99 st)) fun hb => ?_⟩
        cases y with
        | int i => exact ev_2 (ev_2 rfl rfl rfl) rfl rfl
        | _ => cases hb
      refine (es_guard (n0 := st.length) rfl (et_not (et_truth h2)) (sr := .rt (yes (ascT (ds.map fst0))) st) fun hg2 => ?_).trans ?_
      · refine es_ret rfl (ev_app (a1 (firsts (iter_tupD rfl) rfl hl (fun x => rfl) fun d hd => ?_)) rfl (f_is_ascending false (ds.map fst0) st (by simpa using hl)))
        obtain ⟨x, y, rfl, hx⟩ := pair_row hp d hd
        exact ⟨x, [y], rfl, nameD_str hx⟩
      · cases ds.all (pairD fun _ y => betw (-99) 99 y && !deq y (.int 0)) <;> rfl
    · have e : (!isTy "tuple" "tuple" || !ds.all (pairD fun x _ => nameD x)) = !ds.all (pairD fun x _ => nameD x) := by simp [isTy]
      rw [e, show anyTermsD (.tup ds) = (ds.all (pairD fun x _ => nameD x) && (ds.all (pairD fun _ y => betw (-99) 99 y && !deq y (.int 0)) && ascT (ds.map fst0))) from rfl]
      cases ds.all (pairD fun x _ => nameD x) <;> rfl
  | _ => simp [F_is_any_terms, B_is_any_terms, bodyF, sSeq, sNil, sRet, sRetK, sIf, sAsg, sExpr, sSub, sBrk, sCt, sParN, R.then, R.bind, R.lift, R.noExc, mVar, mD, mTup, mLst, mAndV, mOrV, mNotV, mIf, mNeg, mIsi, mApp, mCall, mMeth, mMeth0, mChain, m2, mSlice, oNone, oSome, aNil, aCons, tVal, tTruth, tAndM, tOrM, tNotM, tmYes, gN, gT, gsGo, setAll, List.length_cons, List.length_nil, List.map_cons, List.map_nil, List.cons_append, List.nil_append, List.replicate, List.getElem?_cons_zero, List.getElem?_cons_succ, List.set_cons_zero, List.set_cons_succ, Nat.sub_self, Nat.zero_add, Nat.add_zero, Nat.reduceAdd, Nat.reduceSub, Nat.reduceEqDiff, if_true, if_false, if_pos, reduceIte, reduceCtorEq, Bool.not_true, Bool.not_false, truth, tyName, isTy, anyTermsD]
end Sh
end
section
set_option Elab.async false
set_option linter.all false
set_option maxRecDepth 100000
set_option maxHeartbeats 2000000
namespace Sh
open PySem PySem.Spec L2 Sl PyProof.Rows
theorem noDct_strs (ts : List T) : noDctL (ts.map .str) = true := by
  induction ts with
  | nil => rfl
  | cons t ts ih => simp [noDctL, noDct, ih]
theorem dep_strs (ts : List T) : depL (ts.map .str) = 0 := by
  induction ts with
  | nil => rfl
  | cons t ts ih => simp [depL, dep, ih]
def hasT (ts : List T) : D → Bool
  | .str t => ts.contains t
  | _ => false
theorem dmem_strs (d : D) (ts : List T) : dmem d (ts.map .str) = hasT ts d := by
  induction ts with
  | nil => cases d <;> rfl
  | cons t ts ih =>
    have : dmem d ((t :: ts).map .str) = (deq (.str t) d || dmem d (ts.map .str)) := rfl
    rw [this, ih]
    cases d with
    | str u =>
      simp only [deq, hasT, List.contains_cons]
      by_cases q : t = u
      · subst q; simp
      · have e1 : (t == u) = false := by simpa using q
        have e2 : (u == t) = false := by simpa using fun z => q z.symm
        rw [e1, e2]
    | _ => rfl
theorem in_tup {neg : Bool} {d : D} {ts : List T} {st : Sto} (h : noDct d = true) : fInX neg (.p d) (.p (.tup (ts.map .str))) st = some (yes (if neg then !hasT ts d else hasT ts d), st) := by
  have ok : inOk d (ts.map .str) = true := by simp [inOk, h, noDct_strs, dep_strs]
  have e : fIn neg (.p d) (.p (.tup (ts.map .str))) st = some (yes (if neg then !hasT ts d else hasT ts d), st) := by
    cases d <;> simp [fIn, viewD, ok, dmem_strs]
  simp [fInX, fInD, viewK, e]
end Sh
end
section
set_option Elab.async false
set_option linter.all false
set_option maxRecDepth 100000
set_option maxHeartbeats 2000000
namespace Sh
open PySem PySem.Spec L2 Sl PyProof.Rows
end Sh
end
section
set_option Elab.async false
set_option linter.all false
set_option maxRecDepth 100000
set_option maxHeartbeats 2000000
namespace Sh
open PySem PySem.Spec L2 Sl PyProof.Rows
end Sh
end
section
set_option Elab.async false
set_option linter.all false
set_option maxRecDepth 100000
set_option maxHeartbeats 2000000
namespace Sh
open PySem PySem.Spec L2 Sl PyProof.Rows
def most : T := ['m', 'o', 's', 't']
def just : T := ['j', 'u', 's', 't']
structure Row where
  name : T
  terms : D
  kind : T
  bound : Int
def Row.d (r : Row) : D := .tup [.str r.name, r.terms, .str r.kind, .int r.bound]
end Sh
end
section
set_option Elab.async false
set_option linter.all false
set_option maxRecDepth 100000
set_option maxHeartbeats 2000000
namespace Sh
open PySem PySem.Spec L2 Sl PyProof.Rows
def whole (lo hi : Option Int) : D → Bool
  | .int i => (match lo with
    | none => true
    | some l => decide (l ≤ i)) && (match hi with
    | none => true
    | some h => decide (i ≤ h))
  | _ => false
end Sh
end
section
set_option Elab.async false
set_option linter.all false
set_option maxRecDepth 100000
set_option exponentiation.threshold 100
set_option maxHeartbeats 2000000
namespace Sh
open PySem PySem.Spec L2 Sl PyProof.Rows
end Sh
end
section
set_option Elab.async false
set_option linter.all false
set_option maxRecDepth 100000
set_option maxHeartbeats 2000000
namespace Sh
open PySem PySem.Spec L2 Sl PyProof.Rows
end Sh
end
section
set_option Elab.async false
set_option linter.all false
set_option maxRecDepth 100000
set_option maxHeartbeats 2000000
namespace Sh
open PySem PySem.Spec L2 Sl PyProof.Rows
theorem f_like_bl (n : Nat) (a b : Bool) (st : Sto) : F__law_like (n + 1) [yes a, yes b] st = .ok (yes (a == b)) st := by
  cases a <;> cases b <;> simp [F__law_like, B__law_like, bodyF, sSeq, sNil, sRet, sRetK, sIf, sAsg, sExpr, sSub, sBrk, sCt, sParN, R.then, R.bind, R.lift, R.noExc, mVar, mD, mTup, mLst, mAndV, mOrV, mNotV, mIf, mNeg, mIsi, mApp, mCall, mMeth, mMeth0, mChain, m2, mSlice, oNone, oSome, aNil, aCons, tVal, tTruth, tAndM, tOrM, tNotM, tmYes, gN, gT, gsGo, setAll, List.length_cons, List.length_nil, List.map_cons, List.map_nil, List.cons_append, List.nil_append, List.replicate, List.getElem?_cons_zero, List.getElem?_cons_succ, List.set_cons_zero, List.set_cons_succ, Nat.sub_self, Nat.zero_add, Nat.add_zero, Nat.reduceAdd, Nat.reduceSub, Nat.reduceEqDiff, if_true, if_false, if_pos, reduceIte, reduceCtorEq, Bool.not_true, Bool.not_false, truth, tyName, isTy, fIs, isD]
theorem join_one (t : T) (st : Sto) (h : t.length ≤ 100) : fJoin (.p (.str [])) [.p (.lst [.str t])] st = some (.p (.str t), st) := by
  have h2 : joinLen [] [t] ≤ tMax := by
    have : (100 : Nat) ≤ tMax := by decide
    simp [joinLen]
    omega
  simp [fJoin, viewS, viewT, viewL, strL, h2, joinT]
theorem f_like_str (n : Nat) (d : D) (t : T) (st : Sto) (ok : okD d = true) : F__law_like (n + 1) [.p d, .p (.str t)] st = .ok (yes (deq d (.str t))) st := by
  have e1 : ∀ b, fIs false (.p (.str t)) (.p b) st = (match b with | .non => some (yes false, st) | .bl _ => some (yes false, st) | _ => fIs false (.p (.str t)) (.p b) st) := fun b => by cases b <;> rfl
  cases d with
  | str u =>
    have hu : u.length ≤ 100 := by simpa [okD] using ok
    have e := join_one u st hu
    have h1 : 1 ≤ sizeLine := by rw [sizeLine_eq]; omega
    have ho : eqOk (.str u) (.str t) = true := rfl
    simp [F__law_like, B__law_like, bodyF, sSeq, sNil, sRet, sRetK, sIf, sAsg, sExpr, sSub, sBrk, sCt, sParN, R.then, R.bind, R.lift, R.noExc, mVar, mD, mTup, mLst, mAndV, mOrV, mNotV, mIf, mNeg, mIsi, mApp, mCall, mMeth, mMeth0, mChain, m2, mSlice, oNone, oSome, aNil, aCons, tVal, tTruth, tAndM, tOrM, tNotM, tmYes, gN, gT, gsGo, setAll, List.length_cons, List.length_nil, List.map_cons, List.map_nil, List.cons_append, List.nil_append, List.replicate, List.getElem?_cons_zero, List.getElem?_cons_succ, List.set_cons_zero, List.set_cons_succ, Nat.sub_self, Nat.zero_add, Nat.add_zero, Nat.reduceAdd, Nat.reduceSub, Nat.reduceEqDiff, if_true, if_false, if_pos, reduceIte, reduceCtorEq, Bool.not_true, Bool.not_false, truth, tyName, isTy, fIs, isD, isStrV, newLst, pureL, h1, e, fEq, viewD, ho, deq]
  | _ => simp [F__law_like, B__law_like, bodyF, sSeq, sNil, sRet, sRetK, sIf, sAsg, sExpr, sSub, sBrk, sCt, sParN, R.then, R.bind, R.lift, R.noExc, mVar, mD, mTup, mLst, mAndV, mOrV, mNotV, mIf, mNeg, mIsi, mApp, mCall, mMeth, mMeth0, mChain, m2, mSlice, oNone, oSome, aNil, aCons, tVal, tTruth, tAndM, tOrM, tNotM, tmYes, gN, gT, gsGo, setAll, List.length_cons, List.length_nil, List.map_cons, List.map_nil, List.cons_append, List.nil_append, List.replicate, List.getElem?_cons_zero, List.getElem?_cons_succ, List.set_cons_zero, List.set_cons_succ, Nat.sub_self, Nat.zero_add, Nat.add_zero, Nat.reduceAdd, Nat.reduceSub, Nat.reduceEqDiff, if_true, if_false, if_pos, reduceIte, reduceCtorEq, Bool.not_true, Bool.not_false, truth, tyName, isTy, fIs, isD, deq]
end Sh
end
section
set_option Elab.async false
set_option linter.all false
set_option maxRecDepth 100000
set_option maxHeartbeats 2000000
namespace Sh
open PySem PySem.Spec L2 Sl PyProof.Rows
end Sh
end
section
set_option Elab.async false
set_option linter.all false
set_option maxRecDepth 100000
set_option maxHeartbeats 2000000
namespace Sh
open PySem PySem.Spec L2 Sl PyProof.Rows
end Sh
end
section
set_option Elab.async false
set_option linter.all false
set_option maxRecDepth 100000
set_option maxHeartbeats 2000000
namespace Sh
open PySem PySem.Spec L2 Sl PyProof.Rows
end Sh
end
section
set_option Elab.async false
set_option linter.all false
set_option maxRecDepth 100000
set_option maxHeartbeats 2000000
namespace Sh
open PySem PySem.Spec L2 Sl PyProof.Rows
end Sh
end
section
set_option Elab.async false
set_option linter.all false
set_option maxRecDepth 100000
set_option maxHeartbeats 2000000
namespace Sh
open PySem PySem.Spec L2 Sl PyProof.Rows
end Sh
end
section
set_option Elab.async false
set_option linter.all false
set_option maxRecDepth 100000
set_option maxHeartbeats 2000000
namespace Sh
open PySem PySem.Spec L2 Sl PyProof.Rows
theorem fdiv_le (n : Int) (g : Nat) : (n.fdiv g).natAbs ≤ n.natAbs := by
  rw [Int.fdiv_eq_ediv_of_nonneg _ (by omega)]
  exact Int.natAbs_ediv_le_natAbs _ _
def xs (many : Nat) : List T := (List.range many).map fun k : Nat => 'x' :: decT (k : Int)
end Sh
end
section
set_option Elab.async false
set_option linter.all false
set_option maxRecDepth 100000
set_option maxHeartbeats 2000000
namespace Sh
open PySem PySem.Spec L2 Sl PyProof.Rows
theorem str_small {k : Nat} (h : k < 1000) : fStr [pI k] = fun st => some (.p (.str (decT k)), st) := by
  have : k.log2 < 1920 := by
    have := log_small (i := (k : Int)) (n := 64) (by omega) (by omega)
    simp at this
    omega
  funext st
  simp [fStr, Sl.strOf, this]
end Sh
end
section
set_option Elab.async false
set_option linter.all false
set_option maxRecDepth 100000
set_option maxHeartbeats 2000000
namespace Sh
open PySem PySem.Spec L2 Sl PyProof.Rows
theorem frz_opt {st : Sto} {e : Option Val} (h : ∀ v, e = some v → ∃ d, v = .p d) : frzS 2 st e = e := by
  cases e with
  | none => rfl
  | some v =>
    obtain ⟨d, rfl⟩ := h v rfl
    rfl
noncomputable abbrev rowsB : SM := sSeq (sAsg (mIf (tVal (m2 (fEq false) (mApp 2 F__law_draw (aCons (mVar 0) (aCons (mD (.int 6)) aNil))) (mD (.int 0)))) (mD (.str ['j', 'u', 's', 't'])) (mD (.str ['m', 'o', 's', 't']))) (gN 6)) (sSeq (sExpr (mMeth isLstV fApp (mVar 4) (aCons (mTup (aCons (m2 (fAdd false) (mD (.str ['r'])) (mCall fStr (aCons (mVar 5) aNil))) (aCons (mApp 3 F__law_terms (aCons (mVar 0) (aCons (mVar 3) (aCons (mD (.int 3)) aNil)))) (aCons (mVar 6) (aCons (m2 fSub (mApp 2 F__law_draw (aCons (mVar 0) (aCons (mD (.int 14)) aNil))) (mD (.int 4))) aNil))))) aNil))) sNil)
end Sh
end
section
set_option Elab.async false
set_option linter.all false
set_option maxRecDepth 100000
set_option maxHeartbeats 2000000
namespace Sh
open PySem PySem.Spec L2 Sl PyProof.Rows
def orig : D → Bool
  | .tup ds => decide (ds.length ≤ 100) && origL ds
  | .str t => decide (t.length ≤ 50)
  | .int i => decide (i.natAbs < wal0)
  | _ => false
where origL : List D → Bool
  | [] => true
  | d :: ds => orig d && origL ds
theorem origL_all : ∀ {ds : List D}, orig.origL ds = true ↔ ∀ d ∈ ds, orig d = true
  | [] => by simp [orig.origL]
  | d :: ds => by simp [orig.origL, origL_all (ds := ds)]
mutual
theorem orig_ok : ∀ {d : D}, orig d = true → okD d = true
  | .tup ds, h => by
    simp only [orig, Bool.and_eq_true, decide_eq_true_eq] at h
    simp only [okD, Bool.and_eq_true, decide_eq_true_eq]
    exact ⟨by omega, origL_ok h.2⟩
  | .str t, h => by
    simp only [orig, decide_eq_true_eq] at h
    simp only [okD, decide_eq_true_eq]
    omega
  | .int i, h => by
    simp only [orig, decide_eq_true_eq] at h
    simp only [okD, decide_eq_true_eq]
    have := wal_big
    omega
  | .non, h => by cases h
  | .bl _, h => by cases h
  | .lst _, h => by cases h
  | .dct _ _, h => by cases h
theorem origL_ok : ∀ {ds : List D}, orig.origL ds = true → okD.okL ds = true
  | [], _ => rfl
  | d :: ds, h => by
    simp only [orig.origL, Bool.and_eq_true] at h
    simp only [okD.okL, Bool.and_eq_true]
    exact ⟨orig_ok h.1, origL_ok h.2⟩
end
end Sh
end
section
set_option Elab.async false
set_option linter.all false
set_option maxRecDepth 100000
set_option maxHeartbeats 2000000
namespace Sh
open PySem PySem.Spec L2 Sl PyProof.Rows
end Sh
end
section
set_option Elab.async false
set_option linter.all false
set_option maxRecDepth 100000
set_option maxHeartbeats 2000000
namespace Sh
open PySem PySem.Spec L2 Sl PyProof.Rows
end Sh
end
section
set_option Elab.async false
set_option linter.all false
set_option maxRecDepth 100000
set_option maxHeartbeats 4000000
set_option exponentiation.threshold 100
namespace Sh
open PySem PySem.Spec L2 Sl PyProof.Rows
structure SzR (s : Nat) (q : Rat) : Prop where
  n : q.num.natAbs < 2 ^ s
  d : q.den < 2 ^ s
theorem SzR.mono {s t : Nat} {q : Rat} (h : SzR s q) (l : s ≤ t) : SzR t q := ⟨Nat.lt_of_lt_of_le h.n (Nat.pow_le_pow_right (by decide) l), Nat.lt_of_lt_of_le h.d (Nat.pow_le_pow_right (by decide) l)⟩
theorem divInt_abs {a b : Int} (hb : 0 < b) : (Rat.divInt a b).num.natAbs ≤ a.natAbs ∧ (Rat.divInt a b).den ≤ b.natAbs := by
  have h := frD_divInt (t := a) hb
  simp only [frD, D.tup.injEq, List.cons.injEq, D.int.injEq, and_true] at h
  obtain ⟨h1, h2⟩ := h
  have g : ∀ x : Int, ∀ k : Nat, (x.fdiv k).natAbs ≤ x.natAbs := fun x k => fdiv_le x k
  constructor
  · rw [h1]; exact g _ _
  · have := g b (Int.gcd a b)
    omega
theorem SzR.add {s t : Nat} {a b : Rat} (ha : SzR s a) (hb : SzR t b) : SzR (s + t + 1) (a + b) := by
  rw [add_div]
  obtain ⟨h1, h2⟩ := divInt_abs (a := a.num * b.den + b.num * a.den) (Int.mul_pos (den_pos a) (den_pos b))
  have e : 2 ^ (s + t + 1) = 2 * (2 ^ s * 2 ^ t) := by rw [Nat.pow_succ, Nat.pow_add]; omega
  have k1 : a.num.natAbs * b.den < 2 ^ s * 2 ^ t := Nat.mul_lt_mul_of_lt_of_lt ha.n hb.d
  have k2 : b.num.natAbs * a.den < 2 ^ t * 2 ^ s := Nat.mul_lt_mul_of_lt_of_lt hb.n ha.d
  have k3 : a.den * b.den < 2 ^ s * 2 ^ t := Nat.mul_lt_mul_of_lt_of_lt ha.d hb.d
  rw [Nat.mul_comm (2 ^ t)] at k2
  constructor
  · refine Nat.lt_of_le_of_lt h1 ?_
    have a1 : (a.num * b.den).natAbs = a.num.natAbs * b.den := by rw [Int.natAbs_mul]; simp
    have a2 : (b.num * a.den).natAbs = b.num.natAbs * a.den := by rw [Int.natAbs_mul]; simp
    have a3 := Int.natAbs_add_le (a.num * b.den) (b.num * a.den)
    omega
  · refine Nat.lt_of_le_of_lt h2 ?_
    have a1 : ((a.den : Int) * b.den).natAbs = a.den * b.den := by rw [Int.natAbs_mul]; simp
    omega
theorem SzR.zero : SzR 1 0 := ⟨by decide, by decide⟩
theorem SzR.int {n : Int} {s : Nat} (h : n.natAbs < 2 ^ s) (hs : 0 < s) : SzR s (n : Rat) := ⟨by simpa using h, by
  have : (2 : Nat) ^ 1 ≤ 2 ^ s := Nat.pow_le_pow_right (by decide) hs
  simp
  omega⟩
end Sh
end
section
set_option Elab.async false
set_option linter.all false
set_option maxRecDepth 100000
set_option maxHeartbeats 4000000
set_option exponentiation.threshold 100
namespace Sh
open PySem PySem.Spec L2 Sl PyProof.Rows
structure Ro where
  nm : T
  tm : List (T × Int)
  kd : T
  bn : Int
structure Rw where
  ns : List T
  rs : List Ro
def tmD (tm : List (T × Int)) : D := .tup (tm.map fun p => .tup [.str p.1, .int p.2])
def Ro.row (r : Ro) : Row := { name := r.nm, terms := tmD r.tm, kind := r.kd, bound := r.bn }
def Ro.d (r : Ro) : D := .tup [.str r.nm, tmD r.tm, .str r.kd, .int r.bn]
def Rw.d (R : Rw) : D := .tup [.str ['r', 'o', 'w', 's'], .tup (R.ns.map .str), .tup (R.rs.map Ro.d)]
def lookS {α : Type} (t : T) (ps : List (T × α)) : Option α := lookLast (.inr t) (ps.map fun p => ((.inr p.1 : DK), p.2))
theorem lookS_mem {α : Type} {t : T} {v : α} : ∀ {ps : List (T × α)}, lookS t ps = some v → (t, v) ∈ ps
  | (k, d) :: ps, h => by
    unfold lookS at h
    rw [List.map_cons] at h
    unfold lookLast at h
    cases e : lookLast (.inr t) (ps.map fun p => ((.inr p.1 : DK), p.2)) with
    | some u =>
      rw [e] at h
      cases h
      exact List.mem_cons_of_mem _ (lookS_mem (ps := ps) e)
    | none =>
      rw [e] at h
      dsimp only at h
      by_cases q : (.inr k : DK) = .inr t
      · rw [if_pos q] at h
        cases h
        cases q
        exact List.mem_cons_self ..
      · rw [if_neg q] at h; cases h
theorem lookS_some {α : Type} {t : T} {ps : List (T × α)} (h : t ∈ ps.map Prod.fst) : ∃ v, lookS t ps = some v := by
  induction ps with
  | nil => cases h
  | cons p ps ih =>
    unfold lookS
    rw [List.map_cons]
    unfold lookLast
    cases e : lookLast (.inr t) (ps.map fun p => ((.inr p.1 : DK), p.2)) with
    | some u => exact ⟨u, rfl⟩
    | none =>
      rcases List.mem_cons.mp h with h | h
      · subst h; exact ⟨p.2, if_pos rfl⟩
      · obtain ⟨v, hv⟩ := ih h
        unfold lookS at hv
        rw [e] at hv
        cases hv
theorem lookS_none {α : Type} {t : T} {ps : List (T × α)} (h : t ∉ ps.map Prod.fst) : lookS t ps = none := lookLast_none fun p hp e => by
  obtain ⟨q, hq, rfl⟩ := List.mem_map.mp hp
  cases e
  exact h (List.mem_map.mpr ⟨q, hq, rfl⟩)
theorem lookS_nd {α : Type} {t : T} {v : α} {ps : List (T × α)} (nd : (ps.map Prod.fst).Nodup) (h : (t, v) ∈ ps) : lookS t ps = some v := by
  refine lookLast_some (List.mem_map.mpr ⟨_, h, rfl⟩) fun p hp e => ?_
  obtain ⟨q, hq, rfl⟩ := List.mem_map.mp hp
  cases e
  obtain ⟨i, hi, e1⟩ := List.mem_iff_getElem.mp hq
  obtain ⟨j, hj, e2⟩ := List.mem_iff_getElem.mp h
  have p := List.pairwise_iff_getElem.mp nd
  have : i = j := by
    rcases Nat.lt_trichotomy i j with k | k | k
    · refine absurd ?_ (p i j (by simpa using hi) (by simpa using hj) k)
      rw [List.getElem_map, List.getElem_map, e1, e2]
    · exact k
    · refine absurd ?_ (p j i (by simpa using hj) (by simpa using hi) k)
      rw [List.getElem_map, List.getElem_map, e1, e2]
  subst this
  rw [e1] at e2
  exact congrArg Prod.snd e2
structure TmOk (b l : Nat) (tm : List (T × Int)) : Prop where
  c : ∀ p ∈ tm, p.2.natAbs < 2 ^ b
  l : tm.length ≤ l
def PtOk (s : Nat) (ps : List (T × Rat)) : Prop := ∀ p ∈ ps, SzR s p.2
theorem PtOk.at {s : Nat} {ps : List (T × Rat)} (h : PtOk s ps) {t : T} {v : Rat} (e : lookS t ps = some v) : SzR s v := h _ (lookS_mem e)
structure RoOk (b l : Nat) (ns : List T) (r : Ro) : Prop where
  tm : TmOk b l r.tm
  bn : r.bn.natAbs < 2 ^ b
  tin : ∀ p ∈ r.tm, p.1 ∈ ns
  kd : r.kd = most ∨ r.kd = just
theorem eq_kd (t u : T) (st : Sto) : fEq false (.p (.str t)) (.p (.str u)) st = some (yes (decide (t = u)), st) := by
  rw [deq_str2]
  by_cases q : t = u
  · subst q; simp
  · simp [q]
theorem ones_nil {α : Type} {mi : IM} {gm : GM} {mt : TM} {env : Slots} {st : Sto} {ow : List Nat} {src : Option Src} {xs : List α} (neg : Bool) (V : α → Val) (p : α → Bool) (hi : mi env st = .ok (xs.map V, src) st) (hw : watch st src (xs.map V) = true) (hl : xs.length ≤ 100000)
    (h : ∀ x ∈ xs, ∃ env1, gm (V x) (wipeE env ow) = some env1 ∧ mt env1 st = .ok (p x) st) : m2 (fEq neg) (mComp false ow mi gm mt (mD (.int 1))) (mLst false aNil) env st = .ok (yes (if neg then xs.any p else !xs.any p)) st := by
  have e := comp_P (me := mD (.int 1)) V p (fun _ => .int 1) hi hw hl fun x hx => let ⟨e, h1, h2⟩ := h x hx; ⟨e, h1, h2, fun _ => rfl⟩
  refine ev_2 e (ev_lst (ds := []) rfl (by simp)) ?_
  have hn : ∀ ys : List α, noDctL (ys.map fun _ => D.int 1) = true := fun ys => by
    induction ys with
    | nil => rfl
    | cons y ys ih => simp [noDctL, noDct, ih]
  have e2 : deq (.lst ((xs.filter p).map fun _ => .int 1)) (.lst []) = !xs.any p := by
    clear h hi hw hl e
    have : (xs.filter p) = [] ↔ xs.any p = false := by
      rw [List.filter_eq_nil_iff, List.any_eq_false]
    cases q : xs.filter p with
    | nil =>
      rw [this.mp q]; rfl
    | cons y ys =>
      cases q2 : xs.any p with
      | false => rw [this.mpr q2] at q; cases q
      | true => rfl
  simp only [fEq, viewD]
  rw [if_pos (by simp [eqOk, noDct, hn, noDctL, dep, depL]), e2]
  cases neg <;> simp
end Sh
end
section
set_option Elab.async false
set_option linter.all false
set_option maxRecDepth 100000
set_option maxHeartbeats 4000000
set_option exponentiation.threshold 100
namespace Sh
open PySem PySem.Spec L2 Sl PyProof.Rows
section
variable {env : Slots} {st st1 st2 : Sto} {v : Val} {n0 : Nat} {m : EM}
theorem app_at {l : Nat} {vs : List Val} {x : Val} (hs : st[l]? = some (.lst vs)) (hl : vs.length ≤ 100000) : fApp (.r l) [x] st = some (.p .non, st.set l (.lst (vs ++ [x]))) := by
  simp only [fApp, hs]
  rw [if_pos (by rw [sizeLine_eq]; omega)]
theorem es_retZ {env' : Slots} {v : Val} {st st' : Sto} (hn : st'.length ≠ n0) (ht : st'.take n0 = st) (hc : st.all (closedO n0) = true) (he : env.map (frzS n0 st') = env') (hm : m env' st = .ok v st) : sSeq (sRet n0 m) sNil env st' = .rt v st := by
  unfold sSeq sRet Sl.settle
  rw [if_neg hn, if_neg hn, ht, if_pos hc]
  dsimp only
  rw [he, hm]
theorem frz_lst {l : Nat} {ds : List D} (hs : st[l]? = some (.lst (ds.map .p))) (h : n0 ≤ l) : frzS n0 st (some (.r l)) = some (.p (.lst ds)) := by
  simp only [frzS]
  rw [if_neg (by omega)]
  unfold frzV
  rw [if_neg (by omega), hs]
  dsimp only
  rw [frzL_data]
end
structure FcOk (s b l : Nat) (R : Rw) (fs : List (T × Rat)) : Prop where
  f : PtOk s fs
  fl : fs.length ≤ l
  fin : ∀ p ∈ fs, p.1 ∈ R.rs.map Ro.nm
  r : ∀ r ∈ R.rs, RoOk b l R.ns r
  rl : R.rs.length ≤ 1000
  nl : R.ns.length ≤ 1000
  hb : l * (s + b + 1) + 1 ≤ 8000
  hl : l ≤ 1000
  hb2 : s + b ≤ 8000
  b0 : 0 < b
section
variable {s b l : Nat} {R : Rw} {fs : List (T × Rat)}
end
end Sh
end
section
set_option Elab.async false
set_option linter.all false
set_option maxRecDepth 100000
set_option maxHeartbeats 4000000
set_option exponentiation.threshold 100
namespace Sh
open PySem PySem.Spec L2 Sl PyProof.Rows
theorem codes_lt_irrefl (t : T) : tlt t t = false := by
  simp only [tlt, decide_eq_false_iff_not]
  exact List.lt_irrefl _
theorem tlt_tr {a b c : T} (h1 : tlt a b = true) (h2 : tlt b c = true) : tlt a c = true := by
  simp only [tlt, decide_eq_true_eq] at h1 h2 ⊢
  exact List.lt_trans h1 h2
theorem asc_pw : ∀ {xs : List T}, ascT xs = true → xs.Pairwise fun a b => tlt a b = true
  | [], _ => List.Pairwise.nil
  | [a], _ => List.pairwise_singleton _ _
  | a :: b :: r, h => by
    simp only [ascT, Bool.and_eq_true] at h
    have ih := asc_pw h.2
    refine List.pairwise_cons.mpr ⟨fun c hc => ?_, ih⟩
    rcases List.mem_cons.mp hc with rfl | hc
    · exact h.1
    · exact tlt_tr h.1 ((List.pairwise_cons.mp ih).1 c hc)
theorem asc_nodup {xs : List T} (h : ascT xs = true) : xs.Nodup := by
  refine (asc_pw h).imp fun {a b} k z => ?_
  subst z
  rw [codes_lt_irrefl] at k
  cases k
structure RwOk (b l : Nat) (R : Rw) : Prop where
  r : ∀ r ∈ R.rs, RoOk b l R.ns r
  rl : R.rs.length ≤ l
  nl : R.ns.length ≤ l
  l2 : l ≤ 12
  b2 : b ≤ 15
  b0 : 0 < b
theorem RwOk.hb {b l : Nat} {R : Rw} (h : RwOk b l R) : l * (600 + b + 1) + 1 ≤ 8000 := by
  have h1 := h.l2
  have h2 := h.b2
  have : l * (600 + b + 1) ≤ 12 * 616 := Nat.mul_le_mul h1 (by omega)
  omega
end Sh
end
section
set_option Elab.async false
set_option linter.all false
set_option maxRecDepth 100000
set_option maxHeartbeats 4000000
set_option exponentiation.threshold 100
namespace Sh
open PySem PySem.Spec L2 Sl PyProof.Rows
section
variable {b l : Nat} {R : Rw}
end
end Sh
end
section
set_option Elab.async false
set_option linter.all false
set_option maxRecDepth 100000
set_option maxHeartbeats 4000000
set_option exponentiation.threshold 100
namespace Sh
open PySem PySem.Spec L2 Sl PyProof.Rows
theorem eq_kdN (t u : T) (st : Sto) : fEq true (.p (.str t)) (.p (.str u)) st = some (yes (!decide (t = u)), st) := by
  have e : fEq true (.p (.str t)) (.p (.str u)) st = some (yes (!(t == u)), st) := by simp [fEq, viewD, eqOk, noDct, dep, deq]
  rw [e]
  by_cases q : t = u
  · subst q; simp
  · simp [q]
section
variable {b l : Nat} {R : Rw}
end
end Sh
end
section
set_option Elab.async false
set_option linter.all false
set_option maxRecDepth 100000
set_option maxHeartbeats 4000000
set_option exponentiation.threshold 100
namespace Sh
open PySem PySem.Spec L2 Sl PyProof.Rows
theorem le_of_tlt {a b : T} {r q : List D} (h : tlt a b = true) : PySem.W.dataLe false toPy (.tup (.str a :: r)) (.tup (.str b :: q)) = true := by
  have hlt : codes a < codes b := by simpa [tlt] using h
  have hne : codes b ≠ codes a := fun z => by rw [z] at hlt; exact List.lt_irrefl _ hlt
  have hcs : ∀ t : T, (toS t).cps.toList = codes t := cps_toS
  show (!PyProof.Rows.lexLt PyProof.Rows.itemOrd (.inl 1 :: .inr (toS b).cps.toList :: PySem.W.keyToksAll (toPyL q)) (.inl 1 :: .inr (toS a).cps.toList :: PySem.W.keyToksAll (toPyL r))) = true
  rw [PyProof.Rows.lex_self (O := PyProof.Rows.itemOrd), hcs, hcs, PyProof.Rows.lex_diff (O := PyProof.Rows.itemOrd) (fun z => hne (Sum.inr.inj z))]
  show (!decide (codes b < codes a)) = true
  rw [Bool.not_eq_true', decide_eq_false_iff_not, List.not_lt]
  exact List.le_of_lt hlt
theorem sortD_asc {α : Type} (f : α → D) (nm : α → T) (rest : α → List D) (hf : ∀ x, f x = .tup (.str (nm x) :: rest x)) {xs : List α} (h : ascT (xs.map nm) = true) : sortD (xs.map f) = xs.map f := by
  refine List.mergeSort_of_pairwise ?_
  have p := asc_pw h
  rw [List.pairwise_map] at p ⊢
  refine p.imp fun {a b} k => ?_
  rw [hf a, hf b]
  exact le_of_tlt k
def vecL (ns : List T) (tm : List (T × Int)) : List Int := ns.map fun n => (lookS n tm).getD 0
theorem asc_of_pw : ∀ {xs : List T}, (xs.Pairwise fun a b => tlt a b = true) → ascT xs = true
  | [], _ => rfl
  | [a], _ => rfl
  | a :: b :: r, h => by
    obtain ⟨h1, h2⟩ := List.pairwise_cons.mp h
    simp only [ascT, Bool.and_eq_true]
    exact ⟨h1 b (List.mem_cons_self ..), asc_of_pw h2⟩
end Sh
end
section
set_option Elab.async false
set_option linter.all false
set_option maxRecDepth 100000
set_option maxHeartbeats 4000000
set_option exponentiation.threshold 100
namespace Sh
open PySem PySem.Spec L2 Sl PyProof.Rows
def lpOf (R : Rw) (aim : List (T × Int)) : LpIn :=
  { rows := R.rs.map fun r => vecL R.ns r.tm
    bounds := R.rs.map Ro.bn
    kinds := R.rs.map Ro.kd
    free := R.ns.map fun _ => true
    goal := vecL R.ns aim }
structure RwGood (R : Rw) (aim : List (T × Int)) : Prop where
  asc : ascT R.ns = true
  rasc : ascT (R.rs.map Ro.nm) = true
  rl : R.rs.length ≤ 200
  nl : R.ns.length ≤ 200
  tl : ∀ r ∈ R.rs, r.tm.length ≤ 1000
  al : aim.length ≤ 1000
end Sh
end
section
set_option Elab.async false
set_option linter.all false
set_option maxRecDepth 100000
set_option maxHeartbeats 4000000
set_option exponentiation.threshold 100
namespace Sh
open PySem PySem.Spec L2 Sl PyProof.Rows
end Sh
end
section
set_option Elab.async false
set_option linter.all false
set_option maxRecDepth 100000
set_option maxHeartbeats 4000000
set_option exponentiation.threshold 100
namespace Sh
open PySem PySem.Spec L2 Sl PyProof.Rows
structure Asked (b l : Nat) (R : Rw) (aim : List (T × Int)) : Prop where
  rw_ : RwOk b l R
  asc : ascT R.ns = true
  rasc : ascT (R.rs.map Ro.nm) = true
  tnd : ∀ r ∈ R.rs, (r.tm.map Prod.fst).Nodup
  aimF : aim = (R.ns.filter fun n => decide ((lookS n aim).getD 0 ≠ 0)).map fun n => (n, (lookS n aim).getD 0)
  aimB : TmOk b l aim
  nlen : ∀ t ∈ R.ns, t.length ≤ 100
  rlen : ∀ r ∈ R.rs, r.nm.length ≤ 100
section
variable {b l : Nat} {R : Rw} {aim : List (T × Int)}
theorem look_abs {b l : Nat} {tm : List (T × Int)} (h : TmOk b l tm) (n : T) : ((lookS n tm).getD 0).natAbs < 2 ^ b := by
  cases e : lookS n tm with
  | none => exact Nat.two_pow_pos b
  | some c => exact h.c _ (lookS_mem e)
theorem vec_abs {b l : Nat} {tm : List (T × Int)} (h : TmOk b l tm) (ns : List T) (k : Nat) : ((vecL ns tm).getD k 0).natAbs < 2 ^ b := by
  by_cases q : k < ns.length
  · unfold vecL
    rw [getD_map (d := []) q]
    exact look_abs h _
  · rw [List.getD_eq_getElem?_getD, List.getElem?_eq_none (by unfold vecL; rw [List.length_map]; omega)]
    exact Nat.two_pow_pos b
theorem lp_m : (lpOf R aim).m = R.rs.length := by unfold LpIn.m lpOf; rw [List.length_map]
theorem lp_a {i k : Nat} (hi : i < R.rs.length) : (lpOf R aim).a i k = (vecL R.ns (R.rs[i]).tm).getD k 0 := by
  show ((R.rs.map _).getD i []).getD k 0 = _
  rw [List.getD_eq_getElem?_getD (l := List.map _ _), List.getElem?_map, List.getElem?_eq_getElem hi]; rfl
theorem lp_bd {i : Nat} (hi : i < R.rs.length) : (lpOf R aim).bd i = (R.rs[i]).bn := by
  show (R.rs.map _).getD i 0 = _
  rw [List.getD_eq_getElem?_getD, List.getElem?_map, List.getElem?_eq_getElem hi]; rfl
theorem two_big {x b : Nat} (h : x < 2 ^ b) (hb : b ≤ 15) : x < big := Nat.lt_of_lt_of_le h (Nat.pow_le_pow_right (by decide) (by omega))
theorem Asked.ok (h : Asked b l R aim) : (lpOf R aim).Ok := by
  have h1 := h.rw_.l2
  have h2 := h.rw_.rl
  have h3 := h.rw_.nl
  refine ⟨by simp [lpOf], by simp [lpOf], by simp [lpOf, vecL], fun r hr => ?_, fun r hr x hx => ?_, by simp [lpOf]; omega, by simp [lpOf]; omega⟩
  · obtain ⟨q, _, rfl⟩ := List.mem_map.mp hr
    simp [lpOf, vecL]
  · obtain ⟨q, hq, rfl⟩ := List.mem_map.mp hr
    obtain ⟨n, _, rfl⟩ := List.mem_map.mp hx
    exact two_big (look_abs (h.rw_.r q hq).tm n) h.rw_.b2
theorem fac_le : ∀ m, m < 13 → Lp.fac m ≤ 2 ^ 29 := by decide
theorem top_le {m b : Nat} (hm : m ≤ 12) (hb : b ≤ 15) : (m + 1) * ((m + 1) * 2 ^ b * (Lp.fac m * ((m + 1) * 2 ^ b) ^ m)) ≤ 2 ^ 280 := by
  have a1 : m + 1 ≤ 2 ^ 4 := by omega
  have a2 : 2 ^ b ≤ 2 ^ 15 := Nat.pow_le_pow_right (by decide) hb
  have a3 : (m + 1) * 2 ^ b ≤ 2 ^ 19 := by
    have := Nat.mul_le_mul a1 a2
    rw [← Nat.pow_add] at this
    exact this
  have a4 : ((m + 1) * 2 ^ b) ^ m ≤ 2 ^ 228 := by
    have k1 : ((m + 1) * 2 ^ b) ^ m ≤ (2 ^ 19) ^ m := Nat.pow_le_pow_left a3 m
    have k2 : (2 ^ 19) ^ m ≤ (2 ^ 19) ^ 12 := Nat.pow_le_pow_right (by decide) hm
    rw [← Nat.pow_mul] at k2
    exact Nat.le_trans k1 (by rw [← Nat.pow_mul] at k2 ⊢; exact k2)
  have a5 := fac_le m (by omega)
  have a6 := Nat.mul_le_mul a5 a4
  have a7 := Nat.mul_le_mul a3 a6
  have a8 := Nat.mul_le_mul a1 a7
  rw [← Nat.pow_add, ← Nat.pow_add, ← Nat.pow_add] at a8
  exact a8
theorem Asked.top (h : Asked b l R aim) : (lpOf R aim).top (2 ^ b) ≤ 2 ^ 280 := by
  have h1 := h.rw_.l2
  have h2 := h.rw_.rl
  unfold LpIn.top
  rw [lp_m]
  exact top_le (by omega) h.rw_.b2
theorem Asked.sm (h : Asked b l R aim) : (lpOf R aim).Sm (2 ^ b) := by
  refine ⟨Nat.two_pow_pos b, fun i k => ?_, fun i => ?_, fun k => ?_, Nat.lt_of_le_of_lt h.top (Nat.pow_lt_pow_right (by decide) (by decide))⟩
  · by_cases hi : i < R.rs.length
    · rw [lp_a hi]
      exact Nat.le_of_lt (vec_abs (h.rw_.r _ (List.getElem_mem hi)).tm _ _)
    · unfold LpIn.a
      rw [List.getD_eq_getElem?_getD (l := (lpOf R aim).rows), List.getElem?_eq_none (by simp [lpOf]; omega)]
      simp
  · by_cases hi : i < R.rs.length
    · rw [lp_bd hi]
      exact Nat.le_of_lt (h.rw_.r _ (List.getElem_mem hi)).bn
    · unfold LpIn.bd
      rw [List.getD_eq_getElem?_getD, List.getElem?_eq_none (by simp [lpOf]; omega)]
      simp
  · exact Nat.le_of_lt (vec_abs h.aimB _ _)
end
end Sh
end
section
set_option Elab.async false
set_option linter.all false
set_option maxRecDepth 100000
set_option maxHeartbeats 4000000
set_option exponentiation.threshold 100
namespace Sh
open PySem PySem.Spec L2 Sl PyProof.Rows
section
variable {b l : Nat} {R : Rw} {aim : List (T × Int)}
end
end Sh
end
section
set_option Elab.async false
set_option linter.all false
set_option maxRecDepth 100000
set_option maxHeartbeats 4000000
set_option exponentiation.threshold 100
namespace Sh
open PySem PySem.Spec L2 Sl PyProof.Rows
section
variable {b l : Nat} {R : Rw} {aim : List (T × Int)}
end
end Sh
end
section
set_option Elab.async false
set_option linter.all false
set_option maxRecDepth 100000
set_option maxHeartbeats 4000000
set_option exponentiation.threshold 100
namespace Sh
open PySem PySem.Spec L2 Sl PyProof.Rows
section
variable {b l : Nat} {R : Rw} {aim : List (T × Int)}
end
end Sh
end
section
set_option Elab.async false
set_option linter.all false
set_option maxRecDepth 100000
set_option maxHeartbeats 4000000
set_option exponentiation.threshold 100
namespace Sh
open PySem PySem.Spec L2 Sl PyProof.Rows
end Sh
end
section
set_option Elab.async false
set_option linter.all false
set_option maxRecDepth 100000
set_option maxHeartbeats 4000000
set_option exponentiation.threshold 100
namespace Sh
open PySem PySem.Spec L2 Sl PyProof.Rows
inductive All2 {α β : Type} (Q : α → β → Prop) : List α → List β → Prop
  | nil : All2 Q [] []
  | cons {a : α} {b : β} {as : List α} {bs : List β} : Q a b → All2 Q as bs → All2 Q (a :: as) (b :: bs)
theorem All2.snoc {α β : Type} {Q : α → β → Prop} {a : α} {b : β} : ∀ {as : List α} {bs : List β}, All2 Q as bs → Q a b → All2 Q (as ++ [a]) (bs ++ [b])
  | _, _, .nil, h => .cons h .nil
  | _, _, .cons h t, h2 => .cons h (t.snoc h2)
theorem All2.len {α β : Type} {Q : α → β → Prop} : ∀ {as : List α} {bs : List β}, All2 Q as bs → as.length = bs.length
  | _, _, .nil => rfl
  | _, _, .cons _ t => by rw [List.length_cons, List.length_cons, t.len]
theorem comp_draw2 {α : Type} {ow : List Nat} {mi : IM} {gm : GM} {me : EM} {env : Slots} {o : SObj} {ds : List Int} {k : Nat} {rest : Sto} {xs : List α} (V : α → Val) (c : Nat) (Q : α → D → Prop) (hi : mi env (o :: Bx ds k :: rest) = .ok (xs.map V, none) (o :: Bx ds k :: rest)) (hl : xs.length ≤ 1000)
    (h : ∀ x ∈ xs, ∀ j, j + c ≤ c * xs.length → ∃ env1, gm (V x) (wipeE env ow) = some env1 ∧ ∃ y j2, j2 ≤ c ∧ me env1 (o :: Bx ds (k + j) :: rest) = .ok (.p y) (o :: Bx ds (k + j + j2) :: rest) ∧ Q x y) :
    ∃ ys j, j ≤ c * xs.length ∧ mComp false ow mi gm tmYes me env (o :: Bx ds k :: rest) = .ok (.p (.lst ys)) (o :: Bx ds (k + j) :: rest) ∧ All2 Q xs ys := by
  obtain ⟨ys, st', e, j, ys', hj, e1, e2, hP⟩ := lcGo_inv (src := none) (all := xs.map V) (gm := gm) (mt := tmYes) (me := me) (env := wipeE env ow) (st := o :: Bx ds k :: rest)
    (fun i acc st => ∃ j ys, j ≤ c * i ∧ st = o :: Bx ds (k + j) :: rest ∧ acc = ys.map .p ∧ All2 Q (xs.take i) ys) ⟨0, [], by omega, rfl, rfl, .nil⟩ (fun i x acc st hx ⟨j, ys, hj, e1, e2, hP⟩ => by
      subst e1 e2
      have hi2 : i < xs.length := by
        have := (List.getElem?_eq_some_iff.mp hx).1
        simpa using this
      have ex : x = V xs[i] := by
        rw [List.getElem?_map, List.getElem?_eq_getElem hi2] at hx
        exact (Option.some.inj hx).symm
      subst ex
      have hbud : j + c ≤ c * xs.length := by
        have : c * (i + 1) ≤ c * xs.length := Nat.mul_le_mul_left c hi2
        rw [Nat.mul_succ] at this
        omega
      obtain ⟨env1, hg, y, j2, hj2, he, hy⟩ := h _ (List.getElem_mem hi2) j hbud
      refine ⟨rfl, env1, hg, true, _, rfl, (fun z => nomatch z), fun _ => ⟨.p y, _, he, j + j2, ys ++ [y], by rw [Nat.mul_succ]; omega, by rw [Nat.add_assoc], by simp, ?_⟩⟩
      have := hP.snoc hy
      rw [List.take_append_getElem hi2] at this
      exact this) fun acc st _ => rfl
  subst e1 e2
  rw [List.length_map] at hj hP
  rw [List.take_length] at hP
  refine ⟨ys', j, hj, ?_, hP⟩
  unfold mComp
  rw [hi]
  simp only [Sl.R.bind, e, R.noExc, newLst, pureL_map]
  rw [if_pos (small_size (by rw [← hP.len]; omega))]
  rfl
def termsOf (ts : List T) (c : T → Int) : List (T × Int) := (ts.filter fun n => decide (c n ≠ 0)).map fun n => (n, c n)
theorem all2_fn {ts : List T} (nd : ts.Nodup) {Q : T → Int → Prop} {ys : List D} (h : All2 (fun t y => ∃ i, y = .tup [.str t, .int i] ∧ Q t i) ts ys) : ∃ c : T → Int, ys = ts.map (fun t => .tup [.str t, .int (c t)]) ∧ ∀ t ∈ ts, Q t (c t) := by
  induction h with
  | nil => exact ⟨fun _ => 0, rfl, fun t ht => nomatch ht⟩
  | @cons a b as bs hq t ih =>
    obtain ⟨n1, n2⟩ := List.nodup_cons.mp nd
    obtain ⟨c, e, hc⟩ := ih n2
    obtain ⟨i, rfl, hi⟩ := hq
    refine ⟨fun u => if u = a then i else c u, ?_, fun u hu => ?_⟩
    · rw [List.map_cons, e]
      have h1 : (if a = a then i else c a) = i := if_pos rfl
      have h2 : (as.map fun t => D.tup [.str t, .int (c t)]) = as.map fun t => D.tup [.str t, .int (if t = a then i else c t)] := List.map_congr_left fun u hu => by
        have ne : u ≠ a := fun z => n1 (z ▸ hu)
        rw [if_neg ne]
      show _ = D.tup [.str a, .int (if a = a then i else c a)] :: as.map fun t => D.tup [.str t, .int (if t = a then i else c t)]
      rw [h1, h2]
    · show Q u (if u = a then i else c u)
      rcases List.mem_cons.mp hu with rfl | hu
      · rw [if_pos rfl]; exact hi
      · have ne : u ≠ a := fun z => n1 (z ▸ hu)
        rw [if_neg ne]; exact hc u hu
theorem f_termsX (o : SObj) (ds : List Int) (hd : Dg ds) (rest : Sto) (k : Nat) (ts : List T) (nd : ts.Nodup) (m : Nat) (hm : m ≤ 1000) (hl : ts.length ≤ 100) (hk : k + 1000 < 1000000000) :
    ∃ (c : T → Int) (j : Nat), j ≤ 100 ∧ F__law_terms [.r 1, .p (.tup (ts.map .str)), pI m] (o :: Bx ds k :: rest) = .ok (.p (tmD (termsOf ts c))) (o :: Bx ds (k + j) :: rest) ∧ ∀ t ∈ ts, (c t).natAbs ≤ m := by
  obtain ⟨ys, j, hj, e, hP⟩ := comp_draw2 (ow := [4]) (mi := mIter (mVar 1)) (gm := gN 4) (me := mTup (aCons (mVar 4) (aCons (m2 fSub (mApp 2 F__law_draw (aCons (mVar 0) (aCons (m2 (fAdd false) (m2 (fMul false) (mD (.int 2)) (mVar 2)) (mD (.int 1))) aNil))) (mVar 2)) aNil)))
    (env := [some (.r 1), some (.p (.tup (ts.map .str))), some (pI m), none, none, none]) (o := o) (ds := ds) (k := k) (rest := rest) (xs := ts) (fun t => .p (.str t)) 1 (fun t y => ∃ i, y = .tup [.str t, .int i] ∧ i.natAbs ≤ m) ((iter_tupD rfl).trans (by rw [List.map_map]; rfl)) (by omega) fun t ht j hj => by
      obtain ⟨v, hv, ed⟩ := f_draw o ds hd rest (k + j) (2 * m + 1) (by omega) (by omega)
      refine ⟨_, rfl, .tup [.str t, .int ((v : Int) - m)], 1, by omega, ?_, _, rfl, by omega⟩
      have hmul : mulOk 2 (m : Int) = true := mulOk_small (by decide) (by omega)
      have ha : aCons (mVar 0) (aCons (m2 (fAdd false) (m2 (fMul false) (mD (.int 2)) (mVar 2)) (mD (.int 1))) aNil) [some (.r 1), some (.p (.tup (ts.map .str))), some (pI m), none, some (.p (.str t)), none] (o :: Bx ds (k + j) :: rest) = .ok [.r 1, pI (2 * m + 1 : Nat)] (o :: Bx ds (k + j) :: rest) :=
        a2 rfl (ev_2 (x := pI (2 * m)) (y := pI 1) (ev_2 (x := pI 2) (y := pI m) rfl rfl (by simp [fMul, hmul])) rfl (by simp [fAdd]))
      exact sv_tup (ds := [.str t, .int ((v : Int) - m)]) (sa rfl (sa (sv_2 (sv_app ha rfl ed) rfl rfl) rfl)) (by simp)
  obtain ⟨c, rfl, hc⟩ := all2_fn nd hP
  have e2 := comp_P (xs := ts) (ow := [5]) (mi := mIter (mVar 3)) (gm := gN 5) (mt := tVal (m2 (fEq true) (m2 fIx (mVar 5) (mD (.int 1))) (mD (.int 0)))) (me := mVar 5) (env := [some (.r 1), some (.p (.tup (ts.map .str))), some (pI m), some (.p (.lst (ts.map fun t => .tup [.str t, .int (c t)]))), none, none]) (st := o :: Bx ds (k + j) :: rest)
    (fun t => .p (.tup [.str t, .int (c t)])) (fun t => !(c t == 0)) (fun t => .tup [.str t, .int (c t)]) ((iter_lstD rfl).trans (by rw [List.map_map]; rfl)) rfl (by omega) fun t _ =>
      ⟨_, rfl, et_val (ev_2 (ev_2 (x := .p (.tup [.str t, .int (c t)])) (y := pI 1) rfl rfl rfl) rfl (congrFun (deq_intN _ _) _)), fun _ => rfl⟩
  refine ⟨c, j, by omega, ?_, hc⟩
  refine f_rt (es_asg e rfl (es_ret (by simp) (ev_call (a1 e2) ?_)))
  simp only [fTuple, viewL, newTup, pureL_map]
  rw [if_pos (by rw [List.length_map, sizeLine_eq]; exact Nat.le_trans (List.length_filter_le _ _) (by omega))]
  have ef : (ts.filter fun t => !(c t == 0)) = ts.filter fun n => decide (c n ≠ 0) := List.filter_congr fun n _ => by
    by_cases z : c n = 0
    · rw [z]; rfl
    · simp [z]
  rw [ef]
  unfold tmD termsOf
  rw [List.map_map]
  rfl
end Sh
end
section
set_option Elab.async false
set_option linter.all false
set_option maxRecDepth 100000
set_option maxHeartbeats 4000000
set_option exponentiation.threshold 100
namespace Sh
open PySem PySem.Spec L2 Sl PyProof.Rows
def rname (k : Nat) : T := 'r' :: decT (k : Int)
def RoP (ts : List T) (r : Ro) : Prop := (∃ c : T → Int, r.tm = termsOf ts c ∧ ∀ t ∈ ts, (c t).natAbs ≤ 3) ∧ (r.kd = most ∨ r.kd = just) ∧ r.bn.natAbs ≤ 14
theorem dec_len10 : ∀ k : Nat, k < 12 → (decT (k : Int)).length ≤ 2 := by decide
theorem xs_asc : ∀ n : Nat, n < 7 → ascT (xs n) = true := by decide
theorem rname_asc : ∀ n : Nat, n < 11 → ascT ((List.range n).map rname) = true := by decide
theorem rowsX_loop (ns ds : List Int) (hd : Dg ds) (many M : Nat) (hm : many < 7) (n : Nat) (hn : n < 11) (k : Nat) (hk : k + 100000 < 1000000000) :
    ∃ (j : Nat) (rs : List Ro) (e5 e6 : Option Val), j ≤ 110 * n ∧ (∀ r ∈ rs, RoP (xs many) r) ∧ rs.map Ro.nm = (List.range n).map rname ∧ forGo none (rngItems 0 n) (gN 5) rowsB (rngItems 0 n) [some (.r 1), some (pI many), some (pI M), some (.p (.tup ((xs many).map .str))), some (.r 2), none, none] [.scr ns, Bx ds k, .lst []] =
      .nx [some (.r 1), some (pI many), some (pI M), some (.p (.tup ((xs many).map .str))), some (.r 2), e5, e6] [.scr ns, Bx ds (k + j), .lst ((rs.map Ro.d).map .p)] ∧ (∀ v, e5 = some v → ∃ d, v = .p d) ∧ (∀ v, e6 = some v → ∃ d, v = .p d) := by
  have hxl : (xs many).length = many := by simp [xs]
  have hlen : (rngItems 0 n).length = n := by simp [rngItems]
  have := forGo_post (src := none) (all := rngItems 0 n) (gm := gN 5) (mb := rowsB) (env := [some (.r 1), some (pI many), some (pI M), some (.p (.tup ((xs many).map .str))), some (.r 2), none, none]) (st := [.scr ns, Bx ds k, .lst []])
    (Post := fun r => ∃ (j : Nat) (rs : List Ro) (e5 e6 : Option Val), j ≤ 110 * n ∧ (∀ r ∈ rs, RoP (xs many) r) ∧ rs.map Ro.nm = (List.range n).map rname ∧ r = .nx [some (.r 1), some (pI many), some (pI M), some (.p (.tup ((xs many).map .str))), some (.r 2), e5, e6] [.scr ns, Bx ds (k + j), .lst ((rs.map Ro.d).map .p)] ∧ (∀ v, e5 = some v → ∃ d, v = .p d) ∧ (∀ v, e6 = some v → ∃ d, v = .p d))
    (fun i env st => ∃ (j : Nat) (rs : List Ro) (e5 e6 : Option Val), j ≤ 110 * i ∧ (∀ r ∈ rs, RoP (xs many) r) ∧ rs.map Ro.nm = (List.range i).map rname ∧ env = [some (.r 1), some (pI many), some (pI M), some (.p (.tup ((xs many).map .str))), some (.r 2), e5, e6] ∧ st = [.scr ns, Bx ds (k + j), .lst ((rs.map Ro.d).map .p)] ∧ (∀ v, e5 = some v → ∃ d, v = .p d) ∧ (∀ v, e6 = some v → ∃ d, v = .p d))
    ⟨0, [], none, none, by omega, (fun r hr => (nomatch hr)), rfl, rfl, rfl, (fun v h => (nomatch h)), (fun v h => (nomatch h))⟩ ?_ ?_
  · exact this
  · rintro i x env st hx ⟨j, rs, e5, e6, hj, hr, hnm, rfl, rfl, h5, h6⟩
    have hi : i < n := by
      have := (List.getElem?_eq_some_iff.mp hx).1
      simpa [rngItems] using this
    have hrl : rs.length = i := by
      have := congrArg List.length hnm
      simpa using this
    have ex : x = pI i := by
      simp only [rngItems, List.getElem?_map] at hx
      rw [List.getElem?_range (by simpa using hi)] at hx
      simp at hx
      exact hx.symm
    subst ex
    refine ⟨rfl, [some (.r 1), some (pI many), some (pI M), some (.p (.tup ((xs many).map .str))), some (.r 2), some (pI i), e6], rfl, ?_⟩
    obtain ⟨v, hv, ed⟩ := f_draw (.scr ns) ds hd [.lst ((rs.map Ro.d).map .p)] (k + j) 6 (by omega) (by omega)
    have hkind : ∃ kd, (kd = most ∨ kd = just) ∧ mIf (tVal (m2 (fEq false) (mApp 2 F__law_draw (aCons (mVar 0) (aCons (mD (.int 6)) aNil))) (mD (.int 0)))) (mD (.str ['j', 'u', 's', 't'])) (mD (.str ['m', 'o', 's', 't'])) [some (.r 1), some (pI many), some (pI M), some (.p (.tup ((xs many).map .str))), some (.r 2), some (pI i), e6] [.scr ns, Bx ds (k + j), .lst ((rs.map Ro.d).map .p)] = .ok (.p (.str kd)) [.scr ns, Bx ds (k + j + 1), .lst ((rs.map Ro.d).map .p)] := by
      have ht : tVal (m2 (fEq false) (mApp 2 F__law_draw (aCons (mVar 0) (aCons (mD (.int 6)) aNil))) (mD (.int 0))) [some (.r 1), some (pI many), some (pI M), some (.p (.tup ((xs many).map .str))), some (.r 2), some (pI i), e6] [.scr ns, Bx ds (k + j), .lst ((rs.map Ro.d).map .p)] = .ok (deq (.int v) (.int 0)) [.scr ns, Bx ds (k + j + 1), .lst ((rs.map Ro.d).map .p)] :=
        st_val (sv_2 (sv_app (a2 rfl rfl) rfl ed) rfl rfl)
      cases hq : deq (.int (v : Nat)) (.int 0) with
      | true => exact ⟨just, .inr rfl, sv_if ht (fun _ => rfl) fun z => by rw [hq] at z; cases z⟩
      | false => exact ⟨most, .inl rfl, sv_if ht (fun z => by rw [hq] at z; cases z) fun _ => rfl⟩
    obtain ⟨kd, hkd, ek⟩ := hkind
    obtain ⟨c, j2, hj2, et, hc⟩ := f_termsX (.scr ns) ds hd [.lst ((rs.map Ro.d).map .p)] (k + j + 1) (xs many) (asc_nodup (xs_asc many hm)) 3 (by omega) (by rw [hxl]; omega) (by omega)
    obtain ⟨u, hu, ed2⟩ := f_draw (.scr ns) ds hd [.lst ((rs.map Ro.d).map .p)] (k + j + 1 + j2) 14 (by omega) (by omega)
    have hstr : m2 (fAdd false) (mD (.str ['r'])) (mCall fStr (aCons (mVar 5) aNil)) [some (.r 1), some (pI many), some (pI M), some (.p (.tup ((xs many).map .str))), some (.r 2), some (pI i), some (.p (.str kd))] [.scr ns, Bx ds (k + j + 1), .lst ((rs.map Ro.d).map .p)] = .ok (.p (.str (rname i))) [.scr ns, Bx ds (k + j + 1), .lst ((rs.map Ro.d).map .p)] := by
      refine sv_2 rfl (sv_call (a1 rfl) (v := .p (.str (decT i))) (congrFun (str_small (by omega)) _)) ?_
      have hle : ['r'].length + (decT (i : Int)).length ≤ tMax := by
        have h1 := dec_len10 i (by omega)
        have h2 : (10 : Nat) ≤ tMax := by decide
        simp only [List.length_cons, List.length_nil]
        omega
      simp only [fAdd]
      rw [if_pos hle]
      rfl
    let r0 : Ro := ⟨rname i, termsOf (xs many) c, kd, (u : Int) - 4⟩
    have hrow : mTup (aCons (m2 (fAdd false) (mD (.str ['r'])) (mCall fStr (aCons (mVar 5) aNil))) (aCons (mApp 3 F__law_terms (aCons (mVar 0) (aCons (mVar 3) (aCons (mD (.int 3)) aNil)))) (aCons (mVar 6) (aCons (m2 fSub (mApp 2 F__law_draw (aCons (mVar 0) (aCons (mD (.int 14)) aNil))) (mD (.int 4))) aNil))))
        [some (.r 1), some (pI many), some (pI M), some (.p (.tup ((xs many).map .str))), some (.r 2), some (pI i), some (.p (.str kd))] [.scr ns, Bx ds (k + j + 1), .lst ((rs.map Ro.d).map .p)] = .ok (.p r0.d) [.scr ns, Bx ds (k + j + 1 + j2 + 1), .lst ((rs.map Ro.d).map .p)] :=
      sv_tup (ds := [.str (rname i), tmD (termsOf (xs many) c), .str kd, .int ((u : Int) - 4)]) (sa hstr (sa (sv_app (a3 rfl rfl rfl) rfl et) (sa rfl (sa (sv_2 (sv_app (a2 rfl rfl) rfl ed2) rfl rfl) rfl)))) (by simp)
    have hexp : sExpr (mMeth isLstV fApp (mVar 4) (aCons (mTup (aCons (m2 (fAdd false) (mD (.str ['r'])) (mCall fStr (aCons (mVar 5) aNil))) (aCons (mApp 3 F__law_terms (aCons (mVar 0) (aCons (mVar 3) (aCons (mD (.int 3)) aNil)))) (aCons (mVar 6) (aCons (m2 fSub (mApp 2 F__law_draw (aCons (mVar 0) (aCons (mD (.int 14)) aNil))) (mD (.int 4))) aNil))))) aNil))
        [some (.r 1), some (pI many), some (pI M), some (.p (.tup ((xs many).map .str))), some (.r 2), some (pI i), some (.p (.str kd))] [.scr ns, Bx ds (k + j + 1), .lst ((rs.map Ro.d).map .p)] = .nx [some (.r 1), some (pI many), some (pI M), some (.p (.tup ((xs many).map .str))), some (.r 2), some (pI i), some (.p (.str kd))] [.scr ns, Bx ds (k + j + 1 + j2 + 1), .lst (((rs ++ [r0]).map Ro.d).map .p)] := by
      have ea := sa (am := aNil) (xs := []) hrow rfl
      unfold sExpr mMeth
      simp only [mVar, Sl.R.bind, isLstV, List.getElem?_cons_zero, List.getElem?_cons_succ]
      rw [ea]
      simp only [Sl.R.bind]
      rw [app_at (l := 2) (vs := (rs.map Ro.d).map .p) rfl (by simp; omega)]
      simp [Sl.R.lift, Sl.R.then]
    have hbody : rowsB [some (.r 1), some (pI many), some (pI M), some (.p (.tup ((xs many).map .str))), some (.r 2), some (pI i), e6] [.scr ns, Bx ds (k + j), .lst ((rs.map Ro.d).map .p)] = .nx [some (.r 1), some (pI many), some (pI M), some (.p (.tup ((xs many).map .str))), some (.r 2), some (pI i), some (.p (.str kd))] [.scr ns, Bx ds (k + j + 1 + j2 + 1), .lst (((rs ++ [r0]).map Ro.d).map .p)] := es_asg ek rfl (by rw [seq_end]; exact hexp)
    rw [hbody]
    refine ⟨j + 1 + j2 + 1, rs ++ [r0], some (pI i), some (.p (.str kd)), by omega, fun r hr2 => ?_, ?_, rfl, by simp only [Nat.add_assoc], fun v h => ⟨_, (Option.some.inj h).symm⟩, fun v h => ⟨_, (Option.some.inj h).symm⟩⟩
    · rcases List.mem_append.mp hr2 with h | h
      · exact hr r h
      · rw [List.mem_singleton.mp h]
        exact ⟨⟨c, rfl, hc⟩, hkd, by show ((u : Int) - 4).natAbs ≤ 14; omega⟩
    · rw [List.map_append, hnm, List.range_succ, List.map_append]; rfl
  · rintro env st ⟨j, rs, e5, e6, hj, hr, hnm, rfl, rfl, h5, h6⟩
    rw [hlen] at hj hnm
    exact ⟨rfl, j, rs, e5, e6, hj, hr, hnm, rfl, h5, h6⟩
end Sh
end
section
set_option Elab.async false
set_option linter.all false
set_option maxRecDepth 100000
set_option maxHeartbeats 4000000
set_option exponentiation.threshold 100
namespace Sh
open PySem PySem.Spec L2 Sl PyProof.Rows
theorem noDct_tm : ∀ tm : List (T × Int), noDctL (tm.map fun p => D.tup [.str p.1, .int p.2]) = true ∧ depL (tm.map fun p => D.tup [.str p.1, .int p.2]) ≤ 2
  | [] => by simp [noDctL, depL]
  | p :: tm => by
    obtain ⟨h1, h2⟩ := noDct_tm tm
    simp only [List.map_cons, noDctL, noDct, h1, depL, dep, Bool.and_true, true_and]
    omega
theorem noDct_ro : ∀ rs : List Ro, noDctL (rs.map Ro.d) = true ∧ depL (rs.map Ro.d) ≤ 5
  | [] => by simp [noDctL, depL]
  | r :: rs => by
    obtain ⟨h1, h2⟩ := noDct_ro rs
    obtain ⟨k1, k2⟩ := noDct_tm r.tm
    have e1 : noDct (tmD r.tm) = true := k1
    have e2 : dep (tmD r.tm) ≤ 3 := by
      show dep (.tup (r.tm.map _)) ≤ 3
      simp only [dep]; omega
    simp only [List.map_cons, noDctL, Ro.d, noDct, h1, e1, depL, dep, Bool.and_true, true_and]
    omega
theorem alike_tm : ∀ a b : List (T × Int), PySem.W.alikeAll (toPyL (a.map fun p => D.tup [.str p.1, .int p.2])) (toPyL (b.map fun p => D.tup [.str p.1, .int p.2])) = true
  | [], [] => rfl
  | [], _ :: _ => rfl
  | _ :: _, [] => rfl
  | p :: a, q :: b => by
    have ih := alike_tm a b
    simp only [List.map_cons, toPyL, toPy, PySem.W.alikeAll, PySem.W.alike, ih, Bool.and_true]
theorem sortOk_ro {rs : List Ro} (hl : rs.length ≤ 1000) : sortOk (rs.map Ro.d) = true := by
  obtain ⟨h1, h4⟩ := noDct_ro rs
  have h2 : alikeB (rs.map Ro.d) = true := List.all_eq_true.mpr fun d hd => List.all_eq_true.mpr fun e he => by
    obtain ⟨p, _, rfl⟩ := List.mem_map.mp hd
    obtain ⟨q, _, rfl⟩ := List.mem_map.mp he
    have := alike_tm p.tm q.tm
    simp only [Ro.d, tmD, toPy, toPyL, PySem.W.alike, PySem.W.alikeAll, this, Bool.and_true]
  have h3 : (rs.map Ro.d).all isTup1 = true := List.all_eq_true.mpr fun d hd => by
    obtain ⟨p, _, rfl⟩ := List.mem_map.mp hd
    rfl
  have h5 : (rs.map Ro.d).length ≤ sizeLine := by rw [List.length_map, sizeLine_eq]; omega
  simp only [sortOk, h1, h2, h3, Bool.true_and, Bool.true_or, Bool.and_eq_true, decide_eq_true_eq]
  exact ⟨by omega, h5⟩
theorem sort_ro {rs : List Ro} (h : ascT (rs.map Ro.nm) = true) : sortD (rs.map Ro.d) = rs.map Ro.d := sortD_asc Ro.d Ro.nm (fun r => [tmD r.tm, .str r.kd, .int r.bn]) (fun _ => rfl) h
end Sh
end
section
set_option Elab.async false
set_option linter.all false
set_option maxRecDepth 100000
set_option maxHeartbeats 4000000
set_option exponentiation.threshold 100
namespace Sh
open PySem PySem.Spec L2 Sl PyProof.Rows
theorem f_rowsX (ns ds : List Int) (hd : Dg ds) (many M : Nat) (hm : many < 7) (hM : M < 10) (k : Nat) (hk : k + 200000 < 1000000000) :
    ∃ (j : Nat) (R : Rw), j ≤ 2000 ∧ R.ns = xs many ∧ R.rs.length ≤ M ∧ (∀ r ∈ R.rs, RoP (xs many) r) ∧ R.rs.map Ro.nm = (List.range R.rs.length).map rname ∧ F__law_rows [.r 1, pI many, pI M] [.scr ns, Bx ds k] = .ok (.p R.d) [.scr ns, Bx ds (k + j)] := by
  have hxl : (xs many).length = many := by simp [xs]
  have e1 := comp_P0 (xs := List.range many) (ow := [5]) (mi := mRng1 (aCons (mVar 1) aNil)) (gm := gN 5) (me := m2 (fAdd false) (mD (.str ['x'])) (mCall fStr (aCons (mVar 5) aNil))) (env := [some (.r 1), some (pI many), some (pI M), none, none, none, none]) (st := [.scr ns, Bx ds k]) (src := none)
    (fun i : Nat => pI (i : Nat)) (fun i => .str ('x' :: decT (i : Int))) (by rw [← rng_map]; exact srng1 (a1 rfl) (by omega)) rfl (by simp; omega) fun i hi => by
      have hi2 : i < many := List.mem_range.mp hi
      refine ⟨_, rfl, ev_2 rfl (ev_call (a1 rfl) (v := .p (.str (decT i))) (congrFun (str_small (by omega)) _)) ?_⟩
      have hle : ['x'].length + (decT (i : Int)).length ≤ tMax := by
        have h1 := dec_len10 i (by omega)
        have h2 : (10 : Nat) ≤ tMax := by decide
        simp only [List.length_cons, List.length_nil]
        omega
      simp only [fAdd]
      rw [if_pos hle]
      rfl
  have e1b : ((List.range many).map fun i : Nat => D.str ('x' :: decT (i : Int))) = (xs many).map .str := by
    simp only [xs, List.map_map]
    rfl
  rw [e1b] at e1
  have e2 : mCall fTuple (aCons (mComp false [5] (mRng1 (aCons (mVar 1) aNil)) (gN 5) tmYes (m2 (fAdd false) (mD (.str ['x'])) (mCall fStr (aCons (mVar 5) aNil)))) aNil) [some (.r 1), some (pI many), some (pI M), none, none, none, none] [.scr ns, Bx ds k] = .ok (.p (.tup ((xs many).map .str))) [.scr ns, Bx ds k] := by
    refine ev_call (a1 e1) ?_
    simp only [fTuple, viewL, newTup, pureL_map]
    rw [if_pos (by rw [List.length_map, hxl, sizeLine_eq]; omega)]
  obtain ⟨n, hn, ed⟩ := f_draw (.scr ns) ds hd [.lst []] k (M + 1) (by omega) (by omega)
  obtain ⟨j, rs, e5, e6, hj, hr, hnm, el, h5, h6⟩ := rowsX_loop ns ds hd many M hm n (by omega) (k + 1) (by omega)
  have hrl : rs.length = n := by
    have := congrArg List.length hnm
    simpa using this
  have hasc : ascT (rs.map Ro.nm) = true := by rw [hnm]; exact rname_asc n (by omega)
  refine ⟨1 + j, ⟨xs many, rs⟩, by omega, rfl, by show rs.length ≤ M; omega, hr, by show rs.map Ro.nm = (List.range rs.length).map rname; rw [hrl]; exact hnm, f_rt ?_⟩
  refine es_asg (env' := [some (.r 1), some (pI many), some (pI M), some (.p (.tup ((xs many).map .str))), none, none, none]) e2 rfl ?_
  refine es_asg (v := .r 2) (st' := [.scr ns, Bx ds k, .lst []]) (env' := [some (.r 1), some (pI many), some (pI M), some (.p (.tup ((xs many).map .str))), some (.r 2), none, none]) (by simp [mLst, aNil, Sl.R.bind, newLst, Sl.R.lift]) rfl ?_
  have hrng : mRng1 (aCons (mApp 2 F__law_draw (aCons (mVar 0) (aCons (m2 (fAdd false) (mVar 2) (mD (.int 1))) aNil))) aNil) [some (.r 1), some (pI many), some (pI M), some (.p (.tup ((xs many).map .str))), some (.r 2), none, none] [.scr ns, Bx ds k, .lst []] = .ok (rngItems 0 n, none) [.scr ns, Bx ds (k + 1), .lst []] := by
    have ha : aCons (mApp 2 F__law_draw (aCons (mVar 0) (aCons (m2 (fAdd false) (mVar 2) (mD (.int 1))) aNil))) aNil [some (.r 1), some (pI many), some (pI M), some (.p (.tup ((xs many).map .str))), some (.r 2), none, none] [.scr ns, Bx ds k, .lst []] = .ok [pI n] [.scr ns, Bx ds (k + 1), .lst []] :=
      sa (sv_app (a2 rfl (sv_2 (v := pI ((M + 1 : Nat) : Int)) rfl rfl rfl)) rfl ed) rfl
    exact srng1 ha (by omega)
  refine (seq_nx (for_run hrng el)).trans ?_
  have hz : frzS 2 [SObj.scr ns, Bx ds (k + 1 + j), .lst ((rs.map Ro.d).map .p)] (some (.r 2)) = some (.p (.lst (rs.map Ro.d))) := frz_lst rfl (Nat.le_refl _)
  refine es_retZ (n0 := 2) (st := [.scr ns, Bx ds (k + (1 + j))]) (by simp) (by simp [Nat.add_assoc]) rfl (env' := [some (.r 1), some (pI many), some (pI M), some (.p (.tup ((xs many).map .str))), some (.p (.lst (rs.map Ro.d))), e5, e6]) ?_ ?_
  · rw [← hz]
    simp only [List.map_cons, List.map_nil, frz_opt h5, frz_opt h6]
    rfl
  refine ev_tup (ds := [.str ['r', 'o', 'w', 's'], .tup ((xs many).map .str), .tup (rs.map Ro.d)]) (a3 rfl rfl (ev_call (a1 (ev_call (v := .p (.lst (rs.map Ro.d))) (a1 rfl) ?_)) ?_)) (by simp)
  · simp only [fSorted, viewL, pureL_map]
    rw [if_pos (sortOk_ro (by omega)), sort_ro hasc]
    unfold newLst
    simp only [pureL_map]
    rw [if_pos (small_size (by rw [List.length_map]; omega))]
  · simp only [fTuple, viewL, newTup, pureL_map]
    rw [if_pos (by rw [List.length_map, sizeLine_eq]; omega)]
end Sh
end
section
set_option Elab.async false
set_option linter.all false
set_option maxRecDepth 100000
set_option maxHeartbeats 4000000
set_option exponentiation.threshold 100
namespace Sh
open PySem PySem.Spec L2 Sl PyProof.Rows
theorem terms_in {ts : List T} {c : T → Int} : ∀ p ∈ termsOf ts c, p.1 ∈ ts := fun p hp => by
  obtain ⟨n, hn, rfl⟩ := List.mem_map.mp hp
  exact (List.mem_filter.mp hn).1
end Sh
end
section
set_option Elab.async false
set_option linter.all false
set_option maxRecDepth 100000
set_option maxHeartbeats 4000000
set_option exponentiation.threshold 100
namespace Sh
open PySem PySem.Spec L2 Sl PyProof.Rows
structure Turned (I I2 : LpIn) : Prop where
  n : I2.n = I.m
  free : ∀ i, i < I.m → I2.free.getD i false = true
  freeI : ∀ k, k < I.n → I.free.getD k false = true
  goal : ∀ i, i < I.m → I2.gl i = - I.bd i
  col : ∀ k, k < I.n → ∃ j, j < I2.m ∧ I2.kinds.getD j [] ≠ mostT ∧ I2.bd j = I.gl k ∧ ∀ i, i < I.m → I2.a j i = I.a i k
  sgn : ∀ i, i < I.m → I.kinds.getD i [] = mostT → ∃ j, j < I2.m ∧ I2.kinds.getD j [] = mostT ∧ I2.bd j = 0 ∧ ∀ i', i' < I.m → I2.a j i' = if i' = i then -1 else 0
  all : ∀ j, j < I2.m → (I2.kinds.getD j [] ≠ mostT ∧ ∃ k, k < I.n ∧ I2.bd j = I.gl k ∧ ∀ i, i < I.m → I2.a j i = I.a i k) ∨ (I2.kinds.getD j [] = mostT ∧ ∃ i, i < I.m ∧ I.kinds.getD i [] = mostT ∧ I2.bd j = 0 ∧ ∀ i', i' < I.m → I2.a j i' = if i' = i then -1 else 0)
section
variable {I I2 : LpIn}
theorem neg_row {m i : Nat} (hi : i < m) {a Y : Nat → Int} (h : ∀ i', i' < m → a i' = if i' = i then -1 else 0) : Lp.sm m (fun k => a k * Y k) = - Y i := by
  rw [Lp.sm_one i hi fun k hk ne => by rw [h k hk, if_neg ne, Int.zero_mul], h i hi, if_pos rfl]
  omega
theorem Turned.fac (t : Turned I I2) {w : Int} {Y : Nat → Int} (f : Feas I2 w I2.bd Y) : Fac I w I.gl Y := by
  have fr : ∀ k, k < I.n → Lp.sm I.m (fun i => Y i * I.a i k) = w * I.gl k := fun k hk => by
    obtain ⟨j, hj, hkd, hb, ha⟩ := t.col k hk
    have := f.just j hj hkd
    rw [hb, t.n] at this
    rw [← this]
    exact Lp.sm_congr fun i hi => by rw [ha i hi, Int.mul_comm]
  refine ⟨fun i hi q => ?_, fun k hk _ => fr k hk, fun k hk => by rw [fr k hk]; exact Int.le_refl _⟩
  obtain ⟨j, hj, hkd, hb, ha⟩ := t.sgn i hi q
  have := f.most j hj hkd
  rw [hb, t.n, neg_row hi ha] at this
  omega
end
end Sh
end
section
set_option Elab.async false
set_option linter.all false
set_option maxRecDepth 100000
set_option maxHeartbeats 4000000
set_option exponentiation.threshold 100
namespace Sh
open PySem PySem.Spec L2 Sl PyProof.Rows
section
variable {I I2 : LpIn}
theorem Turned.aim (t : Turned I I2) (Y : Nat → Int) : Lp.sm I2.n (fun i => I2.gl i * Y i) = - Lp.sm I.m (fun i => Y i * I.bd i) := by
  rw [t.n, ← Lp.sm_neg]
  exact Lp.sm_congr fun i hi => by rw [t.goal i hi]; grind
end
end Sh
end
section
set_option Elab.async false
set_option linter.all false
set_option maxRecDepth 100000
set_option maxHeartbeats 4000000
set_option exponentiation.threshold 100
namespace Sh
open PySem PySem.Spec L2 Sl PyProof.Rows
end Sh
end
section
set_option Elab.async false
set_option linter.all false
set_option maxRecDepth 100000
set_option maxHeartbeats 4000000
set_option exponentiation.threshold 100
namespace Sh
open PySem PySem.Spec L2 Sl PyProof.Rows
end Sh
end
section
set_option Elab.async false
set_option linter.all false
set_option maxRecDepth 100000
set_option maxHeartbeats 4000000
set_option exponentiation.threshold 100
namespace Sh
open PySem PySem.Spec L2 Sl PyProof.Rows
end Sh
end
section
set_option Elab.async false
set_option linter.all false
set_option maxRecDepth 100000
set_option maxHeartbeats 4000000
set_option exponentiation.threshold 100
namespace Sh
open PySem PySem.Spec L2 Sl PyProof.Rows
end Sh
end
section
set_option Elab.async false
set_option linter.all false
set_option maxRecDepth 100000
set_option maxHeartbeats 4000000
set_option exponentiation.threshold 100
namespace Sh
open PySem PySem.Spec L2 Sl PyProof.Rows
theorem ev_app1S {env : Slots} {st st1 : Sto} {mo ma : EM} {l : Nat} {vs0 vs : List Val} {x : Val} (ho : mo env st = .ok (.r l) st) (h0 : st[l]? = some (.lst vs0)) (ha : ma env st = .ok x st1) (hs : st1[l]? = some (.lst vs)) (hl : vs.length ≤ 100000) : mMeth isLstV fApp mo (aCons ma aNil) env st = .ok (.p .non) (st1.set l (.lst (vs ++ [x]))) := by
  unfold mMeth
  rw [ho]
  simp only [Sl.R.bind, isLstV, h0]
  rw [sa ha (rfl : aNil env st1 = .ok [] st1)]
  simp only [Sl.R.bind, app_at hs hl]
  rfl
end Sh
end
section
set_option Elab.async false
set_option linter.all false
set_option maxRecDepth 100000
set_option maxHeartbeats 4000000
set_option exponentiation.threshold 100
namespace Sh
open PySem PySem.Spec L2 Sl PyProof.Rows
end Sh
end
section
set_option Elab.async false
set_option linter.all false
set_option maxRecDepth 100000
set_option maxHeartbeats 4000000
set_option exponentiation.threshold 100
namespace Sh
open PySem PySem.Spec L2 Sl PyProof.Rows
end Sh
end
section
set_option Elab.async false
set_option linter.all false
set_option maxRecDepth 100000
set_option maxHeartbeats 4000000
set_option exponentiation.threshold 100
namespace Sh
open PySem PySem.Spec L2 Sl PyProof.Rows
end Sh
end
section
set_option Elab.async false
set_option linter.all false
set_option maxRecDepth 100000
set_option maxHeartbeats 0
namespace Sh
open PySem PySem.Spec L2 Sl PyProof.Rows
end Sh
end
section
set_option Elab.async false
set_option linter.all false
set_option maxRecDepth 100000
set_option maxHeartbeats 4000000
set_option exponentiation.threshold 100
namespace Sh
open PySem PySem.Spec L2 Sl PyProof.Rows
end Sh
end
section
set_option Elab.async false
set_option linter.all false
set_option maxRecDepth 100000
set_option maxHeartbeats 4000000
set_option exponentiation.threshold 100
namespace Sh
open PySem PySem.Spec L2 Sl PyProof.Rows
end Sh
end
section
set_option Elab.async false
set_option linter.all false
set_option maxRecDepth 100000
set_option maxHeartbeats 4000000
set_option exponentiation.threshold 100
namespace Sh
open PySem PySem.Spec L2 Sl PyProof.Rows
abbrev Bag := List (T × Nat × List Rat)
def addJ (u : T) (q : Rat) (j : Nat) (acc : Bag) : Bag := if u ∈ acc.map Prod.fst then acc.map (fun a => if a.1 = u then (a.1, a.2.1, a.2.2 ++ [q]) else a) else acc ++ [(u, j, [q])]
def ofB (acc : Bag) (w : T) : List Rat := match acc.find? (fun a => decide (a.1 = w)) with
  | some a => a.2.2
  | none => []
def BagOk (acc : Bag) : Prop := (acc.map Prod.fst).Nodup ∧ (acc.map fun a => a.2.1).Nodup
theorem ofB_cons (a : T × Nat × List Rat) (acc : Bag) (w : T) : ofB (a :: acc) w = if a.1 = w then a.2.2 else ofB acc w := by
  unfold ofB
  by_cases q : a.1 = w
  · rw [List.find?_cons_of_pos (by simpa using q), if_pos q]
  · rw [List.find?_cons_of_neg (by simpa using q), if_neg q]
theorem ofB_app (A : Bag) (u : T) (j : Nat) (qs : List Rat) (w : T) (h : u ∉ A.map Prod.fst) : ofB (A ++ [(u, j, qs)]) w = if u = w then qs else ofB A w := by
  induction A with
  | nil => rw [List.nil_append, ofB_cons]
  | cons a A ih =>
    rw [List.map_cons, List.mem_cons, not_or] at h
    rw [List.cons_append, ofB_cons, ih h.2, ofB_cons]
    by_cases q : a.1 = w
    · rw [if_pos q, if_pos q, if_neg fun z => h.1 (by rw [z, q])]
    · rw [if_neg q, if_neg q]
theorem ofB_none {A : Bag} {w : T} (h : w ∉ A.map Prod.fst) : ofB A w = [] := by
  induction A with
  | nil => rfl
  | cons a A ih =>
    rw [List.map_cons, List.mem_cons, not_or] at h
    rw [ofB_cons, if_neg fun z => h.1 z.symm, ih h.2]
theorem addJ_keys (u : T) (q : Rat) (j : Nat) (acc : Bag) : (addJ u q j acc).map Prod.fst = if u ∈ acc.map Prod.fst then acc.map Prod.fst else acc.map Prod.fst ++ [u] := by
  unfold addJ
  split
  · rw [List.map_map]
    exact List.map_congr_left fun a _ => by
      show (if a.1 = u then (a.1, a.2.1, a.2.2 ++ [q]) else a).1 = a.1
      split <;> rfl
  · rw [List.map_append]; rfl
theorem addJ_of (u : T) (q : Rat) (j : Nat) (acc : Bag) (w : T) : ofB (addJ u q j acc) w = if u = w then ofB acc w ++ [q] else ofB acc w := by
  unfold addJ
  split
  · rename_i hu
    have key : ∀ A : Bag, w ∈ A.map Prod.fst ∨ u ≠ w → ofB (A.map fun a => if a.1 = u then (a.1, a.2.1, a.2.2 ++ [q]) else a) w = if u = w then ofB A w ++ [q] else ofB A w := by
      intro A
      induction A with
      | nil =>
        rintro (h | h)
        · cases h
        · rw [if_neg h]; rfl
      | cons a A ih =>
        intro h
        rw [List.map_cons, ofB_cons, ofB_cons]
        have e1 : (if a.1 = u then (a.1, a.2.1, a.2.2 ++ [q]) else a).1 = a.1 := by split <;> rfl
        rw [e1]
        by_cases q1 : a.1 = w
        · rw [if_pos q1, if_pos q1]
          by_cases q2 : u = w
          · rw [if_pos q2, if_pos (by rw [q1, q2])]
          · rw [if_neg q2, if_neg fun z => q2 (by rw [← z, q1])]
        · rw [if_neg q1, if_neg q1]
          refine ih ?_
          rcases h with h | h
          · rw [List.map_cons, List.mem_cons] at h
            exact .inl (h.resolve_left fun z => q1 z.symm)
          · exact .inr h
    by_cases q2 : u = w
    · subst q2
      exact key acc (.inl hu)
    · exact key acc (.inr q2)
  · rename_i hu
    rw [ofB_app _ _ _ _ _ hu]
    by_cases q2 : u = w
    · subst q2
      rw [if_pos rfl, if_pos rfl, ofB_none hu]; rfl
    · rw [if_neg q2, if_neg q2]
end Sh
end
section
set_option Elab.async false
set_option linter.all false
set_option maxRecDepth 100000
set_option maxHeartbeats 4000000
set_option exponentiation.threshold 100
namespace Sh
open PySem PySem.Spec L2 Sl PyProof.Rows
structure Held (st : Sto) (acc : Bag) (σ : Sto) : Prop where
  ok : BagOk acc
  pre : σ.take st.length = st
  dct : σ[st.length]? = some (.dct (acc.map fun a => .inr a.1) (acc.map fun a => .r a.2.1))
  lst : ∀ a ∈ acc, st.length < a.2.1 ∧ σ[a.2.1]? = some (.lst (a.2.2.map fun q => .p (frD q)))
theorem Held.lt {st σ : Sto} {acc : Bag} (h : Held st acc σ) : st.length < σ.length := (List.getElem?_eq_some_iff.mp h.dct).1
end Sh
end
section
set_option Elab.async false
set_option linter.all false
set_option maxRecDepth 100000
set_option maxHeartbeats 4000000
set_option exponentiation.threshold 100
namespace Sh
open PySem PySem.Spec L2 Sl PyProof.Rows
structure Grown (acc : Bag) (PS : List (T × Rat)) (acc' : Bag) : Prop where
  of : ∀ w, ofB acc' w = ofB acc w ++ (PS.filter fun p => decide (p.1 = w)).map Prod.snd
  keys : ∀ w, w ∈ acc'.map Prod.fst ↔ w ∈ acc.map Prod.fst ∨ w ∈ PS.map Prod.fst
  len : acc'.length ≤ acc.length + PS.length
  qs : ∀ N, (∀ a ∈ acc, a.2.2.length ≤ N) → ∀ a ∈ acc', a.2.2.length ≤ N + PS.length
theorem Grown.refl (acc : Bag) : Grown acc [] acc := ⟨fun w => by simp, fun w => by simp, by simp, fun N h a ha => by have := h a ha; simp; omega⟩
theorem Grown.trans {a b c : Bag} {P Q : List (T × Rat)} (h : Grown a P b) (k : Grown b Q c) : Grown a (P ++ Q) c := by
  refine ⟨fun w => ?_, fun w => ?_, ?_, fun N hN x hx => ?_⟩
  · rw [k.of, h.of, List.filter_append, List.map_append, List.append_assoc]
  · rw [k.keys, h.keys, List.map_append, List.mem_append, or_assoc]
  · have := h.len; have := k.len; rw [List.length_append]; omega
  · have := k.qs (N + P.length) (h.qs N hN) x hx
    rw [List.length_append]; omega
theorem Grown.one (acc : Bag) (u : T) (q : Rat) (j : Nat) : Grown acc [(u, q)] (addJ u q j acc) := by
  refine ⟨fun w => ?_, fun w => ?_, ?_, fun N hN a ha => ?_⟩
  · rw [addJ_of]
    by_cases e : u = w
    · rw [if_pos e, List.filter_cons_of_pos (by simpa using e)]; rfl
    · rw [if_neg e, List.filter_cons_of_neg (by simpa using e)]; simp
  · rw [addJ_keys]
    split
    · rename_i h
      constructor
      · exact .inl
      · rintro (z | z)
        · exact z
        · rw [List.map_singleton, List.mem_singleton] at z
          rw [z]; exact h
    · rw [List.mem_append]; simp
  · have := congrArg List.length (addJ_keys u q j acc)
    rw [List.length_map] at this
    rw [this]
    split
    · rw [List.length_map]; simp
    · rw [List.length_append, List.length_map]; simp
  · unfold addJ at ha
    split at ha
    · obtain ⟨b, hb, rfl⟩ := List.mem_map.mp ha
      have := hN b hb
      split
      · simp only [List.length_append, List.length_cons, List.length_nil]; omega
      · simp only [List.length_cons, List.length_nil]; omega
    · rcases List.mem_append.mp ha with hb | hb
      · have := hN a hb; simp only [List.length_cons, List.length_nil]; omega
      · rw [List.mem_singleton.mp hb]; simp only [List.length_cons, List.length_nil]; omega
end Sh
end
section
set_option Elab.async false
set_option linter.all false
set_option maxRecDepth 100000
set_option maxHeartbeats 4000000
set_option exponentiation.threshold 100
namespace Sh
open PySem PySem.Spec L2 Sl PyProof.Rows
section
variable {s b l : Nat} {R : Rw} {fs : List (T × Rat)}
end
end Sh
end
section
set_option Elab.async false
set_option linter.all false
set_option maxRecDepth 100000
set_option maxHeartbeats 4000000
set_option exponentiation.threshold 100
namespace Sh
open PySem PySem.Spec L2 Sl PyProof.Rows
section
variable {s b l : Nat} {R : Rw} {fs : List (T × Rat)}
end
end Sh
end
section
set_option Elab.async false
set_option linter.all false
set_option maxRecDepth 100000
set_option maxHeartbeats 4000000
set_option exponentiation.threshold 100
namespace Sh
open PySem PySem.Spec L2 Sl PyProof.Rows
instance : Inhabited Rat := ⟨0⟩
def wellL : D → Bool
  | .tup ds => decide (ds.length ≤ 1000) && wellLs ds
  | .lst _ => false
  | .dct _ _ => false
  | .str t => decide (t.length ≤ 100)
  | _ => true
where wellLs : List D → Bool
  | [] => true
  | d :: ds => wellL d && wellLs ds
theorem wellLs_all : ∀ {ds : List D}, wellL.wellLs ds = true ↔ ∀ d ∈ ds, wellL d = true
  | [] => by simp [wellL.wellLs]
  | d :: ds => by simp [wellL.wellLs, wellLs_all (ds := ds)]
theorem dep_at : ∀ {ds : List D} {d : D}, d ∈ ds → dep d ≤ depL ds
  | [], _, h => nomatch h
  | e :: ds, d, h => by
    simp only [depL]
    rcases List.mem_cons.mp h with rfl | h
    · omega
    · have := dep_at h; omega
theorem f_like_refl : ∀ (n : Nat) (d : D) (st : Sto), wellL d = true → dep d < n → F__law_like n [.p d, .p d] st = .ok (yes true) st
  | 0, _, _, _, h => absurd h (by omega)
  | n + 1, d, st, hw, hn => by
    cases d with
    | tup ds =>
      simp only [wellL, Bool.and_eq_true, decide_eq_true_eq] at hw
      simp only [dep] at hn
      refine f_rt ?_
      show B__law_like (F__law_like n) st.length [some (.p (.tup ds)), some (.p (.tup ds)), none] st = _
      have ht : tTruth (mIsi "tuple" (mVar 1)) [some (.p (.tup ds)), some (.p (.tup ds)), none] st = .ok true st := et_truth (ev_isTup (d := .tup ds) rfl)
      have h0 : tNotM (tTruth (mIsi "tuple" (mVar 0))) [some (.p (.tup ds)), some (.p (.tup ds)), none] st = .ok false st := et_not (b := true) (et_truth (ev_isTup (d := .tup ds) rfl))
      have el : ∀ (q : Nat) (env : Slots), mVar q env st = .ok (.p (.tup ds)) st → mCall fLen (aCons (mVar q) aNil) env st = .ok (pI (ds.length : Nat)) st := fun q env h => ev_call (a1 h) rfl
      refine seq_rt (es_if ht (fun _ => ?_) (fun z => nomatch z))
      refine (es_in rfl (et_or (a := false) (b := false) h0 fun _ => et_val (ev_2 (el 0 _ rfl) (el 1 _ rfl) ((congrFun (deq_intN _ _) _).trans (by simp))))).trans ?_
      have eo := ones_nil (xs := List.range ds.length) (ow := [2]) (mi := mRng1 (aCons (mCall fLen (aCons (mVar 1) aNil)) aNil)) (gm := gN 2) (mt := tNotM (tTruth (mApp 2 (F__law_like n) (aCons (m2 fIx (mVar 0) (mVar 2)) (aCons (m2 fIx (mVar 1) (mVar 2)) aNil))))) (env := [some (.p (.tup ds)), some (.p (.tup ds)), none]) (st := st) (src := none) false (fun i : Nat => pI (i : Nat)) (fun _ => false) (by rw [← rng_map]; exact srng1 (a1 (el 1 _ rfl)) (by omega)) rfl (by simp; omega) fun i hi => by
        have hi2 : i < ds.length := List.mem_range.mp hi
        have hm : ds[i] ∈ ds := List.getElem_mem hi2
        have hx : fIx (.p (.tup ds)) (pI (i : Nat)) st = some (.p ds[i], st) := by
          have := ix_tup (f := fun d : D => d) (xs := ds) (st := st) hi2
          rw [List.map_id'] at this
          exact this
        have ih := f_like_refl n ds[i] st (wellLs_all.mp hw.2 _ hm) (by have := dep_at hm; omega)
        exact ⟨[some (.p (.tup ds)), some (.p (.tup ds)), some (pI (i : Nat))], rfl, et_not (b := true) (et_truth (ev_app (a2 (ev_2 rfl rfl hx) (ev_2 rfl rfl hx)) rfl ih))⟩
      have hany : (List.range ds.length).any (fun _ => false) = false := by simp
      rw [hany] at eo
      exact es_ret rfl eo
    | str t =>
      have hl : t.length ≤ 100 := by simpa [wellL] using hw
      have e := f_like_str n (.str t) t st (by simpa [okD] using hl)
      have e2 : deq (.str t) (.str t) = true := by simp [deq]
      rw [e2] at e
      exact e
    | int i => simp [F__law_like, B__law_like, bodyF, sSeq, sNil, sRet, sRetK, sIf, sAsg, sExpr, sSub, sBrk, sCt, sParN, R.then, R.bind, R.lift, R.noExc, mVar, mD, mTup, mLst, mAndV, mOrV, mNotV, mIf, mNeg, mIsi, mApp, mCall, mMeth, mMeth0, mChain, m2, mSlice, oNone, oSome, aNil, aCons, tVal, tTruth, tAndM, tOrM, tNotM, tmYes, gN, gT, gsGo, setAll, List.length_cons, List.length_nil, List.map_cons, List.map_nil, List.cons_append, List.nil_append, List.replicate, List.getElem?_cons_zero, List.getElem?_cons_succ, List.set_cons_zero, List.set_cons_succ, Nat.sub_self, Nat.zero_add, Nat.add_zero, Nat.reduceAdd, Nat.reduceSub, Nat.reduceEqDiff, if_true, if_false, if_pos, reduceIte, reduceCtorEq, Bool.not_true, Bool.not_false, truth, tyName, isTy, fIs, isD, fEq, viewD, eqOk, noDct, dep, deq]
    | bl b =>
      have := f_like_bl n b b st
      rw [beq_self_eq_true] at this
      exact this
    | non => simp [F__law_like, B__law_like, bodyF, sSeq, sNil, sRet, sRetK, sIf, sAsg, sExpr, sSub, sBrk, sCt, sParN, R.then, R.bind, R.lift, R.noExc, mVar, mD, mTup, mLst, mAndV, mOrV, mNotV, mIf, mNeg, mIsi, mApp, mCall, mMeth, mMeth0, mChain, m2, mSlice, oNone, oSome, aNil, aCons, tVal, tTruth, tAndM, tOrM, tNotM, tmYes, gN, gT, gsGo, setAll, List.length_cons, List.length_nil, List.map_cons, List.map_nil, List.cons_append, List.nil_append, List.replicate, List.getElem?_cons_zero, List.getElem?_cons_succ, List.set_cons_zero, List.set_cons_succ, Nat.sub_self, Nat.zero_add, Nat.add_zero, Nat.reduceAdd, Nat.reduceSub, Nat.reduceEqDiff, if_true, if_false, if_pos, reduceIte, reduceCtorEq, Bool.not_true, Bool.not_false, truth, tyName, isTy, fIs, isD]
    | lst _ => cases hw
    | dct _ _ => cases hw
end Sh
end
section
set_option Elab.async false
set_option linter.all false
set_option maxRecDepth 100000
set_option maxHeartbeats 0
namespace Sh
open PySem PySem.Spec L2 Sl PyProof.Rows
end Sh
end
section
set_option Elab.async false
set_option linter.all false
set_option maxRecDepth 100000
set_option maxHeartbeats 4000000
set_option exponentiation.threshold 100
namespace Sh
open PySem PySem.Spec L2 Sl PyProof.Rows
structure RwT (b l : Nat) (R : Rw) : Prop where
  ok : RwOk b l R
  asc : ascT R.ns = true
  hns : ∀ t ∈ R.ns, t.length ≤ 100
  tnd : ∀ r ∈ R.rs, (r.tm.map Prod.fst).Nodup
theorem Asked.t {b l : Nat} {R : Rw} {aim : List (T × Int)} (h : Asked b l R aim) : RwT b l R := ⟨h.rw_, h.asc, h.nlen, h.tnd⟩
section
variable {b l : Nat} {R : Rw}
end
end Sh
end
section
set_option Elab.async false
set_option linter.all false
set_option maxRecDepth 100000
set_option maxHeartbeats 4000000
set_option exponentiation.threshold 100
namespace Sh
open PySem PySem.Spec L2 Sl PyProof.Rows
section
variable {b l : Nat} {R : Rw}
end
end Sh
end
section
set_option Elab.async false
set_option linter.all false
set_option maxRecDepth 100000
set_option maxHeartbeats 4000000
set_option exponentiation.threshold 100
namespace Sh
open PySem PySem.Spec L2 Sl PyProof.Rows
section
variable {b l : Nat} {R : Rw} {aim : List (T × Int)}
end
end Sh
end
section
set_option Elab.async false
set_option linter.all false
set_option maxRecDepth 100000
set_option maxHeartbeats 4000000
set_option exponentiation.threshold 100
namespace Sh
open PySem PySem.Spec L2 Sl PyProof.Rows
section
variable {b l : Nat} {R : Rw}
end
end Sh
end
section
set_option Elab.async false
set_option linter.all false
set_option maxRecDepth 100000
set_option maxHeartbeats 0
namespace Sh
open PySem PySem.Spec L2 Sl PyProof.Rows
end Sh
end
section
set_option Elab.async false
set_option linter.all false
set_option maxRecDepth 100000
set_option maxHeartbeats 4000000
set_option exponentiation.threshold 100
namespace Sh
open PySem PySem.Spec L2 Sl PyProof.Rows
section
variable {b l : Nat} {R : Rw}
end
end Sh
end
section
set_option Elab.async false
set_option linter.all false
set_option maxRecDepth 100000
set_option maxHeartbeats 4000000
set_option exponentiation.threshold 100
namespace Sh
open PySem PySem.Spec L2 Sl PyProof.Rows
section
variable {b l : Nat} {R : Rw}
end
end Sh
end
section
set_option Elab.async false
set_option linter.all false
set_option maxRecDepth 100000
set_option maxHeartbeats 0
namespace Sh
open PySem PySem.Spec L2 Sl PyProof.Rows
end Sh
end
section
set_option Elab.async false
set_option linter.all false
set_option maxRecDepth 100000
set_option maxHeartbeats 4000000
set_option exponentiation.threshold 100
namespace Sh
open PySem PySem.Spec L2 Sl PyProof.Rows
section
variable {b l : Nat} {R : Rw} {tm : List (T × Int)} {q : Rat}
end
end Sh
end
section
set_option Elab.async false
set_option linter.all false
set_option maxRecDepth 100000
set_option maxHeartbeats 0
namespace Sh
open PySem PySem.Spec L2 Sl PyProof.Rows
end Sh
end
section
set_option Elab.async false
set_option linter.all false
set_option maxRecDepth 100000
set_option maxHeartbeats 0
namespace Sh
open PySem PySem.Spec L2 Sl PyProof.Rows
end Sh
end
section
set_option Elab.async false
set_option linter.all false
set_option maxRecDepth 100000
set_option maxHeartbeats 4000000
set_option exponentiation.threshold 100
namespace Sh
open PySem PySem.Spec L2 Sl PyProof.Rows
section
variable {b l : Nat} {R : Rw} {aim : List (T × Int)} {v : Rat} {at_ : Nat} {sg : Int}
structure Dual (R : Rw) (aim : List (T × Int)) (v : Rat) (w : Int) (y : Nat → Int) : Prop where
  fac : Fac (lpOf R aim) w (lpOf R aim).gl y
  val : (v.den : Int) * Lp.sm (lpOf R aim).m (fun i => y i * (lpOf R aim).bd i) = w * v.num
end
end Sh
end
section
set_option Elab.async false
set_option linter.all false
set_option maxRecDepth 100000
set_option maxHeartbeats 4000000
set_option exponentiation.threshold 100
namespace Sh
open PySem PySem.Spec L2 Sl PyProof.Rows
section
variable {b l : Nat} {R : Rw} {aim : List (T × Int)} {v : Rat} {at_ : Nat} {sg : Int}
end
end Sh
end
section
set_option Elab.async false
set_option linter.all false
set_option maxRecDepth 100000
set_option maxHeartbeats 4000000
set_option exponentiation.threshold 100
namespace Sh
open PySem PySem.Spec L2 Sl PyProof.Rows
section
variable {b l : Nat} {R : Rw} {aim : List (T × Int)}
end
end Sh
end
section
set_option Elab.async false
set_option linter.all false
set_option maxRecDepth 100000
set_option maxHeartbeats 4000000
set_option exponentiation.threshold 300
namespace Sh
open PySem PySem.Spec L2 Sl PyProof.Rows
theorem SzR.half {s : Nat} {a : Rat} (h : SzR s a) (hs : s ≤ 2000) : HalfR a := ⟨Nat.lt_of_lt_of_le h.n (Nat.pow_le_pow_right (by decide) hs), Nat.lt_of_lt_of_le h.d (Nat.pow_le_pow_right (by decide) hs)⟩
section
variable {l : Nat} {R : Rw} {tm : List (T × Int)}
end
end Sh
end
section
set_option Elab.async false
set_option linter.all false
set_option maxRecDepth 100000
set_option maxHeartbeats 4000000
set_option exponentiation.threshold 100
namespace Sh
open PySem PySem.Spec L2 Sl PyProof.Rows
theorem TmOk.up {b b' l : Nat} {tm : List (T × Int)} (h : TmOk b l tm) (k : b ≤ b') : TmOk b' l tm := ⟨fun p hp => Nat.lt_of_lt_of_le (h.c p hp) (Nat.pow_le_pow_right (by decide) k), h.l⟩
theorem Asked.up {b b' l : Nat} {R : Rw} {aim : List (T × Int)} (h : Asked b l R aim) (k : b ≤ b') (k2 : b' ≤ 15) : Asked b' l R aim := by
  have h0 := h.rw_.b0
  refine ⟨⟨fun r hr => ?_, h.rw_.rl, h.rw_.nl, h.rw_.l2, k2, by omega⟩, h.asc, h.rasc, h.tnd, h.aimF, h.aimB.up k, h.nlen, h.rlen⟩
  have g := h.rw_.r r hr
  exact ⟨g.tm.up k, Nat.lt_of_lt_of_le g.bn (Nat.pow_le_pow_right (by decide) k), g.tin, g.kd⟩
mutual
theorem deq_reflM : ∀ d : D, noDct d = true → deq d d = true
  | .non, _ => rfl
  | .bl b, _ => by simp [deq]
  | .int i, _ => by simp [deq]
  | .str t, _ => by simp [deq]
  | .tup ds, h => by simp only [deq]; exact deqL_reflM ds (by simpa [noDct] using h)
  | .lst ds, h => by simp only [deq]; exact deqL_reflM ds (by simpa [noDct] using h)
  | .dct _ _, h => by simp [noDct] at h
theorem deqL_reflM : ∀ ds : List D, noDctL ds = true → deqL ds ds = true
  | [], _ => rfl
  | d :: ds, h => by
    simp only [noDctL, Bool.and_eq_true] at h
    simp only [deqL, Bool.and_eq_true]
    exact ⟨deq_reflM d h.1, deqL_reflM ds h.2⟩
end
section
variable {b l : Nat} {R : Rw} {aim : List (T × Int)} {nm : T} {f : Int → Int}
end
end Sh
end
section
set_option Elab.async false
set_option linter.all false
set_option maxRecDepth 100000
set_option maxHeartbeats 4000000
set_option exponentiation.threshold 100
namespace Sh
open PySem PySem.Spec L2 Sl PyProof.Rows
section
variable {b l : Nat} {R : Rw} {aim : List (T × Int)}
end
end Sh
end
section
set_option Elab.async false
set_option linter.all false
set_option maxRecDepth 100000
set_option maxHeartbeats 4000000
set_option exponentiation.threshold 100
namespace Sh
open PySem PySem.Spec L2 Sl PyProof.Rows
section
variable {b l : Nat} {R : Rw} {aim : List (T × Int)}
end
end Sh
end
section
set_option Elab.async false
set_option linter.all false
set_option maxRecDepth 100000
set_option maxHeartbeats 4000000
set_option exponentiation.threshold 100
namespace Sh
open PySem PySem.Spec L2 Sl PyProof.Rows
section
variable {b l : Nat} {R : Rw} {aim : List (T × Int)}
end
end Sh
end
section
set_option Elab.async false
set_option linter.all false
set_option maxRecDepth 100000
set_option maxHeartbeats 4000000
set_option exponentiation.threshold 300
namespace Sh
open PySem PySem.Spec L2 Sl PyProof.Rows
section
variable {l : Nat} {R : Rw} {tm : List (T × Int)} {q : Rat}
end
end Sh
end
section
set_option Elab.async false
set_option linter.all false
set_option maxRecDepth 100000
set_option maxHeartbeats 4000000
set_option exponentiation.threshold 100
namespace Sh
open PySem PySem.Spec L2 Sl PyProof.Rows
section
variable {b l : Nat} {R : Rw} {aim : List (T × Int)}
structure FacN (ns : List T) (rs : List Ro) (w : Int) (g : Nat → Int) (f : T → Int) : Prop where
  most : ∀ r ∈ rs, r.kd = most → 0 ≤ f r.nm
  made : ∀ k, k < ns.length → (rs.map fun r => f r.nm * (vecL ns r.tm).getD k 0).sum = w * g k
end
end Sh
end
section
set_option Elab.async false
set_option linter.all false
set_option maxRecDepth 100000
set_option maxHeartbeats 4000000
set_option exponentiation.threshold 100
namespace Sh
open PySem PySem.Spec L2 Sl PyProof.Rows
def negT (tm : List (T × Int)) : List (T × Int) := tm.map fun p => (p.1, 0 - p.2)
section
variable {b l : Nat} {R R' : Rw} {aim aim' : List (T × Int)} {v : Rat}
end
end Sh
end
section
set_option Elab.async false
set_option linter.all false
set_option maxRecDepth 100000
set_option maxHeartbeats 4000000
set_option exponentiation.threshold 600
namespace Sh
open PySem PySem.Spec L2 Sl PyProof.Rows
section
variable {b l : Nat} {R : Rw} {tm : List (T × Int)} {q : Rat}
noncomputable def valV (R : Rw) (tm : List (T × Int)) (w : Int) (Y : Nat → Int) : Rat := Rat.divInt (Lp.sm (lpOf R tm).n fun k => (lpOf R tm).gl k * Y k) w
end
end Sh
end
section
set_option Elab.async false
set_option linter.all false
set_option maxRecDepth 100000
set_option maxHeartbeats 0
namespace Sh
open PySem PySem.Spec L2 Sl PyProof.Rows
end Sh
end
section
set_option Elab.async false
set_option linter.all false
set_option maxRecDepth 100000
set_option maxHeartbeats 4000000
set_option exponentiation.threshold 100
namespace Sh
open PySem PySem.Spec L2 Sl PyProof.Rows
theorem filter_sub {xs ts : List T} (h : xs.Sublist ts) : ts.Nodup → ts.filter (fun t => decide (t ∈ xs)) = xs := by
  induction h with
  | slnil => intro _; rfl
  | @cons l1 l2 a h ih =>
    intro nd
    have ha : a ∉ l1 := fun z => (List.nodup_cons.mp nd).1 (h.subset z)
    rw [List.filter_cons_of_neg (by simpa using ha)]
    exact ih (List.nodup_cons.mp nd).2
  | @cons_cons l1 l2 a h ih =>
    intro nd
    obtain ⟨n1, n2⟩ := List.nodup_cons.mp nd
    rw [List.filter_cons_of_pos (by simp)]
    congr 1
    have : l2.filter (fun t => decide (t ∈ a :: l1)) = l2.filter (fun t => decide (t ∈ l1)) := List.filter_congr fun t ht => by
      have : t ≠ a := fun z => n1 (z ▸ ht)
      simp [this]
    rw [this]
    exact ih n2
theorem form_sub {ts : List T} (nd : ts.Nodup) {tm : List (T × Int)} (h : (tm.map Prod.fst).Sublist ts) (nz : ∀ p ∈ tm, p.2 ≠ 0) : tm = (ts.filter fun n => decide ((lookS n tm).getD 0 ≠ 0)).map fun n => (n, (lookS n tm).getD 0) := by
  have nd1 : (tm.map Prod.fst).Nodup := nd.sublist h
  have e : (ts.filter fun n => decide ((lookS n tm).getD 0 ≠ 0)) = ts.filter fun t => decide (t ∈ tm.map Prod.fst) := List.filter_congr fun t ht => by
    by_cases q : t ∈ tm.map Prod.fst
    · obtain ⟨x, hx⟩ := lookS_some q
      rw [decide_eq_true q, hx]
      exact decide_eq_true (nz _ (lookS_mem hx))
    · rw [decide_eq_false q, lookS_none q]
      rfl
  rw [e, filter_sub h nd, List.map_map]
  conv => lhs; rw [← List.map_id tm]
  refine List.map_congr_left fun p hp => ?_
  show p = (p.1, (lookS p.1 tm).getD 0)
  rw [lookS_nd nd1 hp]; rfl
theorem neg_fst (tm : List (T × Int)) : (negT tm).map Prod.fst = tm.map Prod.fst := by
  unfold negT
  rw [List.map_map]; rfl
section
variable {R : Rw} {aim : List (T × Int)} {v : Rat}
end
end Sh
end
section
set_option Elab.async false
set_option linter.all false
set_option maxRecDepth 100000
set_option maxHeartbeats 4000000
set_option exponentiation.threshold 600
namespace Sh
open PySem PySem.Spec L2 Sl PyProof.Rows
structure RB (b : Nat) (R : Rw) : Prop where
  rw_ : RwOk b 12 R
  asc : ascT R.ns = true
  rasc : ascT (R.rs.map Ro.nm) = true
  tnd : ∀ r ∈ R.rs, (r.tm.map Prod.fst).Nodup
  nlen : ∀ t ∈ R.ns, t.length ≤ 100
  rlen : ∀ r ∈ R.rs, r.nm.length ≤ 100
  sub : ∀ r ∈ R.rs, (r.tm.map Prod.fst).Sublist R.ns
  nz : ∀ r ∈ R.rs, ∀ p ∈ r.tm, p.2 ≠ 0
theorem RB.asked {b : Nat} {R : Rw} (h : RB b R) {tm : List (T × Int)} (hs : (tm.map Prod.fst).Sublist R.ns) (hz : ∀ p ∈ tm, p.2 ≠ 0) (ht : TmOk b 12 tm) : Asked b 12 R tm :=
  ⟨h.rw_, h.asc, h.rasc, h.tnd, form_sub (asc_nodup h.asc) hs hz, ht, h.nlen, h.rlen⟩
theorem ascT_sub {xs ys : List T} (h : xs.Sublist ys) (hy : ascT ys = true) : ascT xs = true := by
  have p := (asc_pw hy).sublist h
  exact asc_of_pw p
theorem RB.sub_ {b : Nat} {R : Rw} (h : RB b R) {rs : List Ro} (hs : rs.Sublist R.rs) : RB b ⟨R.ns, rs⟩ := by
  have hm : ∀ r ∈ rs, r ∈ R.rs := fun r hr => hs.subset hr
  refine ⟨⟨fun r hr => h.rw_.r r (hm r hr), ?_, h.rw_.nl, h.rw_.l2, h.rw_.b2, h.rw_.b0⟩, h.asc, ascT_sub (hs.map _) h.rasc, fun r hr => h.tnd r (hm r hr), h.nlen, fun r hr => h.rlen r (hm r hr), fun r hr => h.sub r (hm r hr), fun r hr => h.nz r (hm r hr)⟩
  have := hs.length_le
  have := h.rw_.rl
  show rs.length ≤ 12
  omega
theorem RB.row {b : Nat} {R : Rw} (h : RB b R) {r : Ro} (hr : r ∈ R.rs) {rs : List Ro} (hs : rs.Sublist R.rs) : Asked b 12 ⟨R.ns, rs⟩ r.tm ∧ Asked b 12 ⟨R.ns, rs⟩ (negT r.tm) := by
  have ht := (h.rw_.r r hr).tm
  refine ⟨(h.sub_ hs).asked (h.sub r hr) (h.nz r hr) ht, (h.sub_ hs).asked (by rw [neg_fst]; exact h.sub r hr) (fun p hp => ?_) ⟨fun p hp => ?_, by unfold negT; rw [List.length_map]; exact ht.l⟩⟩
  · obtain ⟨p', hp', rfl⟩ := List.mem_map.mp hp
    have := h.nz r hr p' hp'
    show 0 - p'.2 ≠ 0
    omega
  · obtain ⟨p', hp', rfl⟩ := List.mem_map.mp hp
    have := ht.c p' hp'
    show (0 - p'.2).natAbs < _
    omega
end Sh
end
section
set_option Elab.async false
set_option linter.all false
set_option maxRecDepth 100000
set_option maxHeartbeats 0
namespace Sh
open PySem PySem.Spec L2 Sl PyProof.Rows
end Sh
end
section
set_option Elab.async false
set_option linter.all false
set_option maxRecDepth 100000
set_option maxHeartbeats 0
namespace Sh
open PySem PySem.Spec L2 Sl PyProof.Rows
end Sh
end
section
set_option Elab.async false
set_option linter.all false
set_option maxRecDepth 100000
set_option maxHeartbeats 4000000
set_option exponentiation.threshold 600
namespace Sh
open PySem PySem.Spec L2 Sl PyProof.Rows
theorem RB.nil {b : Nat} {R : Rw} (h : RB b R) : Asked b 12 R [] := h.asked (List.nil_sublist _) (fun p hp => nomatch hp) ⟨(fun p hp => nomatch hp), Nat.zero_le _⟩
end Sh
end
section
set_option Elab.async false
set_option linter.all false
set_option maxRecDepth 100000
set_option maxHeartbeats 4000000
set_option exponentiation.threshold 100
namespace Sh
open PySem PySem.Spec L2 Sl PyProof.Rows
def GOk (G : List SObj) : Prop := ∀ o ∈ G, ∃ vs : List D, o = .lst (vs.map .p)
theorem GOk.push {G : List SObj} (h : GOk G) (vs : List D) : GOk (G ++ [.lst (vs.map .p)]) := fun o ho => by
  rcases List.mem_append.mp ho with ho | ho
  · exact h o ho
  · exact ⟨vs, List.mem_singleton.mp ho⟩
theorem GOk.clo {G : List SObj} (h : GOk G) (ns ds : List Int) (k : Nat) : Clo (SObj.scr ns :: Bx ds k :: G) := by
  unfold Clo
  simp only [List.all_cons, Bool.and_eq_true]
  refine ⟨rfl, rfl, List.all_eq_true.mpr fun o ho => ?_⟩
  obtain ⟨vs, rfl⟩ := h o ho
  simp only [closedO, List.all_eq_true, List.mem_map]
  rintro v ⟨x, _, rfl⟩
  rfl
section
variable {R : Rw}
end
end Sh
end
section
set_option Elab.async false
set_option linter.all false
set_option maxRecDepth 100000
set_option maxHeartbeats 4000000
set_option exponentiation.threshold 700
namespace Sh
open PySem PySem.Spec L2 Sl PyProof.Rows
section
variable {b : Nat} {R : Rw} {tm : List (T × Int)} {q : Rat}
theorem Asked.tt (h : Asked b 12 R tm) : RwT b 12 R := ⟨h.rw_, h.asc, h.nlen, h.tnd⟩
end
end Sh
end
section
set_option Elab.async false
set_option linter.all false
set_option maxRecDepth 100000
set_option maxHeartbeats 0
namespace Sh
open PySem PySem.Spec L2 Sl PyProof.Rows
end Sh
end
section
set_option Elab.async false
set_option linter.all false
set_option maxRecDepth 100000
set_option maxHeartbeats 4000000
set_option exponentiation.threshold 100
namespace Sh
open PySem PySem.Spec L2 Sl PyProof.Rows
end Sh
end
section
set_option Elab.async false
set_option linter.all false
set_option maxRecDepth 100000
set_option maxHeartbeats 4000000
set_option exponentiation.threshold 700
namespace Sh
open PySem PySem.Spec L2 Sl PyProof.Rows
end Sh
end
section
set_option Elab.async false
set_option linter.all false
set_option maxRecDepth 100000
set_option maxHeartbeats 4000000
set_option exponentiation.threshold 700
namespace Sh
open PySem PySem.Spec L2 Sl PyProof.Rows
theorem hasT_iff {ts : List T} {t : T} : hasT ts (.str t) = decide (t ∈ ts) := by
  show ts.contains t = _
  rw [Bool.eq_iff_iff, decide_eq_true_iff]
  exact List.contains_iff_mem
end Sh
end
section
set_option Elab.async false
set_option linter.all false
set_option maxRecDepth 100000
set_option maxHeartbeats 4000000
set_option exponentiation.threshold 100
namespace Sh
open PySem PySem.Spec L2 Sl PyProof.Rows
theorem split_no {c : Char} : ∀ {w : T}, c ∉ w → splitC c w = [w]
  | [], _ => rfl
  | d :: w, h => by
    unfold splitC
    rw [if_neg fun z => h (by rw [z]; exact List.mem_cons_self ..), split_no fun z => h (List.mem_cons_of_mem _ z)]
theorem split_eq {c : Char} {r : T} : splitC c (c :: r) = [] :: splitC c r := by
  conv => lhs; unfold splitC
  rw [if_pos rfl]
theorem split_ne {c d : Char} {r w : T} {ws : List T} (h : d ≠ c) (e : splitC c r = w :: ws) : splitC c (d :: r) = (d :: w) :: ws := by
  conv => lhs; unfold splitC
  rw [if_neg h, e]
theorem split_app {c : Char} {r : T} : ∀ {w : T}, c ∉ w → splitC c (w ++ c :: r) = w :: splitC c r
  | [], _ => split_eq
  | d :: w, h => split_ne (fun z => h (by rw [z]; exact List.mem_cons_self ..)) (split_app fun z => h (List.mem_cons_of_mem _ z))
theorem split_lines {c : Char} : ∀ {ls : List T}, (∀ w ∈ ls, c ∉ w) → splitC c (ls.flatMap fun w => w ++ [c]) = ls ++ [[]]
  | [], _ => rfl
  | w :: ls, h => by
    rw [List.flatMap_cons, List.append_assoc]
    show splitC c (w ++ c :: ls.flatMap fun w => w ++ [c]) = _
    rw [split_app (h w (List.mem_cons_self ..)), split_lines fun v hv => h v (List.mem_cons_of_mem _ hv)]
    rfl
theorem split_words {c : Char} : ∀ {ws : List T} {w : T}, c ∉ w → (∀ v ∈ ws, c ∉ v) → splitC c (w ++ ws.flatMap fun v => c :: v) = w :: ws
  | [], w, h, _ => by
    rw [List.flatMap_nil, List.append_nil]
    exact split_no h
  | v :: ws, w, h, hs => by
    rw [List.flatMap_cons, List.cons_append, split_app h, split_words (hs v (List.mem_cons_self ..)) fun u hu => hs u (List.mem_cons_of_mem _ hu)]
def lineW : List T → T
  | [] => []
  | w :: ws => w ++ ws.flatMap fun v => ' ' :: v
def unkW : T := ['u', 'n', 'k', 'n', 'o', 'w', 'n']
def rowW : T := ['r', 'o', 'w']
def wordsR (r : Ro) : List T := [rowW, r.nm, r.kd, decT r.bn] ++ r.tm.flatMap fun p => [decT p.2, p.1]
def linesR (R : Rw) : List T := (R.ns.map fun n => lineW [unkW, n]) ++ R.rs.map fun r => lineW (wordsR r)
def textR (R : Rw) : T := (linesR R).flatMap fun w => w ++ ['\n']
structure WdOk (t : T) : Prop where
  b : ' ' ∉ t
  n : '\n' ∉ t
  l : t.length ≤ 10
structure Wr (R : Rw) : Prop where
  nsl : R.ns.length ≤ 6
  rsl : R.rs.length ≤ 9
  ns : ∀ n ∈ R.ns, WdOk n ∧ nameT n = true
  nasc : ascT R.ns = true
  rn : ∀ r ∈ R.rs, WdOk r.nm ∧ nameT r.nm = true ∧ r.nm ∉ R.ns
  rk : ∀ r ∈ R.rs, r.kd = most ∨ r.kd = just
  rb : ∀ r ∈ R.rs, r.bn.natAbs ≤ 14
  rt : ∀ r ∈ R.rs, r.tm.length ≤ 6 ∧ (∀ p ∈ r.tm, p.1 ∈ R.ns ∧ p.2.natAbs ≤ 14 ∧ p.2 ≠ 0) ∧ ascT (r.tm.map Prod.fst) = true
  rasc : ascT (R.rs.map Ro.nm) = true
theorem int29 {P : Int → Prop} (h : ∀ n : Nat, n < 29 → P ((n : Int) - 14)) {i : Int} (hi : i.natAbs ≤ 14) : P i := by
  have := h (i + 14).toNat (by omega)
  rw [show (((i + 14).toNat : Nat) : Int) - 14 = i by omega] at this
  exact this
theorem dec_ok0 : ∀ n : Nat, n < 29 → (' ' ∉ decT ((n : Int) - 14) ∧ '\n' ∉ decT ((n : Int) - 14)) ∧ (decT ((n : Int) - 14)).length ≤ 10 ∧ readInt (decT ((n : Int) - 14)) = some ((n : Int) - 14) := by decide
theorem dec_ok {i : Int} (hi : i.natAbs ≤ 14) : WdOk (decT i) ∧ readInt (decT i) = some i := by
  obtain ⟨⟨a, b⟩, c, d⟩ := int29 (P := fun i => (' ' ∉ decT i ∧ '\n' ∉ decT i) ∧ (decT i).length ≤ 10 ∧ readInt (decT i) = some i) dec_ok0 hi
  exact ⟨⟨a, b, c⟩, d⟩
theorem kd_ok {t : T} (h : t = most ∨ t = just) : WdOk t := by
  rcases h with rfl | rfl
  · exact ⟨by decide, by decide, by decide⟩
  · exact ⟨by decide, by decide, by decide⟩
theorem unk_ok : WdOk unkW := ⟨by decide, by decide, by decide⟩
theorem row_ok : WdOk rowW := ⟨by decide, by decide, by decide⟩
theorem words_ok {R : Rw} (h : Wr R) {r : Ro} (hr : r ∈ R.rs) : (∀ w ∈ wordsR r, WdOk w) ∧ (wordsR r).length ≤ 16 := by
  obtain ⟨t1, t2, t3⟩ := h.rt r hr
  refine ⟨fun w hw => ?_, ?_⟩
  · rcases List.mem_append.mp hw with hw | hw
    · simp only [List.mem_cons, List.not_mem_nil, or_false] at hw
      rcases hw with rfl | rfl | rfl | rfl
      · exact row_ok
      · exact (h.rn r hr).1
      · exact kd_ok (h.rk r hr)
      · exact (dec_ok (h.rb r hr)).1
    · obtain ⟨p, hp, hw⟩ := List.mem_flatMap.mp hw
      obtain ⟨q1, q2, _⟩ := t2 p hp
      simp only [List.mem_cons, List.not_mem_nil, or_false] at hw
      rcases hw with rfl | rfl
      · exact (dec_ok q2).1
      · exact (h.ns _ q1).1
  · have e : ∀ tm : List (T × Int), (tm.flatMap fun p => [decT p.2, p.1]).length = 2 * tm.length := fun tm => by
      induction tm with
      | nil => rfl
      | cons p tm ih => rw [List.flatMap_cons, List.length_append, ih]; simp; omega
    show ([rowW, r.nm, r.kd, decT r.bn] ++ _).length ≤ 16
    rw [List.length_append, e]
    simp; omega
theorem line_len : ∀ {ws : List T}, (∀ w ∈ ws, w.length ≤ 10) → (lineW ws).length ≤ 11 * ws.length
  | [], _ => by simp [lineW]
  | w :: ws, h => by
    have h1 := h w (List.mem_cons_self ..)
    have e : ∀ ws : List T, (∀ w ∈ ws, w.length ≤ 10) → (ws.flatMap fun v => ' ' :: v).length ≤ 11 * ws.length := fun ws h => by
      induction ws with
      | nil => simp
      | cons v ws ih =>
        rw [List.flatMap_cons, List.length_append, List.length_cons, List.length_cons]
        have := h v (List.mem_cons_self ..)
        have := ih fun u hu => h u (List.mem_cons_of_mem _ hu)
        omega
    have h2 := e ws fun v hv => h v (List.mem_cons_of_mem _ hv)
    unfold lineW
    rw [List.length_append, List.length_cons]
    omega
theorem line_nl : ∀ {ws : List T}, (∀ w ∈ ws, '\n' ∉ w) → '\n' ∉ lineW ws
  | [], _ => by simp [lineW]
  | w :: ws, h => fun z => by
    unfold lineW at z
    rcases List.mem_append.mp z with z | z
    · exact h w (List.mem_cons_self ..) z
    · obtain ⟨v, hv, z⟩ := List.mem_flatMap.mp z
      rcases List.mem_cons.mp z with z | z
      · cases z
      · exact h v (List.mem_cons_of_mem _ hv) z
theorem line_split {ws : List T} (h : ∀ w ∈ ws, WdOk w) (h0 : ws ≠ []) : splitC ' ' (lineW ws) = ws := by
  cases ws with
  | nil => exact absurd rfl h0
  | cons w ws => exact split_words (h w (List.mem_cons_self ..)).b fun v hv => (h v (List.mem_cons_of_mem _ hv)).b
theorem lines_ok {R : Rw} (h : Wr R) : (∀ w ∈ linesR R, '\n' ∉ w ∧ w.length ≤ 200) ∧ (linesR R).length ≤ 15 := by
  refine ⟨fun w hw => ?_, ?_⟩
  · rcases List.mem_append.mp hw with hw | hw
    · obtain ⟨n, hn, rfl⟩ := List.mem_map.mp hw
      have hk : ∀ w ∈ [unkW, n], WdOk w := fun w hw => by
        simp only [List.mem_cons, List.not_mem_nil, or_false] at hw
        rcases hw with rfl | rfl
        · exact unk_ok
        · exact (h.ns _ hn).1
      have := line_len (ws := [unkW, n]) fun w hw => (hk w hw).l
      exact ⟨line_nl fun w hw => (hk w hw).n, Nat.le_trans this (by simp)⟩
    · obtain ⟨r, hr, rfl⟩ := List.mem_map.mp hw
      obtain ⟨k1, k2⟩ := words_ok h hr
      have := line_len (ws := wordsR r) fun w hw => (k1 w hw).l
      exact ⟨line_nl fun w hw => (k1 w hw).n, by omega⟩
  · have := h.nsl
    have := h.rsl
    unfold linesR
    rw [List.length_append, List.length_map, List.length_map]
    omega
theorem flat_len {c : Char} {B : Nat} : ∀ {ls : List T}, (∀ w ∈ ls, w.length ≤ B) → (ls.flatMap fun w => w ++ [c]).length ≤ (B + 1) * ls.length
  | [], _ => by simp
  | w :: ls, h => by
    rw [List.flatMap_cons, List.length_append, List.length_append]
    have h1 := h w (List.mem_cons_self ..)
    have := flat_len (c := c) (ls := ls) fun v hv => h v (List.mem_cons_of_mem _ hv)
    simp only [List.length_cons, List.length_nil, Nat.mul_add, Nat.mul_one]
    omega
theorem text_len {R : Rw} (h : Wr R) : (textR R).length ≤ 3100 := by
  obtain ⟨h1, h2⟩ := lines_ok h
  have := flat_len (c := '\n') (B := 200) (ls := linesR R) fun w hw => (h1 w hw).2
  exact Nat.le_trans this (by omega)
theorem text_split {R : Rw} (h : Wr R) : splitC '\n' (textR R) = linesR R ++ [[]] := split_lines fun w hw => ((lines_ok h).1 w hw).1
theorem tmax_big : 100000 ≤ tMax := by decide
theorem ev_js {m : EM} {ms : List EM} {acc t : T} {env : Slots} {st : Sto} {r : R Val} (h : m env st = .ok (.p (.str t)) st) (hl : (acc ++ t).length ≤ 100000) (k : mJs ms (acc ++ t) env st = r) : mJs (m :: ms) acc env st = r := by
  unfold mJs
  rw [h]
  show (if (acc ++ t).length ≤ tMax then mJs ms (acc ++ t) env st else R.fail) = r
  rw [if_pos (Nat.le_trans hl tmax_big)]
  exact k
theorem js_nil {acc : T} {env : Slots} {st : Sto} : mJs [] acc env st = .ok (.p (.str acc)) st := rfl
theorem ev_fmt {m : EM} {t : T} {env : Slots} {st : Sto} (h : m env st = .ok (.p (.str t)) st) : mFmt m env st = .ok (.p (.str t)) st := by
  unfold mFmt
  rw [h]; rfl
theorem ev_fmtI {m : EM} {i : Int} {env : Slots} {st : Sto} (h : m env st = .ok (pI i) st) (hi : i.natAbs ≤ 14) : mFmt m env st = .ok (.p (.str (decT i))) st := by
  have key : ∀ n : Nat, n < 29 → Sl.strOf (pI ((n : Int) - 14)) = some (decT ((n : Int) - 14)) := by decide
  have := int29 (P := fun i => Sl.strOf (pI i) = some (decT i)) key hi
  unfold mFmt
  rw [h]
  show (match Sl.strOf (pI i) with | some t => R.ok (Val.p (.str t)) st | none => .fail) = _
  rw [this]
theorem cat_str {a b : T} {st : Sto} (h : a.length + b.length ≤ 100000) : fAdd false (.p (.str a)) (.p (.str b)) st = some (.p (.str (a ++ b)), st) := by
  show (if a.length + b.length ≤ tMax then some (Val.p (.str (a ++ b)), st) else none) = _
  rw [if_pos (Nat.le_trans h tmax_big)]
theorem strL_map : ∀ ts : List T, strL ((ts.map D.str).map .p) = some ts
  | [] => rfl
  | t :: ts => by
    rw [List.map_cons, List.map_cons]
    unfold strL
    rw [strL_map ts]
theorem join_lst {sep : T} {ts : List T} {st : Sto} (h : joinLen sep ts ≤ 100000) : fJoin (.p (.str sep)) [.p (.lst (ts.map .str))] st = some (.p (.str (joinT sep ts)), st) := by
  show (match strL ((ts.map D.str).map .p) with | some ts => if joinLen sep ts ≤ tMax then some (Val.p (.str (joinT sep ts)), st) else none | none => none) = _
  rw [strL_map]
  show (if joinLen sep ts ≤ tMax then some (Val.p (.str (joinT sep ts)), st) else none) = _
  rw [if_pos (Nat.le_trans h tmax_big)]
theorem join_nil : ∀ ts : List T, joinT [] ts = ts.flatMap id
  | [] => rfl
  | [p] => by simp [joinT]
  | p :: q :: r => by
    unfold joinT
    rw [join_nil (q :: r), List.flatMap_cons, List.nil_append]; rfl
theorem join_line : ∀ ts : List T, joinT [' '] ts = lineW ts
  | [] => rfl
  | [p] => by simp [joinT, lineW]
  | p :: q :: r => by
    unfold joinT
    rw [join_line (q :: r)]
    simp [lineW]
theorem joinLen_le {sep : T} {B : Nat} : ∀ {ts : List T}, (∀ t ∈ ts, t.length ≤ B) → joinLen sep ts ≤ (B + sep.length) * ts.length
  | [], _ => by simp [joinLen]
  | t :: ts, h => by
    have h1 := h t (List.mem_cons_self ..)
    have := joinLen_le (sep := sep) (ts := ts) fun u hu => h u (List.mem_cons_of_mem _ hu)
    simp only [joinLen, List.map_cons, List.sum_cons, List.length_cons, Nat.succ_mul, Nat.mul_add, Nat.mul_one] at this ⊢
    omega
end Sh
end
section
set_option Elab.async false
set_option linter.all false
set_option maxRecDepth 100000
set_option maxHeartbeats 4000000
set_option exponentiation.threshold 100
namespace Sh
open PySem PySem.Spec L2 Sl PyProof.Rows
theorem ev_join {mo m : EM} {sep : T} {ts : List T} {env : Slots} {st : Sto} (ho : mo env st = .ok (.p (.str sep)) st) (hm : m env st = .ok (.p (.lst (ts.map .str))) st) (h : joinLen sep ts ≤ 100000) : mMeth isStrV fJoin mo (aCons m aNil) env st = .ok (.p (.str (joinT sep ts))) st := by
  unfold mMeth
  rw [ho]
  simp only [Sl.R.bind, isStrV, if_true]
  rw [sa hm (rfl : aNil env st = .ok [] st)]
  simp only [Sl.R.bind, join_lst h]
  rfl
def termW (p : T × Int) : T := ' ' :: decT p.2 ++ ' ' :: p.1
theorem lst_map2W {α β : Type} (f : β → D) (g : α → β) (xs : List α) : (xs.map fun x => f (g x)) = (xs.map g).map f := by rw [List.map_map]; rfl
theorem lastW_at {P : Sto} {x : SObj} : (P ++ [x])[P.length]? = some x := by simp
theorem lastW_set {P : Sto} {x y : SObj} : (P ++ [x]).set P.length y = P ++ [y] := by
  rw [List.set_append_right _ _ (Nat.le_refl _)]; simp
theorem iter_tmW {m : EM} {env : Slots} {st : Sto} {tm : List (T × Int)} (h : m env st = .ok (.p (tmD tm)) st) : mIter m env st = .ok (tm.map fun p => .p (.tup [.str p.1, .int p.2]), none) st := by
  refine (iter_tupD h).trans ?_
  rw [List.map_map]; rfl
theorem term_len {p : T × Int} (h1 : p.1.length ≤ 10) (h2 : p.2.natAbs ≤ 14) : (termW p).length ≤ 22 := by
  have := (dec_ok h2).1.l
  unfold termW
  simp only [List.length_append, List.length_cons]
  omega
theorem f_write_terms {tm : List (T × Int)} (hl : tm.length ≤ 6) (h : ∀ p ∈ tm, p.1.length ≤ 10 ∧ p.2.natAbs ≤ 14) (st : Sto) : F_write_terms [.p (tmD tm)] st = .ok (.p (.str (tm.flatMap termW))) st := by
  have c := comp_P0 (xs := tm) (ow := [1, 2]) (mi := mIter (mVar 0)) (gm := gT [(gN 1), (gN 2)]) (me := mJs [(mD (.str [' '])), (mFmt (mVar 2)), (mD (.str [' '])), (mFmt (mVar 1))] []) (env := [some (.p (tmD tm)), none, none]) (st := st) (src := none) (fun p => .p (.tup [.str p.1, .int p.2])) (fun p => .str (termW p)) (iter_tmW rfl) rfl (by omega) fun p hp => by
    obtain ⟨h1, h2⟩ := h p hp
    have hd := (dec_ok h2).1.l
    refine ⟨[some (.p (tmD tm)), some (.p (.str p.1)), some (pI p.2)], rfl, ?_⟩
    refine ev_js (t := [' ']) rfl (by simp) (ev_js (t := decT p.2) (ev_fmtI rfl h2) (by simp; omega) (ev_js (t := [' ']) rfl (by simp; omega) (ev_js (t := p.1) (ev_fmt rfl) (by simp; omega) ?_)))
    rw [js_nil]
    simp [termW]
  rw [lst_map2W D.str termW] at c
  refine f_rt (es_ret rfl ((ev_join rfl c (Nat.le_trans (joinLen_le (B := 22) fun t ht => ?_) (by simp; omega))).trans ?_))
  rotate_left
  · rw [join_nil, List.flatMap_map]; rfl
  · obtain ⟨p, hp, rfl⟩ := List.mem_map.mp ht
    exact term_len (h p hp).1 (h p hp).2
theorem line_row (r : Ro) : lineW (wordsR r) = (((rowW ++ ' ' :: r.nm) ++ ' ' :: r.kd) ++ ' ' :: decT r.bn) ++ r.tm.flatMap termW := by
  have e : ∀ tm : List (T × Int), ((tm.flatMap fun p => [decT p.2, p.1]).flatMap fun v => ' ' :: v) = tm.flatMap termW := fun tm => by
    induction tm with
    | nil => rfl
    | cons p tm ih =>
      rw [List.flatMap_cons, List.flatMap_cons, List.flatMap_append, ih]
      simp [termW]
  show rowW ++ ([r.nm, r.kd, decT r.bn] ++ r.tm.flatMap fun p => [decT p.2, p.1]).flatMap (fun v => ' ' :: v) = _
  rw [List.flatMap_append, e]
  simp
noncomputable abbrev wrB : SM := (sSeq (sExpr (mMeth isLstV fApp (mVar 1) (aCons (m2 (fAdd false) (m2 (fAdd false) (mJs [(mD (.str ['r', 'o', 'w', ' '])), (mFmt (mVar 2)), (mD (.str [' '])), (mFmt (mVar 4)), (mD (.str [' '])), (mFmt (mVar 5))] []) (mApp 1 F_write_terms (aCons (mVar 3) aNil))) (mD (.str ['\n']))) aNil))) sNil)
theorem iter_ro {m : EM} {env : Slots} {st : Sto} {rs : List Ro} (h : m env st = .ok (.p (.tup (rs.map Ro.d))) st) : mIter m env st = .ok (rs.map fun r => .p r.d, none) st := by
  refine (iter_tupD h).trans ?_
  rw [List.map_map]; rfl
section
variable {R : Rw}
theorem row_line_len (h : Wr R) {r : Ro} (hr : r ∈ R.rs) : (lineW (wordsR r)).length ≤ 200 := by
  obtain ⟨k1, k2⟩ := words_ok h hr
  have := line_len (ws := wordsR r) fun w hw => (k1 w hw).l
  omega
theorem wr_loop (h : Wr R) (st : Sto) (all : List Val) : ∀ (rs : List Ro) (done : List T) (x2 x3 x4 x5 : Option Val), (∀ r ∈ rs, r ∈ R.rs) → done.length + rs.length ≤ 1000 →
    ∃ y2 y3 y4 y5, forGo none all (gT [(gN 2), (gN 3), (gN 4), (gN 5)]) wrB (rs.map fun r => .p r.d) [some (.p R.d), some (.r st.length), x2, x3, x4, x5] (st ++ [.lst ((done.map .str).map .p)]) =
      .nx [some (.p R.d), some (.r st.length), y2, y3, y4, y5] (st ++ [.lst (((done ++ rs.map fun r => lineW (wordsR r) ++ ['\n']).map .str).map .p)])
  | [], done, x2, x3, x4, x5, _, _ => ⟨x2, x3, x4, x5, by simp [forGo, watch]⟩
  | r :: rs, done, x2, x3, x4, x5, hr, hn => by
    rw [List.length_cons] at hn
    obtain ⟨y2, y3, y4, y5, ih⟩ := wr_loop h st all rs (done ++ [lineW (wordsR r) ++ ['\n']]) (some (.p (.str r.nm))) (some (.p (tmD r.tm))) (some (.p (.str r.kd))) (some (pI r.bn)) (fun q hq => hr q (List.mem_cons_of_mem _ hq)) (by rw [List.length_append, List.length_cons, List.length_nil]; omega)
    refine ⟨y2, y3, y4, y5, ?_⟩
    have hrm := hr r (List.mem_cons_self ..)
    have hnm := (h.rn r hrm).1.l
    have hkd := (kd_ok (h.rk r hrm)).l
    have hbn := (dec_ok (h.rb r hrm)).1.l
    obtain ⟨t1, t2, t3⟩ := h.rt r hrm
    have hll := row_line_len h hrm
    let σ : Sto := st ++ [.lst ((done.map .str).map .p)]
    let env1 : Slots := [some (.p R.d), some (.r st.length), some (.p (.str r.nm)), some (.p (tmD r.tm)), some (.p (.str r.kd)), some (pI r.bn)]
    have e1 : mJs [(mD (.str ['r', 'o', 'w', ' '])), (mFmt (mVar 2)), (mD (.str [' '])), (mFmt (mVar 4)), (mD (.str [' '])), (mFmt (mVar 5))] [] env1 σ = .ok (.p (.str (((rowW ++ ' ' :: r.nm) ++ ' ' :: r.kd) ++ ' ' :: decT r.bn))) σ := by
      refine ev_js (t := ['r', 'o', 'w', ' ']) rfl (by simp) (ev_js (t := r.nm) (ev_fmt rfl) (by simp; omega) (ev_js (t := [' ']) rfl (by simp; omega) (ev_js (t := r.kd) (ev_fmt rfl) (by simp; omega) (ev_js (t := [' ']) rfl (by simp; omega) (ev_js (t := decT r.bn) (ev_fmtI rfl (h.rb r hrm)) (by simp; omega) ?_)))))
      rw [js_nil]
      simp [rowW]
    have e2 := f_write_terms (tm := r.tm) t1 (fun p hp => ⟨(h.ns _ (t2 p hp).1).1.l, (t2 p hp).2.1⟩) σ
    have hlen := hll
    rw [line_row, List.length_append] at hlen
    have ev : m2 (fAdd false) (m2 (fAdd false) (mJs [(mD (.str ['r', 'o', 'w', ' '])), (mFmt (mVar 2)), (mD (.str [' '])), (mFmt (mVar 4)), (mD (.str [' '])), (mFmt (mVar 5))] []) (mApp 1 F_write_terms (aCons (mVar 3) aNil))) (mD (.str ['\n'])) env1 σ = .ok (.p (.str (lineW (wordsR r) ++ ['\n']))) σ := by
      refine ev_2 (x := .p (.str (lineW (wordsR r)))) (ev_2 e1 (ev_app (a1 rfl) rfl e2) ?_) (y := .p (.str ['\n'])) rfl (cat_str (by simp only [List.length_cons, List.length_nil]; omega))
      rw [line_row]
      exact cat_str (by omega)
    have ea := ev_app1S (mo := mVar 1) (env := env1) (st := σ) (st1 := σ) (l := st.length) (x := .p (.str (lineW (wordsR r) ++ ['\n']))) rfl lastW_at ev lastW_at (by simp; omega)
    have hb : wrB env1 σ = .nx env1 (st ++ [.lst (((done ++ [lineW (wordsR r) ++ ['\n']]).map .str).map .p)]) := by
      show sSeq (sExpr _) sNil env1 σ = _
      rw [seq_end]
      unfold sExpr
      rw [ea]
      simp only [Sl.R.then]
      rw [lastW_set, List.map_append, List.map_append]
      rfl
    rw [List.map_cons]
    unfold forGo
    have hg : gT [(gN 2), (gN 3), (gN 4), (gN 5)] (.p r.d) [some (.p R.d), some (.r st.length), x2, x3, x4, x5] = some env1 := rfl
    simp only [watch, hg, if_true]
    rw [hb]
    dsimp only
    rw [ih, List.append_assoc]
    rfl
theorem text_eq (h : Wr R) : ((R.ns.map fun n => lineW [unkW, n] ++ ['\n']) ++ R.rs.map fun r => lineW (wordsR r) ++ ['\n']).flatMap id = textR R := by
  unfold textR linesR
  rw [List.flatMap_append, List.flatMap_append, List.flatMap_map, List.flatMap_map, List.flatMap_map, List.flatMap_map]
  rfl
theorem unk_len (h : Wr R) {n : T} (hn : n ∈ R.ns) : (lineW [unkW, n]).length ≤ 30 := by
  have := (h.ns n hn).1.l
  simp only [lineW, unkW, List.flatMap_cons, List.flatMap_nil, List.append_nil, List.length_append, List.length_cons, List.length_nil]
  omega
theorem f_write_rows (h : Wr R) (st : Sto) (hc : Clo st) : F_write_rows [.p R.d] st = .ok (.p (.str (textR R))) st := by
  refine f_rt ?_
  have hnl := h.nsl
  have hrl := h.rsl
  let E0 : Slots := [some (.p R.d), none, none, none, none, none]
  have n1 : m2 fIx (mVar 0) (mD (.int 1)) E0 st = .ok (.p (.tup (R.ns.map .str))) st := ev_2 (x := .p R.d) (y := pI 1) rfl rfl rfl
  have c := comp_S0 (xs := R.ns) (ow := [2]) (mi := mIter (m2 fIx (mVar 0) (mD (.int 1)))) (gm := gN 2) (me := mJs [(mD (.str ['u', 'n', 'k', 'n', 'o', 'w', 'n', ' '])), (mFmt (mVar 2)), (mD (.str ['\n']))] []) (env := E0) (st := st) (src := none) (fun t => .p (.str t)) (fun n => .p (.str (lineW [unkW, n] ++ ['\n']))) ((iter_tupD n1).trans (by rw [List.map_map]; rfl)) rfl (by omega) fun n hn => by
    refine ⟨[some (.p R.d), none, some (.p (.str n)), none, none, none], rfl, ?_⟩
    have := (h.ns n hn).1.l
    refine ev_js (t := ['u', 'n', 'k', 'n', 'o', 'w', 'n', ' ']) rfl (by simp) (ev_js (t := n) (ev_fmt rfl) (by simp; omega) (ev_js (t := ['\n']) rfl (by simp; omega) ?_))
    rw [js_nil]
    simp [lineW, unkW]
  have e0 : (R.ns.map fun n => Val.p (.str (lineW [unkW, n] ++ ['\n']))) = ((R.ns.map fun n => lineW [unkW, n] ++ ['\n']).map D.str).map Val.p := by rw [List.map_map, List.map_map]; rfl
  rw [e0] at c
  refine es_asg (v := .r st.length) (st' := st ++ [SObj.lst (((R.ns.map fun n => lineW [unkW, n] ++ ['\n']).map D.str).map Val.p)]) (env' := [some (.p R.d), some (.r st.length), none, none, none, none]) c rfl ?_
  obtain ⟨y2, y3, y4, y5, el⟩ := wr_loop h st (R.rs.map fun r => .p r.d) R.rs (R.ns.map fun n => lineW [unkW, n] ++ ['\n']) none none none none (fun r hr => hr) (by rw [List.length_map]; omega)
  have hi : mIter (m2 fIx (mVar 0) (mD (.int 2))) [some (.p R.d), some (.r st.length), none, none, none, none] (st ++ [.lst (((R.ns.map fun n => lineW [unkW, n] ++ ['\n']).map .str).map .p)]) = .ok (R.rs.map fun r => .p r.d, none) (st ++ [.lst (((R.ns.map fun n => lineW [unkW, n] ++ ['\n']).map .str).map .p)]) := iter_ro (ev_2 (x := .p R.d) (y := pI 2) rfl rfl rfl)
  refine (seq_nx (for_run hi el)).trans ?_
  let LS := (R.ns.map fun n => lineW [unkW, n] ++ ['\n']) ++ R.rs.map fun r => lineW (wordsR r) ++ ['\n']
  let σ : Sto := st ++ [.lst ((LS.map .str).map .p)]
  refine es_retZ (st := st) (env' := [some (.p R.d), some (.p (.lst (LS.map .str))), frzS st.length σ y2, frzS st.length σ y3, frzS st.length σ y4, frzS st.length σ y5]) ?_ ?_ hc ?_ ?_
  · show (st ++ [_]).length ≠ _
    simp
  · exact List.take_left
  · simp only [List.map_cons, List.map_nil]
    rw [frz_lst (ds := LS.map .str) lastW_at (Nat.le_refl _)]
    rfl
  · have hj : joinLen [] LS ≤ 100000 := by
      refine Nat.le_trans (joinLen_le (B := 201) fun t ht => ?_) ?_
      · rcases List.mem_append.mp ht with ht | ht
        · obtain ⟨n, hn, rfl⟩ := List.mem_map.mp ht
          have := unk_len h hn
          simp only [List.length_append, List.length_cons, List.length_nil]; omega
        · obtain ⟨r, hr, rfl⟩ := List.mem_map.mp ht
          have := row_line_len h hr
          simp only [List.length_append, List.length_cons, List.length_nil]; omega
      · simp only [LS, List.length_append, List.length_map, List.length_nil]
        omega
    refine (ev_join (ts := LS) rfl rfl hj).trans ?_
    rw [join_nil, text_eq h]
end
end Sh
end
section
set_option Elab.async false
set_option linter.all false
set_option maxRecDepth 100000
set_option maxHeartbeats 4000000
set_option exponentiation.threshold 100
namespace Sh
open PySem PySem.Spec L2 Sl PyProof.Rows
theorem ev_strI {m : EM} {i : Int} {env : Slots} {st : Sto} (h : m env st = .ok (pI i) st) (hi : i.natAbs ≤ 14) : mCall fStr (aCons m aNil) env st = .ok (.p (.str (decT i))) st := by
  refine ev_call (a1 h) ?_
  have key : ∀ n : Nat, n < 29 → Sl.strOf (pI ((n : Int) - 14)) = some (decT ((n : Int) - 14)) := by decide
  have := int29 (P := fun i => Sl.strOf (pI i) = some (decT i)) key hi
  unfold fStr
  simp only [this]
noncomputable abbrev lrB : SM := (sSeq (sAsg (m2 (fAdd false) (m2 (fAdd false) (mVar 1) (mMeth isStrV fJoin (mD (.str [' '])) (aCons (m2 (fAdd false) (mLst false (aCons (mD (.str ['r', 'o', 'w'])) (aCons (mVar 2) (aCons (mVar 4) (aCons (mCall fStr (aCons (mVar 5) aNil)) aNil))))) (mComp false [6, 7] (mIter (mVar 3)) (gT [(gN 6), (gN 7)]) tmYes (m2 (fAdd false) (m2 (fAdd false) (mCall fStr (aCons (mVar 7) aNil)) (mD (.str [' ']))) (mVar 6)))) aNil))) (mD (.str ['\n']))) (gN 1)) sNil)
section
variable {R : Rw}
theorem law_line (r : Ro) : joinT [' '] ([rowW, r.nm, r.kd, decT r.bn] ++ r.tm.map fun p => (decT p.2 ++ [' ']) ++ p.1) = lineW (wordsR r) := by
  rw [join_line, line_row]
  have e : ∀ tm : List (T × Int), (tm.map fun p => (decT p.2 ++ [' ']) ++ p.1).flatMap (fun v => ' ' :: v) = tm.flatMap termW := fun tm => by
    rw [List.flatMap_map]
    refine congrArg (fun f => List.flatMap f tm) (funext fun p => ?_)
    simp [termW]
  show rowW ++ ([r.nm, r.kd, decT r.bn] ++ r.tm.map fun p => (decT p.2 ++ [' ']) ++ p.1).flatMap (fun v => ' ' :: v) = _
  rw [List.flatMap_append, e]
  simp
theorem lr_loop (h : Wr R) (st : Sto) (all : List Val) : ∀ (rs : List Ro) (done : T) (x2 x3 x4 x5 : Option Val), (∀ r ∈ rs, r ∈ R.rs) → done.length + 300 * rs.length ≤ 50000 →
    ∃ y2 y3 y4 y5, forGo none all (gT [(gN 2), (gN 3), (gN 4), (gN 5)]) lrB (rs.map fun r => .p r.d) [some (.p R.d), some (.p (.str done)), x2, x3, x4, x5, none, none] st =
      .nx [some (.p R.d), some (.p (.str (done ++ rs.flatMap fun r => lineW (wordsR r) ++ ['\n']))), y2, y3, y4, y5, none, none] st
  | [], done, x2, x3, x4, x5, _, _ => ⟨x2, x3, x4, x5, by simp [forGo, watch]⟩
  | r :: rs, done, x2, x3, x4, x5, hr, hn => by
    rw [List.length_cons] at hn
    have hrm := hr r (List.mem_cons_self ..)
    have hll := row_line_len h hrm
    obtain ⟨y2, y3, y4, y5, ih⟩ := lr_loop h st all rs (done ++ (lineW (wordsR r) ++ ['\n'])) (some (.p (.str r.nm))) (some (.p (tmD r.tm))) (some (.p (.str r.kd))) (some (pI r.bn)) (fun q hq => hr q (List.mem_cons_of_mem _ hq)) (by rw [List.length_append, List.length_append, List.length_cons, List.length_nil]; omega)
    refine ⟨y2, y3, y4, y5, ?_⟩
    have hnm := (h.rn r hrm).1.l
    have hkd := (kd_ok (h.rk r hrm)).l
    have hbn := (dec_ok (h.rb r hrm)).1.l
    obtain ⟨t1, t2, t3⟩ := h.rt r hrm
    let env1 : Slots := [some (.p R.d), some (.p (.str done)), some (.p (.str r.nm)), some (.p (tmD r.tm)), some (.p (.str r.kd)), some (pI r.bn), none, none]
    have c := comp_P0 (xs := r.tm) (ow := [6, 7]) (mi := mIter (mVar 3)) (gm := gT [(gN 6), (gN 7)]) (me := m2 (fAdd false) (m2 (fAdd false) (mCall fStr (aCons (mVar 7) aNil)) (mD (.str [' ']))) (mVar 6)) (env := env1) (st := st) (src := none) (fun p => .p (.tup [.str p.1, .int p.2])) (fun p => .str ((decT p.2 ++ [' ']) ++ p.1)) (iter_tmW rfl) rfl (by omega) fun p hp => by
      obtain ⟨q1, q2, _⟩ := t2 p hp
      have d1 := (dec_ok q2).1.l
      have d2 := (h.ns _ q1).1.l
      refine ⟨[some (.p R.d), some (.p (.str done)), some (.p (.str r.nm)), some (.p (tmD r.tm)), some (.p (.str r.kd)), some (pI r.bn), some (.p (.str p.1)), some (pI p.2)], rfl, ?_⟩
      exact ev_2 (ev_2 (ev_strI rfl q2) (y := .p (.str [' '])) rfl (cat_str (by simp only [List.length_cons, List.length_nil]; omega))) (y := .p (.str p.1)) rfl (cat_str (by simp only [List.length_append, List.length_cons, List.length_nil]; omega))
    rw [lst_map2W D.str (fun p : T × Int => (decT p.2 ++ [' ']) ++ p.1)] at c
    have el : m2 (fAdd false) (mLst false (aCons (mD (.str ['r', 'o', 'w'])) (aCons (mVar 2) (aCons (mVar 4) (aCons (mCall fStr (aCons (mVar 5) aNil)) aNil))))) (mComp false [6, 7] (mIter (mVar 3)) (gT [(gN 6), (gN 7)]) tmYes (m2 (fAdd false) (m2 (fAdd false) (mCall fStr (aCons (mVar 7) aNil)) (mD (.str [' ']))) (mVar 6))) env1 st = .ok (.p (.lst (([rowW, r.nm, r.kd, decT r.bn] ++ r.tm.map fun p => (decT p.2 ++ [' ']) ++ p.1).map .str))) st := by
      refine ev_2 (ev_lst (ds := [.str rowW, .str r.nm, .str r.kd, .str (decT r.bn)]) (sa rfl (sa rfl (sa rfl (sa (ev_strI rfl (h.rb r hrm)) rfl)))) (by simp)) c ?_
      rw [add_lst (by rw [List.length_map, List.length_map]; simp; omega), List.map_append]
      rfl
    have hj : joinLen [' '] ([rowW, r.nm, r.kd, decT r.bn] ++ r.tm.map fun p => (decT p.2 ++ [' ']) ++ p.1) ≤ 100000 := by
      refine Nat.le_trans (joinLen_le (B := 30) fun t ht => ?_) (by simp only [List.length_append, List.length_map, List.length_cons, List.length_nil]; omega)
      rcases List.mem_append.mp ht with ht | ht
      · simp only [List.mem_cons, List.not_mem_nil, or_false] at ht
        rcases ht with rfl | rfl | rfl | rfl
        · decide
        · omega
        · omega
        · omega
      · obtain ⟨p, hp, rfl⟩ := List.mem_map.mp ht
        obtain ⟨q1, q2, _⟩ := t2 p hp
        have d1 := (dec_ok q2).1.l
        have d2 := (h.ns _ q1).1.l
        simp only [List.length_append, List.length_cons, List.length_nil]; omega
    have ej := ev_join (mo := mD (.str [' '])) (sep := [' ']) rfl el hj
    rw [law_line] at ej
    have hb : lrB env1 st = .nx [some (.p R.d), some (.p (.str (done ++ (lineW (wordsR r) ++ ['\n'])))), some (.p (.str r.nm)), some (.p (tmD r.tm)), some (.p (.str r.kd)), some (pI r.bn), none, none] st := by
      refine es_asg (v := .p (.str (done ++ (lineW (wordsR r) ++ ['\n'])))) (st' := st) (ev_2 (ev_2 (x := .p (.str done)) rfl ej (cat_str (by omega))) (y := .p (.str ['\n'])) rfl ?_) rfl rfl
      rw [cat_str (by simp only [List.length_append, List.length_cons, List.length_nil]; omega), List.append_assoc]
    rw [List.map_cons]
    unfold forGo
    have hg : gT [(gN 2), (gN 3), (gN 4), (gN 5)] (.p r.d) [some (.p R.d), some (.p (.str done)), x2, x3, x4, x5, none, none] = some env1 := rfl
    simp only [watch, hg, if_true]
    rw [hb]
    dsimp only
    rw [ih, List.append_assoc, List.flatMap_cons]
theorem f_law_rows_text (h : Wr R) (st : Sto) : F__law_rows_text [.p R.d] st = .ok (.p (.str (textR R))) st := by
  refine f_rt ?_
  have hnl := h.nsl
  have hrl := h.rsl
  let E0 : Slots := [some (.p R.d), none, none, none, none, none, none, none]
  have n1 : m2 fIx (mVar 0) (mD (.int 1)) E0 st = .ok (.p (.tup (R.ns.map .str))) st := ev_2 (x := .p R.d) (y := pI 1) rfl rfl rfl
  have c := comp_P0 (xs := R.ns) (ow := [2]) (mi := mIter (m2 fIx (mVar 0) (mD (.int 1)))) (gm := gN 2) (me := m2 (fAdd false) (m2 (fAdd false) (mD (.str ['u', 'n', 'k', 'n', 'o', 'w', 'n', ' '])) (mVar 2)) (mD (.str ['\n']))) (env := E0) (st := st) (src := none) (fun t => .p (.str t)) (fun n => .str (lineW [unkW, n] ++ ['\n'])) ((iter_tupD n1).trans (by rw [List.map_map]; rfl)) rfl (by omega) fun n hn => by
    refine ⟨[some (.p R.d), none, some (.p (.str n)), none, none, none, none, none], rfl, ?_⟩
    have := (h.ns n hn).1.l
    refine ev_2 (x := .p (.str (lineW [unkW, n]))) (ev_2 (x := .p (.str ['u', 'n', 'k', 'n', 'o', 'w', 'n', ' '])) (y := .p (.str n)) rfl rfl ?_) (y := .p (.str ['\n'])) rfl (cat_str (by have := unk_len h hn; simp only [List.length_cons, List.length_nil]; omega))
    rw [cat_str (by simp only [List.length_cons, List.length_nil]; omega)]
    simp [lineW, unkW]
  rw [lst_map2W D.str (fun n => lineW [unkW, n] ++ ['\n'])] at c
  have hj : joinLen [] (R.ns.map fun n => lineW [unkW, n] ++ ['\n']) ≤ 100000 := by
    refine Nat.le_trans (joinLen_le (B := 40) fun t ht => ?_) (by simp only [List.length_map, List.length_nil]; omega)
    obtain ⟨n, hn, rfl⟩ := List.mem_map.mp ht
    have := unk_len h hn
    simp only [List.length_append, List.length_cons, List.length_nil]; omega
  have ej := ev_join (mo := mD (.str [])) (sep := []) rfl c hj
  rw [join_nil] at ej
  let t0 : T := (R.ns.map fun n => lineW [unkW, n] ++ ['\n']).flatMap id
  have ht0 : t0.length ≤ 1000 := by
    have := flat_len (c := '\n') (B := 30) (ls := R.ns.map fun n => lineW [unkW, n]) fun w hw => by
      obtain ⟨n, hn, rfl⟩ := List.mem_map.mp hw
      exact unk_len h hn
    rw [List.length_map] at this
    have e : t0 = (R.ns.map fun n => lineW [unkW, n]).flatMap fun w => w ++ ['\n'] := by
      show List.flatMap id _ = _
      rw [List.flatMap_map, List.flatMap_map]; rfl
    rw [e]
    omega
  refine es_asg (v := .p (.str t0)) (st' := st) (env' := [some (.p R.d), some (.p (.str t0)), none, none, none, none, none, none]) ej rfl ?_
  obtain ⟨y2, y3, y4, y5, el⟩ := lr_loop h st (R.rs.map fun r => .p r.d) R.rs t0 none none none none (fun r hr => hr) (by omega)
  refine (seq_nx (for_run (iter_ro (ev_2 (x := .p R.d) (y := pI 2) rfl rfl rfl)) el)).trans (es_ret rfl ?_)
  have e : t0 ++ (R.rs.flatMap fun r => lineW (wordsR r) ++ ['\n']) = textR R := by
    rw [← text_eq h, List.flatMap_append]
    congr 1
    rw [List.flatMap_map]; rfl
  rw [e]; rfl
end
end Sh
end
section
set_option Elab.async false
set_option linter.all false
set_option maxRecDepth 100000
set_option maxHeartbeats 4000000
set_option exponentiation.threshold 100
namespace Sh
open PySem PySem.Spec L2 Sl PyProof.Rows
theorem cut1 {α : Type} (xs : List α) : cutL xs none (some 1) = xs.take 1 := by
  have h : HT.sIx xs.length xs.length (some 1) = min 1 xs.length := by
    unfold HT.sIx
    dsimp only
    split <;> omega
  have h0 : HT.sIx xs.length 0 none = 0 := rfl
  unfold cutL
  rw [h, h0, List.drop_zero, Nat.sub_zero]
  by_cases q : 1 ≤ xs.length
  · rw [Nat.min_eq_left q]
  · rw [Nat.min_eq_right (by omega), List.take_of_length_le (Nat.le_refl _), List.take_of_length_le (by omega)]
theorem cutFrom {α : Type} (xs : List α) (k : Nat) (h : k ≤ xs.length) : cutL xs (some (k : Int)) none = xs.drop k := by
  have h1 : HT.sIx xs.length 0 (some (k : Int)) = k := by
    unfold HT.sIx
    dsimp only
    split <;> omega
  have h2 : HT.sIx xs.length xs.length none = xs.length := rfl
  unfold cutL
  rw [h1, h2]
  refine List.take_of_length_le ?_
  rw [List.length_drop]
  omega
def digT (t : T) : T := if t.take 1 = ['-'] then t.drop 1 else t
structure Wn (t : T) : Prop where
  h1 : 1 ≤ (digT t).length
  h9 : (digT t).length ≤ 9
  dg : onlyT DIG (digT t) = true
  z : (digT t).head? ≠ some '0' ∨ t = ['0']
  l : t.length ≤ 10
theorem wn0 : ∀ n : Nat, n < 29 → 1 ≤ (digT (decT ((n : Int) - 14))).length ∧ (digT (decT ((n : Int) - 14))).length ≤ 9 ∧ onlyT DIG (digT (decT ((n : Int) - 14))) = true ∧ ((digT (decT ((n : Int) - 14))).head? ≠ some '0' ∨ decT ((n : Int) - 14) = ['0']) ∧ (decT ((n : Int) - 14)).length ≤ 10 := by decide
theorem dec_wn {i : Int} (hi : i.natAbs ≤ 14) : Wn (decT i) := by
  obtain ⟨a, b, c, d, e⟩ := int29 (P := fun i => 1 ≤ (digT (decT i)).length ∧ (digT (decT i)).length ≤ 9 ∧ onlyT DIG (digT (decT i)) = true ∧ ((digT (decT i)).head? ≠ some '0' ∨ decT i = ['0']) ∧ (decT i).length ≤ 10) wn0 hi
  exact ⟨a, b, c, d, e⟩
theorem f_is_written {t : T} (h : Wn t) (st : Sto) : F__is_written [.p (.str t), pI 9] st = .ok (yes true) st := by
  refine f_rt ?_
  let E : Option Val → Slots := fun x => [some (.p (.str t)), some (pI 9), x]
  have hs1 : mSlice (fSl false) (mVar 0) oNone (oSome (mD (.int 1))) (E none) st = .ok (.p (.str (t.take 1))) st := by
    show R.ok (Val.p (.str (cutL t none (some 1)))) st = _
    rw [cut1]
  have e1 : tVal (m2 (fEq false) (mSlice (fSl false) (mVar 0) oNone (oSome (mD (.int 1)))) (mD (.str ['-']))) (E none) st = .ok (decide (t.take 1 = ['-'])) st := et_val (ev_2 hs1 rfl (eq_kd _ _ _))
  have ed : mIf (tVal (m2 (fEq false) (mSlice (fSl false) (mVar 0) oNone (oSome (mD (.int 1)))) (mD (.str ['-'])))) (mSlice (fSl false) (mVar 0) (oSome (mD (.int 1))) oNone) (mVar 0) (E none) st = .ok (.p (.str (digT t))) st := by
    refine ev_if e1 (fun q => ?_) fun q => ?_
    · have q := of_decide_eq_true q
      have hl : 1 ≤ t.length := by
        cases t with
        | nil => simp at q
        | cons c t => simp
      show R.ok (Val.p (.str (cutL t (some ((1 : Nat) : Int)) none))) st = _
      rw [cutFrom t 1 hl]
      unfold digT
      rw [if_pos q]
    · have q := of_decide_eq_false q
      unfold digT
      rw [if_neg q]; rfl
  refine es_asg (v := .p (.str (digT t))) (st' := st) (env' := E (some (.p (.str (digT t))))) ed rfl ?_
  have hlen : mCall fLen (aCons (mVar 2) aNil) (E (some (.p (.str (digT t))))) st = .ok (pI ((digT t).length : Nat)) st := ev_call (a1 rfl) rfl
  have d1 : decide ((1 : Int) ≤ ((digT t).length : Nat)) = true := decide_eq_true (by have := h.h1; omega)
  have d9 : decide ((((digT t).length : Nat) : Int) ≤ 9) = true := decide_eq_true (by have := h.h9; omega)
  have ec : tVal (mChain fLe fLe (mD (.int 1)) (mCall fLen (aCons (mVar 2) aNil)) (mVar 1)) (E (some (.p (.str (digT t))))) st = .ok true st := by
    have := ev_chain (f := fLe) (g := fLe) (ma := mD (.int 1)) (mb := mCall fLen (aCons (mVar 2) aNil)) (mc := mVar 1) (env := E (some (.p (.str (digT t))))) (st := st) (x := pI 1) (y := pI ((digT t).length : Nat)) (a := true) (b := true) rfl hlen (by show some (yes (decide _), st) = _; rw [d1]) fun _ => ⟨pI 9, rfl, by show some (yes (decide _), st) = _; rw [d9]⟩
    exact et_val this
  have hd2 : (digT t).length ≤ 100 := by have := h.h9; omega
  have eo := f_has_only (digT t) DIG st hd2
  rw [h.dg] at eo
  refine (ss_in (et_or (a := false) (b := false) (et_not (b := true) ec) fun _ => et_not (b := true) (et_truth (ev_app (a2 rfl rfl) rfl eo)))).trans ?_
  obtain ⟨c, cs, ecs⟩ : ∃ c cs, digT t = c :: cs := by
    have := h.h1
    cases q : digT t with
    | nil => rw [q] at this; simp at this
    | cons c cs => exact ⟨c, cs, rfl⟩
  have hz := h.z
  have e0 : m2 (fEq true) (m2 fIx (mVar 2) (mD (.int 0))) (mD (.str ['0'])) (E (some (.p (.str (digT t))))) st = .ok (yes (!decide (([c] : T) = ['0']))) st := by
    refine ev_2 (x := .p (.str [c])) (ev_2 (x := .p (.str (digT t))) (y := pI 0) rfl rfl ?_) rfl (eq_kdN _ _ _)
    rw [ecs]
    have : L2.atI (c :: cs) 0 = some c := atI_nat (c :: cs) 0
    show (match L2.atI (c :: cs) 0 with | some x => some (Val.p (.str [x]), st) | none => none) = _
    rw [this]
  refine es_ret rfl ?_
  rw [ecs] at hz
  by_cases hc : c = '0'
  · have ht : t = ['0'] := hz.elim (fun z => absurd (by rw [hc]; rfl) z) id
    rw [decide_eq_true (by rw [hc])] at e0
    exact ev_or (a := false) (b := true) e0 fun _ => ev_2 (x := .p (.str t)) rfl rfl (by rw [eq_kd, decide_eq_true ht])
  · rw [decide_eq_false (by intro z; exact hc (List.cons.inj z).1)] at e0
    exact ev_or (a := true) (b := true) e0 fun z => nomatch z
theorem f_number_of {t : T} {i : Int} (h : Wn t) (hr : readInt t = some i) (st : Sto) : F_number_of [.p (.str t)] st = .ok (pI i) st := by
  have er : F_read_number [.p (.str t)] st = .ok (pI i) st := by
    refine f_rt ?_
    refine (seq_nx (es_if (b := false) (et_not (b := true) (et_truth (ev_app (a2 rfl rfl) rfl (f_is_written h st)))) (fun z => nomatch z) fun _ => rfl)).trans (es_ret rfl (ev_call (a1 rfl) ?_))
    have hl := h.l
    show (if t.length ≤ 640 then match readInt t with | some n => some (Val.p (.int n), st) | none => none else none) = _
    rw [if_pos (by omega), hr]
  refine f_rt ?_
  show sSeq (sTry _) sNil _ st = _
  rw [seq_end]
  unfold sTry
  have e : sSeq (sRet st.length (mApp 1 F_read_number (aCons (mVar 0) aNil))) sNil [some (.p (.str t))] st = .rt (pI i) st := es_ret rfl (ev_app (a1 rfl) rfl er)
  show (match sSeq (sRet st.length (mApp 1 F_read_number (aCons (mVar 0) aNil))) sNil [some (.p (.str t))] st with | .exc _ _ _ _ => SR.fail | r => r) = _
  rw [e]
def wdsT (tm : List (T × Int)) : List T := tm.flatMap fun p => [decT p.2, p.1]
theorem wds_len : ∀ tm : List (T × Int), (wdsT tm).length = 2 * tm.length
  | [] => rfl
  | p :: tm => by
    show ([decT p.2, p.1] ++ wdsT tm).length = _
    rw [List.length_append, wds_len tm]; simp; omega
theorem wds_at : ∀ (tm : List (T × Int)) (i : Nat) (h : i < tm.length), (wdsT tm)[2 * i]? = some (decT tm[i].2) ∧ (wdsT tm)[2 * i + 1]? = some tm[i].1
  | [], i, h => absurd h (Nat.not_lt_zero _)
  | p :: tm, 0, h => ⟨rfl, rfl⟩
  | p :: tm, i + 1, h => by
    obtain ⟨a, b⟩ := wds_at tm i (by simpa using h)
    show ([decT p.2, p.1] ++ wdsT tm)[2 * (i + 1)]? = _ ∧ ([decT p.2, p.1] ++ wdsT tm)[2 * (i + 1) + 1]? = _
    rw [show 2 * (i + 1) = 2 * i + 1 + 1 by omega]
    exact ⟨a, b⟩
theorem ix_strs {ws : List T} {k : Nat} {w : T} {st : Sto} (h : ws[k]? = some w) : fIx (.p (.lst (ws.map .str))) (pI (k : Nat)) st = some (.p (.str w), st) := by
  obtain ⟨hk, e⟩ := List.getElem?_eq_some_iff.mp h
  rw [ix_lst hk, e]
theorem tm_any {tm : List (T × Int)} (hl : tm.length ≤ 6) (h : ∀ p ∈ tm, WdOk p.1 ∧ nameT p.1 = true ∧ p.2.natAbs ≤ 14 ∧ p.2 ≠ 0) (ha : ascT (tm.map Prod.fst) = true) : anyTermsD (tmD tm) = true ∧ okD (tmD tm) = true := by
  constructor
  · show ((tm.map fun p => D.tup [.str p.1, .int p.2]).all (pairD fun x _ => nameD x) && ((tm.map fun p => D.tup [.str p.1, .int p.2]).all (pairD fun _ y => betw (-99) 99 y && !deq y (.int 0)) && ascT ((tm.map fun p => D.tup [.str p.1, .int p.2]).map fst0))) = true
    rw [Bool.and_eq_true, Bool.and_eq_true]
    refine ⟨List.all_eq_true.mpr fun d hd => ?_, List.all_eq_true.mpr fun d hd => ?_, ?_⟩
    · obtain ⟨p, hp, rfl⟩ := List.mem_map.mp hd
      exact (h p hp).2.1
    · obtain ⟨p, hp, rfl⟩ := List.mem_map.mp hd
      obtain ⟨_, _, h1, h2⟩ := h p hp
      show (betw (-99) 99 (.int p.2) && !deq (.int p.2) (.int 0)) = true
      have e : deq (.int p.2) (.int 0) = (p.2 == 0) := rfl
      rw [e, Bool.and_eq_true]
      refine ⟨?_, by simpa using h2⟩
      simp only [betw, Bool.and_eq_true, decide_eq_true_eq]
      omega
    · rw [List.map_map]; exact ha
  · have e : 100 < wal0 := Nat.lt_trans (by decide) wal0_big
    refine orig_ok ?_
    show orig (.tup (tm.map fun p => D.tup [.str p.1, .int p.2])) = true
    unfold orig
    simp only [Bool.and_eq_true, decide_eq_true_eq]
    refine ⟨by rw [List.length_map]; omega, origL_all.mpr fun d hd => ?_⟩
    obtain ⟨p, hp, rfl⟩ := List.mem_map.mp hd
    obtain ⟨h0, _, h1, h2⟩ := h p hp
    have := h0.l
    simp only [orig, orig.origL, Bool.and_true, Bool.and_eq_true, decide_eq_true_eq]
    refine ⟨by simp, by omega, by omega⟩
theorem rng2 : ∀ n : Nat, n < 7 → ((2 : Int) ≠ 0 ∧ (2 : Int).natAbs < 1073741824 ∧ Builtin.Range.small 0 ((2 * n : Nat) : Int) 2 = true ∧ Builtin.Range.rangeSize 0 ((2 * n : Nat) : Int) 2 = ((Builtin.Range.rangeSize 0 ((2 * n : Nat) : Int) 2).toNat : Int)) ∧ (Builtin.Range.rangeSize 0 ((2 * n : Nat) : Int) 2).toNat = n := by decide
theorem rng3_ev {am : AM} {env : Slots} {st : Sto} {j : Int} {n : Nat} (ha : am env st = .ok [pI 0, pI j, pI 2] st) (h1 : Builtin.Range.small 0 j 2 = true) (h2 : Builtin.Range.rangeSize 0 j 2 = ((Builtin.Range.rangeSize 0 j 2).toNat : Int)) (h3 : (Builtin.Range.rangeSize 0 j 2).toNat = n) : mRng3 am env st = .ok (rngItemsC 0 2 n, none) st := by
  unfold mRng3
  rw [ha]
  simp only [Sl.R.bind]
  rw [if_pos ⟨by decide, by decide, h1, h2⟩, h3]
theorem f_terms_of {tm : List (T × Int)} (hl : tm.length ≤ 6) (h : ∀ p ∈ tm, WdOk p.1 ∧ nameT p.1 = true ∧ p.2.natAbs ≤ 14 ∧ p.2 ≠ 0) (ha : ascT (tm.map Prod.fst) = true) (st : Sto) : F_terms_of [.p (.lst ((wdsT tm).map .str))] st = .ok (.p (tmD tm)) st := by
  refine f_rt ?_
  let W : Val := .p (.lst ((wdsT tm).map .str))
  have hw := wds_len tm
  have ln : ∀ x y, mCall fLen (aCons (mVar 0) aNil) [some W, x, y] st = .ok (pI ((2 * tm.length : Nat) : Int)) st := fun x y => by
    refine ev_call (a1 (x := W) rfl) ?_
    show fLen [.p (.lst _)] st = _
    simp [fLen, viewL, hw]
  have hm : ∀ n : Nat, n < 7 → ((2 * n : Nat) : Int).fmod 2 = 0 := by decide
  have e1 : tVal (m2 (fEq false) (m2 fMod (mCall fLen (aCons (mVar 0) aNil)) (mD (.int 2))) (mD (.int 1))) [some W, none, none] st = .ok false st := by
    refine et_val (ev_2 (x := pI 0) (y := pI 1) (ev_2 (ln _ _) (y := pI 2) rfl ?_) rfl rfl)
    show (if decide ((2 : Int) ≠ 0) = true then some (Val.p (.int (((2 * tm.length : Nat) : Int).fmod 2)), _) else none) = _
    rw [if_pos (by decide), hm _ (by omega)]
  refine (ss_in e1).trans ?_
  obtain ⟨r1, r2⟩ := rng2 tm.length (by omega)
  have hi : mRng3 (aCons (mD (.int 0)) (aCons (mCall fLen (aCons (mVar 0) aNil)) (aCons (mD (.int 2)) aNil))) [some W, none, none] st = .ok ((List.range tm.length).map fun i : Nat => pI (0 + (i : Nat) * 2), none) st := by
    rw [rng3_ev (a3 rfl (ln _ _) rfl) r1.2.2.1 r1.2.2.2 r2]
    rfl
  have c := comp_P0 (xs := List.range tm.length) (ow := [2]) (mi := mRng3 (aCons (mD (.int 0)) (aCons (mCall fLen (aCons (mVar 0) aNil)) (aCons (mD (.int 2)) aNil)))) (gm := gN 2) (me := mTup (aCons (m2 fIx (mVar 0) (m2 (fAdd false) (mVar 2) (mD (.int 1)))) (aCons (mApp 1 F_number_of (aCons (m2 fIx (mVar 0) (mVar 2)) aNil)) aNil))) (env := [some W, none, none]) (st := st) (src := none) (fun i : Nat => pI (0 + (i : Nat) * 2)) (fun i => .tup [.str (tm.getD i ([], 0)).1, .int (tm.getD i ([], 0)).2]) hi rfl (by rw [List.length_range]; omega) fun i hi => by
    have hi := List.mem_range.mp hi
    have eg : tm.getD i ([], 0) = tm[i] := by rw [List.getD_eq_getElem?_getD, List.getElem?_eq_getElem hi]; rfl
    obtain ⟨w1, w2⟩ := wds_at tm i hi
    obtain ⟨h1, h2, h3, h4⟩ := h tm[i] (List.getElem_mem hi)
    rw [eg]
    refine ⟨[some W, none, some (pI (0 + (i : Nat) * 2))], rfl, ?_⟩
    have i1 : (0 + (i : Nat) * 2 : Int) + 1 = ((2 * i + 1 : Nat) : Int) := by omega
    have i0 : (0 + (i : Nat) * 2 : Int) = ((2 * i : Nat) : Int) := by omega
    refine ev_tup (ds := [.str tm[i].1, .int tm[i].2]) (a2 (ev_2 (x := W) rfl (ev_2 (x := pI (0 + (i : Nat) * 2)) (y := pI 1) rfl rfl rfl) ?_) (ev_app (a1 (ev_2 (x := W) (y := pI (0 + (i : Nat) * 2)) rfl rfl ?_)) rfl (f_number_of (dec_wn h3) (dec_ok h3).2 st))) (by simp)
    · rw [i1]; exact ix_strs w2
    · rw [i0]; exact ix_strs w1
  have et : (List.range tm.length).map (fun i => D.tup [.str (tm.getD i ([], 0)).1, .int (tm.getD i ([], 0)).2]) = tm.map fun p => .tup [.str p.1, .int p.2] := by
    refine List.ext_getElem (by simp) fun i k1 k2 => ?_
    have hi : i < tm.length := by simpa using k1
    rw [List.getElem_map, List.getElem_map, List.getElem_range]
    have eg : tm.getD i ([], 0) = tm[i] := by rw [List.getD_eq_getElem?_getD, List.getElem?_eq_getElem hi]; rfl
    rw [eg]
  rw [et] at c
  obtain ⟨ha1, ha2⟩ := tm_any hl h ha
  have ea := f_is_any_terms (tmD tm) st ha2
  rw [ha1] at ea
  refine es_asg (v := .p (tmD tm)) (st' := st) (env' := [some W, some (.p (tmD tm)), none]) (ev_call (a1 c) ?_) rfl ?_
  · have hh : (tm.map fun p => D.tup [.str p.1, .int p.2]).length ≤ sizeLine := by rw [List.length_map, sizeLine_eq]; omega
    simp only [fTuple, viewL, newTup, pureL_map]
    rw [if_pos hh]; rfl
  · exact es_ret rfl (ev_if (b := true) (et_truth (ev_app (a1 rfl) rfl ea)) (fun _ => rfl) fun z => nomatch z)
end Sh
end
section
set_option Elab.async false
set_option linter.all false
set_option maxRecDepth 100000
set_option maxHeartbeats 4000000
set_option exponentiation.threshold 100
namespace Sh
open PySem PySem.Spec L2 Sl PyProof.Rows
theorem ev_split {mo m : EM} {t : T} {c : Char} {env : Slots} {st : Sto} {ws : List T} (ho : mo env st = .ok (.p (.str t)) st) (hm : m env st = .ok (.p (.str [c])) st) (hc : c.toNat < 256) (h : splitC c t = ws) (hl : ws.length ≤ 1000) : mMeth isStrV (fSplit false) mo (aCons m aNil) env st = .ok (.p (.lst (ws.map .str))) st := by
  unfold mMeth
  rw [ho]
  simp only [Sl.R.bind, isStrV, if_true]
  rw [sa hm (rfl : aNil env st = .ok [] st)]
  have e : fSplit false (.p (.str t)) [.p (.str [c])] st = some (.p (.lst (ws.map .str)), st) := by
    simp only [fSplit]
    rw [if_pos hc, h]
    have e2 : (ws.map fun w => Val.p (.str w)) = (ws.map D.str).map Val.p := by rw [List.map_map]; rfl
    rw [e2]
    unfold newLst
    simp only [pureL_map]
    rw [if_pos (small_size (by rw [List.length_map]; omega))]
  simp only [Sl.R.bind, e]
  rfl
theorem f_read_name {n : T} (hn : WdOk n) (hm : nameT n = true) (st : Sto) : F__read_line [.p (.str (lineW [unkW, n]))] st = .ok (.p (.str n)) st := by
  refine f_rt ?_
  let W : Val := .p (.lst ([unkW, n].map .str))
  have hs : splitC ' ' (lineW [unkW, n]) = [unkW, n] := line_split (fun w hw => by
    simp only [List.mem_cons, List.not_mem_nil, or_false] at hw
    rcases hw with rfl | rfl
    · exact unk_ok
    · exact hn) (by simp)
  refine es_asg (v := W) (st' := st) (env' := [some (.p (.str (lineW [unkW, n]))), some W, none, none]) (ev_split (c := ' ') rfl rfl (by decide) hs (by simp)) rfl ?_
  let E : Slots := [some (.p (.str (lineW [unkW, n]))), some W, none, none]
  have i0 : m2 fIx (mVar 1) (mD (.int 0)) E st = .ok (.p (.str unkW)) st := ev_2 (x := W) (y := pI ((0 : Nat) : Int)) rfl rfl (ix_strs rfl)
  have i1 : m2 fIx (mVar 1) (mD (.int 1)) E st = .ok (.p (.str n)) st := ev_2 (x := W) (y := pI ((1 : Nat) : Int)) rfl rfl (ix_strs rfl)
  have e1 : tVal (m2 (fEq false) (m2 fIx (mVar 1) (mD (.int 0))) (mD (.str ['u', 'n', 'k', 'n', 'o', 'w', 'n']))) E st = .ok true st := et_val (ev_2 i0 rfl (by rw [eq_kd]; rfl))
  have en := f_is_name (.str n) st
  rw [show nameD (.str n) = true from hm] at en
  have e2 : tAndM (tVal (m2 (fEq false) (mCall fLen (aCons (mVar 1) aNil)) (mD (.int 2)))) (tTruth (mApp 1 F_is_name (aCons (m2 fIx (mVar 1) (mD (.int 1))) aNil))) E st = .ok true st :=
    et_and (a := true) (b := true) (et_val (ev_2 (x := pI 2) (y := pI 2) (ev_call (a1 (x := W) rfl) rfl) rfl rfl)) fun _ => et_truth (ev_app (a1 i1) rfl en)
  exact ss_out rfl e1 rfl (ev_if e2 (fun _ => i1) fun z => nomatch z)
theorem f_read_row {R : Rw} (h : Wr R) {r : Ro} (hr : r ∈ R.rs) (st : Sto) : F__read_line [.p (.str (lineW (wordsR r)))] st = .ok (.p r.d) st := by
  refine f_rt ?_
  obtain ⟨k1, k2⟩ := words_ok h hr
  obtain ⟨t1, t2, t3⟩ := h.rt r hr
  obtain ⟨n1, n2, n3⟩ := h.rn r hr
  have hws : wordsR r = [rowW, r.nm, r.kd, decT r.bn] ++ wdsT r.tm := rfl
  let W : Val := .p (.lst ((wordsR r).map .str))
  let L : Val := .p (.str (lineW (wordsR r)))
  refine es_asg (v := W) (st' := st) (env' := [some L, some W, none, none]) (ev_split (c := ' ') rfl rfl (by decide) (line_split k1 (by rw [hws]; simp)) (by omega)) rfl ?_
  let E : Option Val → Option Val → Slots := fun x y => [some L, some W, x, y]
  have ix : ∀ (k : Nat) (w : T) x y, (wordsR r)[k]? = some w → m2 fIx (mVar 1) (mD (.int k)) (E x y) st = .ok (.p (.str w)) st := fun k w x y hk => ev_2 (x := W) (y := pI (k : Nat)) rfl rfl (ix_strs hk)
  have i0 := ix 0 rowW none none rfl
  have i1 := ix 1 r.nm none none rfl
  have i2 := ix 2 r.kd none none rfl
  have i3 := ix 3 (decT r.bn) none none rfl
  have hlw : (wordsR r).length = 4 + 2 * r.tm.length := by rw [hws, List.length_append, wds_len]; rfl
  have ln : mCall fLen (aCons (mVar 1) aNil) (E none none) st = .ok (pI ((wordsR r).length : Nat)) st := by
    refine ev_call (a1 (x := W) rfl) ?_
    show fLen [.p (.lst _)] st = _
    simp [fLen, viewL]
  have e1 : tVal (m2 (fEq false) (m2 fIx (mVar 1) (mD (.int 0))) (mD (.str ['u', 'n', 'k', 'n', 'o', 'w', 'n']))) (E none none) st = .ok false st := et_val (ev_2 i0 rfl (by rw [eq_kd]; rfl))
  refine (ss_in e1).trans ?_
  have en := f_is_name (.str r.nm) st
  rw [show nameD (.str r.nm) = true from n2] at en
  have ek : fInX true (.p (.str r.kd)) (.p c_KINDS) st = some (yes false, st) := by
    have e : c_KINDS = .tup ([most, just].map .str) := rfl
    rw [e, in_tup rfl]
    have : hasT [most, just] (.str r.kd) = true := by
      rw [hasT_iff]
      refine decide_eq_true ?_
      rcases h.rk r hr with z | z <;> rw [z] <;> simp
    rw [this]; rfl
  have e2 : tOrM (tVal (m2 (fEq true) (m2 fIx (mVar 1) (mD (.int 0))) (mD (.str ['r', 'o', 'w'])))) (tOrM (tVal (m2 fLt (mCall fLen (aCons (mVar 1) aNil)) (mD (.int 4)))) (tOrM (tNotM (tTruth (mApp 1 F_is_name (aCons (m2 fIx (mVar 1) (mD (.int 1))) aNil)))) (tVal (m2 (fInX true) (m2 fIx (mVar 1) (mD (.int 2))) (mD c_KINDS))))) (E none none) st = .ok false st := by
    refine et_or (a := false) (b := false) (et_val (ev_2 i0 rfl (by rw [eq_kdN]; rfl))) fun _ => et_or (a := false) (b := false) (et_val (ev_2 (x := pI ((wordsR r).length : Nat)) (y := pI 4) ln rfl ?_)) fun _ => et_or (a := false) (b := false) (et_not (b := true) (et_truth (ev_app (a1 i1) rfl en))) fun _ => et_val (ev_2 i2 rfl ek)
    show some (yes (decide (((wordsR r).length : Int) < 4)), st) = _
    rw [decide_eq_false (by omega)]
  refine (ss_in e2).trans ?_
  have hb := h.rb r hr
  have enb := f_number_of (dec_wn hb) (dec_ok hb).2 st
  have etm := f_terms_of t1 (fun p hp => ⟨(h.ns _ (t2 p hp).1).1, (h.ns _ (t2 p hp).1).2, (t2 p hp).2.1, (t2 p hp).2.2⟩) t3 st
  have esl : mSlice (fSl false) (mVar 1) (oSome (mD (.int 4))) oNone (E none none) st = .ok (.p (.lst ((wdsT r.tm).map .str))) st := by
    show Sl.R.lift (newLst false (cutL (((wordsR r).map D.str).map Val.p) (some ((4 : Nat) : Int)) none) st) = _
    rw [cutFrom _ 4 (by rw [List.length_map, List.length_map]; omega)]
    have e : (((wordsR r).map D.str).map Val.p).drop 4 = ((wdsT r.tm).map D.str).map Val.p := by
      rw [hws]; rfl
    rw [e]
    unfold newLst
    simp only [pureL_map]
    rw [if_pos (small_size (by rw [List.length_map, wds_len]; omega))]
    rfl
  refine es_par (xs := [pI r.bn, .p (tmD r.tm)]) (st1 := st) (a2 (ev_app (a1 i3) rfl enb) (ev_app (a1 esl) rfl etm)) rfl ?_
  let E2 := E (some (pI r.bn)) (some (.p (tmD r.tm)))
  have ebt := f_is_between (.int r.bn) (-9999) 9999 st
  have hbt : betw (-9999) 9999 (.int r.bn) = true := by
    simp only [betw, Bool.and_eq_true, decide_eq_true_eq]
    omega
  rw [hbt] at ebt
  have e3 : tOrM (tVal (m2 (fIs false) (mVar 3) (mD .non))) (tNotM (tTruth (mApp 3 F_is_between (aCons (mVar 2) (aCons (mNeg (mD c_MOST_BOUND)) (aCons (mD c_MOST_BOUND) aNil)))))) E2 st = .ok false st :=
    et_or (a := false) (b := false) (et_val (ev_2 (x := .p (tmD r.tm)) (y := .p .non) rfl rfl rfl)) fun _ => et_not (b := true) (et_truth (ev_app (a3 rfl (neg_c (i := 9999) rfl) rfl) rfl ebt))
  refine (ss_in e3).trans (es_ret rfl ?_)
  exact ev_tup (ds := [.str r.nm, tmD r.tm, .str r.kd, .int r.bn]) (sa (ix 1 r.nm _ _ rfl) (sa rfl (sa (ix 2 r.kd _ _ rfl) (sa rfl rfl)))) (by simp)
end Sh
end
section
set_option Elab.async false
set_option linter.all false
set_option maxRecDepth 100000
set_option maxHeartbeats 4000000
set_option exponentiation.threshold 100
namespace Sh
open PySem PySem.Spec L2 Sl PyProof.Rows
theorem et_refL {m : EM} {env : Slots} {st : Sto} {l : Nat} {ds : List D} (h : m env st = .ok (.r l) st) (hs : st[l]? = some (.lst (ds.map .p))) : tTruth m env st = .ok (!ds.isEmpty) st := by
  unfold tTruth
  rw [h]
  cases ds <;> simp [Sl.R.bind, truth, viewL, hs]
theorem ix_refLast {st : Sto} {l : Nat} {ds : List D} {d : D} (hs : st[l]? = some (.lst ((ds ++ [d]).map .p))) : fIx (.r l) (pI (-1)) st = some (.p d, st) := by
  have e : L2.atI ((ds ++ [d]).map Val.p) (-1) = some (.p d) := by
    rw [atI_last _ (by simp)]
    simp
  simp [fIx, fIxO, viewL, hs] 
  simp at e
  rw [e]
theorem len_ref {st : Sto} {l : Nat} {ds : List D} (hs : st[l]? = some (.lst (ds.map .p))) : fLen [.r l] st = some (pI (ds.length : Nat), st) := by
  simp [fLen, viewL, hs]
theorem in_ref {neg : Bool} {st : Sto} {l : Nat} {ts : List T} {t : T} (hs : st[l]? = some (.lst ((ts.map D.str).map .p))) : fInX neg (.p (.str t)) (.r l) st = some (yes (if neg then !decide (t ∈ ts) else decide (t ∈ ts)), st) := by
  have hv : viewD st (.r l) = some (.lst (ts.map .str)) := by
    simp only [viewD, hs, pureL_map]
  have ok : inOk (.str t) (ts.map .str) = true := by simp [inOk, noDct, noDct_strs, dep_strs]
  have e : fIn neg (.p (.str t)) (.r l) st = some (yes (if neg then !decide (t ∈ ts) else decide (t ∈ ts)), st) := by
    rw [← hasT_iff, ← dmem_strs]
    cases t with
    | nil => simp only [fIn, hv, ok, if_true]
    | cons c cs => cases cs <;> simp only [fIn, hv, ok, if_true]
  have hk : viewK st (.r l) = none := by
    simp only [viewK, hs]
  unfold fInX fInD
  rw [hk]
  exact e
structure Far (R : Rw) (st : Sto) (l4 l5 : Nat) (i j : Nat) : Prop where
  n : st[l4]? = some (.lst (((R.ns.take i).map D.str).map .p))
  r : st[l5]? = some (.lst (((R.rs.take j).map Ro.d).map .p))
theorem asc_next {ts : List T} (h : ascT ts = true) {i : Nat} (hi : i + 1 < ts.length) : tlt ts[i] ts[i + 1] = true := by
  have := List.pairwise_iff_getElem.mp (asc_pw h) i (i + 1) (by omega) hi (by omega)
  exact this
theorem take_snoc {α : Type} {xs : List α} {i : Nat} (h : i < xs.length) : xs.take (i + 1) = xs.take i ++ [xs[i]] := by
  rw [List.take_add_one, List.getElem?_eq_getElem h]; rfl
section
variable {R : Rw}
theorem f_name_fault (h : Wr R) {st : Sto} {l4 l5 i : Nat} (hf : Far R st l4 l5 i 0) (hi : i < R.ns.length) : F__name_fault [.r l4, .r l5, .p (.str R.ns[i])] st = .ok (.p .non) st := by
  refine f_rt ?_
  have hnl := h.nsl
  let E : Slots := [some (.r l4), some (.r l5), some (.p (.str R.ns[i]))]
  have e1 : tTruth (mVar 1) E st = .ok false st := et_refL (ds := (R.rs.take 0).map Ro.d) rfl hf.r
  refine (ss_in e1).trans ?_
  have e2 : tAndM (tTruth (mVar 0)) (tVal (m2 fLe (mVar 2) (m2 fIx (mVar 0) (mNeg (mD (.int 1)))))) E st = .ok false st := by
    have e0 : tTruth (mVar 0) E st = .ok (!((R.ns.take i).map D.str).isEmpty) st := et_refL rfl hf.n
    cases i with
    | zero => exact et_and (a := false) (b := false) e0 fun z => nomatch z
    | succ i =>
      have hs := hf.n
      rw [take_snoc (by omega), List.map_append, List.map_cons, List.map_nil] at hs e0
      have e00 : (!((R.ns.take i).map D.str ++ [D.str R.ns[i]]).isEmpty) = true := by simp
      rw [e00] at e0
      refine et_and (a := true) (b := false) e0 fun _ => et_val (ev_2 (x := .p (.str R.ns[i + 1])) rfl (ev_2 (x := .r l4) (y := pI (-1)) rfl rfl (ix_refLast hs)) ?_)
      show some (yes (!tlt R.ns[i] R.ns[i + 1]), st) = _
      rw [asc_next h.nasc hi]; rfl
  refine (ss_in e2).trans (es_ret rfl ?_)
  have e3 : tVal (m2 (fEq false) (mCall fLen (aCons (mVar 0) aNil)) (mD c_MOST_NAMES)) E st = .ok false st := by
    refine et_val (ev_2 (x := pI (((R.ns.take i).map D.str).length : Nat)) (y := pI 8) (ev_call (a1 (x := .r l4) rfl) (len_ref hf.n)) rfl ?_)
    rw [deq_int]
    have : ((((R.ns.take i).map D.str).length : Int) == 8) = false := beq_eq_false_iff_ne.mpr (by rw [List.length_map, List.length_take]; omega)
    rw [this]
  exact ev_if e3 (fun z => nomatch z) fun _ => rfl
theorem f_is_termsR (h : Wr R) {r : Ro} (hr : r ∈ R.rs) {st : Sto} {l4 : Nat} (hs : st[l4]? = some (.lst ((R.ns.map D.str).map .p))) : F_is_terms [.r l4, .p (tmD r.tm)] st = .ok (yes true) st := by
  obtain ⟨t1, t2, t3⟩ := h.rt r hr
  obtain ⟨ha1, ha2⟩ := tm_any t1 (fun p hp => ⟨(h.ns _ (t2 p hp).1).1, (h.ns _ (t2 p hp).1).2, (t2 p hp).2.1, (t2 p hp).2.2⟩) t3
  have ea := f_is_any_terms (tmD r.tm) st ha2
  rw [ha1] at ea
  refine f_rt (es_ret rfl (ev_and (a := true) (b := true) (ev_app (a1 rfl) rfl ea) fun _ => ?_))
  have := ev_all (ow := [2]) (mi := mIter (mVar 1)) (gm := gN 2) (m := m2 (fInX false) (m2 fIx (mVar 2) (mD (.int 0))) (mVar 0)) (src := none) (st := st) (env := [some (.r l4), some (.p (tmD r.tm)), none]) (ds := r.tm.map fun p => D.tup [.str p.1, .int p.2]) (fun _ => true) (iter_tupD rfl) rfl (by rw [List.length_map]; omega) fun d hd => by
    obtain ⟨p, hp, rfl⟩ := List.mem_map.mp hd
    refine ⟨[some (.r l4), some (.p (tmD r.tm)), some (.p (.tup [.str p.1, .int p.2]))], rfl, ev_2 (x := .p (.str p.1)) (ev_2 (x := .p (.tup [.str p.1, .int p.2])) (y := pI 0) rfl rfl rfl) rfl ?_⟩
    rw [in_ref hs, decide_eq_true (t2 p hp).1]; rfl
  refine this.trans ?_
  rw [List.all_eq_true.mpr fun _ _ => rfl]
theorem f_row_fault (h : Wr R) {st : Sto} {l4 l5 j : Nat} (hf : Far R st l4 l5 R.ns.length j) (hj : j < R.rs.length) : F__row_fault [.r l4, .r l5, .p (R.rs[j]).d] st = .ok (.p .non) st := by
  refine f_rt ?_
  have hrl := h.rsl
  have hrm : R.rs[j] ∈ R.rs := List.getElem_mem hj
  let E : Slots := [some (.r l4), some (.r l5), some (.p (R.rs[j]).d)]
  have hn := hf.n
  rw [List.take_length] at hn
  have i0 : m2 fIx (mVar 2) (mD (.int 0)) E st = .ok (.p (.str (R.rs[j]).nm)) st := ev_2 (x := .p (R.rs[j]).d) (y := pI 0) rfl rfl rfl
  have e2 : tAndM (tTruth (mVar 1)) (tVal (m2 fLe (m2 fIx (mVar 2) (mD (.int 0))) (m2 fIx (m2 fIx (mVar 1) (mNeg (mD (.int 1)))) (mD (.int 0))))) E st = .ok false st := by
    have e0 : tTruth (mVar 1) E st = .ok (!((R.rs.take j).map Ro.d).isEmpty) st := et_refL rfl hf.r
    cases j with
    | zero => exact et_and (a := false) (b := false) e0 fun z => nomatch z
    | succ j =>
      have hs := hf.r
      rw [take_snoc (by omega), List.map_append, List.map_cons, List.map_nil] at hs e0
      have e00 : (!((R.rs.take j).map Ro.d ++ [(R.rs[j]).d]).isEmpty) = true := by simp
      rw [e00] at e0
      refine et_and (a := true) (b := false) e0 fun _ => et_val (ev_2 i0 (ev_2 (x := .p (R.rs[j]).d) (ev_2 (x := .r l5) (y := pI (-1)) rfl rfl (ix_refLast hs)) (y := pI 0) rfl (v := .p (.str (R.rs[j]).nm)) rfl) ?_)
      show some (yes (!tlt (R.rs[j]).nm (R.rs[j + 1]).nm), st) = _
      have := asc_next h.rasc (i := j) (by rw [List.length_map]; omega)
      rw [List.getElem_map, List.getElem_map] at this
      rw [this]; rfl
  refine (ss_in e2).trans ?_
  have e3 : tVal (m2 (fEq false) (mCall fLen (aCons (mVar 1) aNil)) (mD c_MOST_ROWS)) E st = .ok false st := by
    refine et_val (ev_2 (x := pI (((R.rs.take j).map Ro.d).length : Nat)) (y := pI 20) (ev_call (a1 (x := .r l5) rfl) (len_ref hf.r)) rfl ?_)
    rw [deq_int]
    have : ((((R.rs.take j).map Ro.d).length : Int) == 20) = false := beq_eq_false_iff_ne.mpr (by rw [List.length_map, List.length_take]; omega)
    rw [this]
  refine (ss_in e3).trans ?_
  have e4 : tVal (m2 (fInX false) (m2 fIx (mVar 2) (mD (.int 0))) (mVar 0)) E st = .ok false st := by
    refine et_val (ev_2 i0 rfl ?_)
    rw [in_ref hn, decide_eq_false (h.rn _ hrm).2.2]; rfl
  refine (ss_in e4).trans (es_ret rfl ?_)
  have i1 : m2 fIx (mVar 2) (mD (.int 1)) E st = .ok (.p (tmD (R.rs[j]).tm)) st := ev_2 (x := .p (R.rs[j]).d) (y := pI 1) rfl rfl rfl
  exact ev_if (b := true) (et_truth (ev_app (a2 rfl i1) rfl (f_is_termsR h hrm hn))) (fun _ => rfl) fun z => nomatch z
theorem f_faultN (h : Wr R) {st : Sto} {l4 l5 i : Nat} (hf : Far R st l4 l5 i 0) (hi : i < R.ns.length) : F__fault [.r l4, .r l5, .p (.str R.ns[i])] st = .ok (.p .non) st := by
  refine f_rt ?_
  refine (ss_in (et_val (b := false) (ev_2 (x := .p (.str R.ns[i])) (y := .p .non) rfl rfl rfl))).trans ?_
  exact ss_out rfl (et_truth (b := true) (ev_isStr (d := .str R.ns[i]) rfl)) rfl (ev_app (a3 rfl rfl rfl) rfl (f_name_fault h hf hi))
theorem f_faultR (h : Wr R) {st : Sto} {l4 l5 j : Nat} (hf : Far R st l4 l5 R.ns.length j) (hj : j < R.rs.length) : F__fault [.r l4, .r l5, .p (R.rs[j]).d] st = .ok (.p .non) st := by
  refine f_rt ?_
  refine (ss_in (et_val (b := false) (ev_2 (x := .p (R.rs[j]).d) (y := .p .non) rfl rfl rfl))).trans ?_
  refine (ss_in (et_truth (b := false) (ev_isStr (d := (R.rs[j]).d) rfl))).trans ?_
  exact es_ret rfl (ev_app (a3 rfl rfl rfl) rfl (f_row_fault h hf hj))
end
end Sh
end
section
set_option Elab.async false
set_option linter.all false
set_option maxRecDepth 100000
set_option maxHeartbeats 4000000
set_option exponentiation.threshold 100
namespace Sh
open PySem PySem.Spec L2 Sl PyProof.Rows
def tr3 (st : Sto) (a b c : List D) : Sto := st ++ [.lst (a.map .p), .lst (b.map .p), .lst (c.map .p)]
section
variable {st : Sto} {a b c : List D}
theorem tr3_len : (tr3 st a b c).length = st.length + 3 := by simp [tr3]
theorem tr3_0 : (tr3 st a b c)[st.length]? = some (.lst (a.map .p)) := by simp [tr3]
theorem tr3_1 : (tr3 st a b c)[st.length + 1]? = some (.lst (b.map .p)) := by simp [tr3]
theorem tr3_2 : (tr3 st a b c)[st.length + 2]? = some (.lst (c.map .p)) := by simp [tr3]
theorem tr3_1s {d : D} : (tr3 st a b c).set (st.length + 1) (.lst (b.map .p ++ [.p d])) = tr3 st a (b ++ [d]) c := by
  simp [tr3, List.set_append_right]
theorem tr3_2s {d : D} : (tr3 st a b c).set (st.length + 2) (.lst (c.map .p ++ [.p d])) = tr3 st a b (c ++ [d]) := by
  simp [tr3, List.set_append_right]
end
theorem ev_splitR {mo m : EM} {t : T} {c : Char} {env : Slots} {st : Sto} {ws : List T} (ho : mo env st = .ok (.p (.str t)) st) (hm : m env st = .ok (.p (.str [c])) st) (hc : c.toNat < 256) (h : splitC c t = ws) (hl : ws.length ≤ 1000) : mMeth isStrV (fSplit true) mo (aCons m aNil) env st = .ok (.r st.length) (st ++ [.lst ((ws.map .str).map .p)]) := by
  unfold mMeth
  rw [ho]
  simp only [Sl.R.bind, isStrV, if_true]
  rw [sa hm (rfl : aNil env st = .ok [] st)]
  have e : fSplit true (.p (.str t)) [.p (.str [c])] st = some (.r st.length, st ++ [.lst ((ws.map D.str).map Val.p)]) := by
    simp only [fSplit]
    rw [if_pos hc, h]
    have e2 : (ws.map fun w => Val.p (.str w)) = (ws.map D.str).map Val.p := by rw [List.map_map]; rfl
    rw [e2]
    unfold newLst
    simp only
    rw [if_pos (small_size (by rw [List.length_map, List.length_map]; omega))]
  simp only [Sl.R.bind, e]
  rfl
noncomputable abbrev rrB (n0 : Nat) : SM := (sSeq (sAsg (mApp 1 F__read_line (aCons (mVar 7) aNil)) (gN 8)) (sSeq (sAsg (mApp 3 F__fault (aCons (mVar 4) (aCons (mVar 5) (aCons (mVar 8) aNil)))) (gN 9)) (sSeq (sIf (tAndM (tVal (m2 (fIs false) (mVar 9) (mD .non))) (tVal (m2 (fEq false) (mVar 6) (mCall fLen (aCons (mVar 1) aNil))))) (sSeq (sAsg (mD (.str ['n', 'o', ' ', 'e', 'n', 'd'])) (gN 9)) sNil) sNil) (sSeq (sIf (tVal (m2 (fIs true) (mVar 9) (mD .non))) (sSeq sFail sNil) sNil) (sSeq (sIf (tTruth (mIsi "str" (mVar 8))) (sSeq (sExpr (mMeth isLstV fApp (mVar 4) (aCons (mVar 8) aNil))) sNil) (sSeq (sExpr (mMeth isLstV fApp (mVar 5) (aCons (mVar 8) aNil))) sNil)) sNil)))))
section
variable {R : Rw}
def doneN (R : Rw) (k : Nat) : List D := (R.ns.take k).map .str
def doneR (R : Rw) (k : Nat) : List D := (R.rs.take (k - R.ns.length)).map Ro.d
def toldAt (R : Rw) (k : Nat) : D := if h : k < R.ns.length then .str R.ns[k] else if h : k - R.ns.length < R.rs.length then (R.rs[k - R.ns.length]).d else .non
def rS (R : Rw) (st : Sto) (k : Nat) : Sto := tr3 st ((linesR R).map .str) (doneN R k) (doneR R k)
theorem lines_len : (linesR R).length = R.ns.length + R.rs.length := by simp [linesR]
theorem lines_at1 {k : Nat} (q : k < R.ns.length) (hk : k < (linesR R).length) : (linesR R)[k] = lineW [unkW, R.ns[k]] := by
  have : (linesR R)[k]? = some (lineW [unkW, R.ns[k]]) := by
    unfold linesR
    rw [List.getElem?_append_left (by rw [List.length_map]; exact q), List.getElem?_map, List.getElem?_eq_getElem q]
    rfl
  rw [List.getElem?_eq_getElem hk] at this
  exact Option.some.inj this
theorem lines_at2 {k : Nat} (q : ¬ k < R.ns.length) (q2 : k - R.ns.length < R.rs.length) (hk : k < (linesR R).length) : (linesR R)[k] = lineW (wordsR R.rs[k - R.ns.length]) := by
  have : (linesR R)[k]? = some (lineW (wordsR R.rs[k - R.ns.length])) := by
    unfold linesR
    rw [List.getElem?_append_right (by rw [List.length_map]; omega), List.getElem?_map, List.length_map, List.getElem?_eq_getElem q2]
    rfl
  rw [List.getElem?_eq_getElem hk] at this
  exact Option.some.inj this
theorem rr_step (h : Wr R) (st : Sto) (k : Nat) (hk : k < (linesR R).length) {a0 a2 x8 x9 : Option Val} :
    rrB st.length [a0, some (.r st.length), a2, some (.r st.length), some (.r (st.length + 1)), some (.r (st.length + 2)), some (pI (k : Nat)), some (.p (.str (linesR R)[k])), x8, x9] (rS R st k) =
      .nx [a0, some (.r st.length), a2, some (.r st.length), some (.r (st.length + 1)), some (.r (st.length + 2)), some (pI (k : Nat)), some (.p (.str (linesR R)[k])), some (.p (toldAt R k)), some (.p .non)] (rS R st (k + 1)) := by
  have hnl := h.nsl
  have hrl := h.rsl
  have hll := lines_len (R := R)
  let σ := rS R st k
  let E : Option Val → Option Val → Slots := fun x y => [a0, some (.r st.length), a2, some (.r st.length), some (.r (st.length + 1)), some (.r (st.length + 2)), some (pI (k : Nat)), some (.p (.str (linesR R)[k])), x, y]
  have key : F__read_line [.p (.str (linesR R)[k])] σ = .ok (.p (toldAt R k)) σ ∧ F__fault [.r (st.length + 1), .r (st.length + 2), .p (toldAt R k)] σ = .ok (.p .non) σ := by
    by_cases q : k < R.ns.length
    · have el := lines_at1 q hk
      have et : toldAt R k = .str R.ns[k] := by unfold toldAt; rw [dif_pos q]
      obtain ⟨w1, w2⟩ := h.ns _ (List.getElem_mem q)
      rw [el, et]
      refine ⟨f_read_name w1 w2 σ, f_faultN h ⟨tr3_1, ?_⟩ q⟩
      have : doneR R k = (R.rs.take 0).map Ro.d := by unfold doneR; rw [show k - R.ns.length = 0 by omega]
      rw [← this]; exact tr3_2
    · have q2 : k - R.ns.length < R.rs.length := by omega
      have el := lines_at2 q q2 hk
      have et : toldAt R k = (R.rs[k - R.ns.length]).d := by unfold toldAt; rw [dif_neg q, dif_pos q2]
      rw [el, et]
      refine ⟨f_read_row h (List.getElem_mem q2) σ, f_faultR h ⟨?_, tr3_2⟩ q2⟩
      have : doneN R k = (R.ns.take R.ns.length).map .str := by unfold doneN; rw [List.take_of_length_le (by omega), List.take_length]
      rw [← this]; exact tr3_1
  refine es_asg (v := .p (toldAt R k)) (st' := σ) (env' := E (some (.p (toldAt R k))) x9) (ev_app (a1 rfl) rfl key.1) rfl ?_
  refine es_asg (v := .p .non) (st' := σ) (env' := E (some (.p (toldAt R k))) (some (.p .non))) (ev_app (a3 rfl rfl rfl) rfl key.2) rfl ?_
  let E2 := E (some (.p (toldAt R k))) (some (.p .non))
  have t1 : tAndM (tVal (m2 (fIs false) (mVar 9) (mD .non))) (tVal (m2 (fEq false) (mVar 6) (mCall fLen (aCons (mVar 1) aNil)))) E2 σ = .ok false σ := by
    refine et_and (a := true) (b := false) (et_val (ev_2 (x := .p .non) (y := .p .non) rfl rfl rfl)) fun _ => et_val (ev_2 (x := pI (k : Nat)) (y := pI (((linesR R).map D.str).length : Nat)) rfl (ev_call (a1 (x := .r st.length) rfl) (len_ref tr3_0)) ?_)
    rw [deq_int]
    have : (((k : Nat) : Int) == (((linesR R).map D.str).length : Nat)) = false := beq_eq_false_iff_ne.mpr (by rw [List.length_map]; omega)
    rw [this]
  refine (seq_nx (es_if t1 (fun z => nomatch z) fun _ => rfl)).trans ?_
  have t2 : tVal (m2 (fIs true) (mVar 9) (mD .non)) E2 σ = .ok false σ := et_val (ev_2 (x := .p .non) (y := .p .non) rfl rfl rfl)
  refine (seq_nx (es_if t2 (fun z => nomatch z) fun _ => rfl)).trans ?_
  rw [seq_end]
  have t3 : tTruth (mIsi "str" (mVar 8)) E2 σ = .ok (isStr (toldAt R k)) σ := et_truth (ev_isStr rfl)
  have app : ∀ (mo : EM) (l : Nat) (ds : List D), mo E2 σ = .ok (.r l) σ → σ[l]? = some (.lst (ds.map .p)) → ds.length ≤ 1000 → sSeq (sExpr (mMeth isLstV fApp mo (aCons (mVar 8) aNil))) sNil E2 σ = .nx E2 (σ.set l (.lst (ds.map .p ++ [.p (toldAt R k)]))) := fun mo l ds hm hs hl => by
    have ea := ev_app1S (mo := mo) (ma := mVar 8) (env := E2) (st := σ) (st1 := σ) (l := l) (x := .p (toldAt R k)) hm hs rfl hs (by rw [List.length_map]; omega)
    rw [seq_end]
    unfold sExpr
    rw [ea]
    rfl
  by_cases q : k < R.ns.length
  · have et : toldAt R k = .str R.ns[k] := by unfold toldAt; rw [dif_pos q]
    have hb := app (mVar 4) (st.length + 1) (doneN R k) rfl tr3_1 (by unfold doneN; rw [List.length_map, List.length_take]; omega)
    refine (ss_if t3 (fun _ => hb) fun z => ?_).trans ?_
    · rw [et] at z; cases z
    · show SR.nx E2 ((tr3 st _ _ _).set _ _) = _
      rw [tr3_1s]
      have e1 : doneN R k ++ [toldAt R k] = doneN R (k + 1) := by
        unfold doneN
        rw [take_snoc q, List.map_append, et]; rfl
      have e2 : doneR R k = doneR R (k + 1) := by unfold doneR; rw [show k - R.ns.length = 0 by omega, show k + 1 - R.ns.length = 0 by omega]
      rw [e1, e2]; rfl
  · have q2 : k - R.ns.length < R.rs.length := by omega
    have et : toldAt R k = (R.rs[k - R.ns.length]).d := by unfold toldAt; rw [dif_neg q, dif_pos q2]
    have hb := app (mVar 5) (st.length + 2) (doneR R k) rfl tr3_2 (by unfold doneR; rw [List.length_map, List.length_take]; omega)
    refine (ss_if t3 (fun z => ?_) fun _ => hb).trans ?_
    · rw [et] at z; cases z
    · show SR.nx E2 ((tr3 st _ _ _).set _ _) = _
      rw [tr3_2s]
      have e1 : doneR R k ++ [toldAt R k] = doneR R (k + 1) := by
        unfold doneR
        rw [show k + 1 - R.ns.length = (k - R.ns.length) + 1 by omega, take_snoc q2, List.map_append, et]; rfl
      have e2 : doneN R k = doneN R (k + 1) := by unfold doneN; rw [List.take_of_length_le (by omega), List.take_of_length_le (by omega)]
      rw [e1, e2]; rfl
theorem f_read_rows (h : Wr R) (st : Sto) (hc : Clo st) : F_read_rows [.p (.str (textR R))] st = .ok (.p R.d) st := by
  refine f_rt ?_
  have hnl := h.nsl
  have hrl := h.rsl
  have hll := lines_len (R := R)
  have hlo := (lines_ok h).2
  let TX : Val := .p (.str (textR R))
  let LS : List D := (linesR R).map .str
  let E1 : Option Val → Option Val → Option Val → Option Val → Slots := fun x2 x3 x4 x5 => [some TX, some (.r st.length), x2, x3, x4, x5, none, none, none, none]
  have es := ev_splitR (c := '\n') (mo := mVar 0) (m := mD (.str ['\n'])) (env := [some TX, none, none, none, none, none, none, none, none, none]) (st := st) rfl rfl (by decide) (text_split h) (by rw [List.length_append]; simp; omega)
  let σ0 : Sto := st ++ [.lst (((linesR R ++ [[]]).map D.str).map .p)]
  let σ1 : Sto := st ++ [.lst (LS.map .p)]
  refine es_asg (v := .r st.length) (st' := σ0) (env' := E1 none none none none) es rfl ?_
  have ep : mMeth0 isLstV fPop (mVar 1) (E1 none none none none) σ0 = .ok (.p (.str [])) σ1 := by
    unfold mMeth0
    have h0 : σ0[st.length]? = some (.lst (((linesR R ++ [[]]).map D.str).map .p)) := lastW_at
    show (match isLstV (.r st.length) σ0 with | true => Sl.R.lift (fPop (.r st.length) [] σ0) | false => .fail) = _
    have e1 : isLstV (.r st.length) σ0 = true := by simp only [isLstV, h0]
    rw [e1]
    have e2 : fPop (.r st.length) [] σ0 = some (.p (.str []), σ1) := by
      simp only [fPop, h0]
      have hg : (((linesR R ++ [[]]).map D.str).map Val.p)[(((linesR R ++ [[]]).map D.str).map Val.p).length - 1]? = some (.p (.str [])) := by
        simp
      rw [hg]
      simp only
      have hd : (((linesR R ++ [[]]).map D.str).map Val.p).dropLast = LS.map .p := by
        rw [List.map_append, List.map_append]
        exact List.dropLast_concat
      rw [hd]
      show some (Val.p (.str []), (st ++ [_]).set st.length _) = _
      rw [lastW_set]
    rw [e2]; rfl
  refine es_asg (v := .p (.str [])) (st' := σ1) (env' := E1 (some (.p (.str []))) none none none) ep rfl ?_
  have ei : mIf (tVal (m2 (fEq false) (mVar 2) (mD (.str [])))) (mVar 1) (m2 (fAdd false) (mVar 1) (mLst false (aCons (mVar 2) aNil))) (E1 (some (.p (.str []))) none none none) σ1 = .ok (.r st.length) σ1 :=
    ev_if (b := true) (et_val (ev_2 (x := .p (.str [])) (y := .p (.str [])) rfl rfl (by rw [eq_kd]; rfl))) (fun _ => rfl) fun z => nomatch z
  refine es_asg (v := .r st.length) (st' := σ1) (env' := E1 (some (.p (.str []))) (some (.r st.length)) none none) ei rfl ?_
  have l1 : σ1.length = st.length + 1 := by simp [σ1]
  have em : ∀ (s : Sto) env, mLst true aNil env s = .ok (.r s.length) (s ++ [.lst []]) := fun s env => by
    show Sl.R.lift (newLst true [] s) = _
    unfold newLst
    simp only [List.length_nil, Nat.zero_le, if_true, Sl.R.lift]
  let σ2 : Sto := (σ1 ++ [.lst []]) ++ [.lst []]
  have e2 : σ2 = rS R st 0 := by
    show ((st ++ [_]) ++ [_]) ++ [_] = st ++ [_, _, _]
    have d1 : doneN R 0 = [] := rfl
    have d2 : doneR R 0 = [] := by unfold doneR; rw [Nat.zero_sub]; rfl
    rw [d1, d2]
    simp [LS]
  refine es_par (xs := [.r (st.length + 1), .r (st.length + 2)]) (st1 := σ2) ?_ rfl ?_
  · refine (sa (em σ1 _) (sa (em (σ1 ++ [.lst []]) _) rfl)).trans ?_
    have l2 : (σ1 ++ [SObj.lst []]).length = st.length + 2 := by rw [List.length_append, l1]; rfl
    rw [l1, l2]
  let E : Option Val → Option Val → Option Val → Option Val → Slots := fun x6 x7 x8 x9 => [some TX, some (.r st.length), some (.p (.str [])), some (.r st.length), some (.r (st.length + 1)), some (.r (st.length + 2)), x6, x7, x8, x9]
  show sSeq (sFor (mEnumX (aCons (mVar 3) aNil)) (gT [(gN 6), (gN 7)]) (rrB st.length)) _ (E none none none none) σ2 = _
  rw [e2]
  have hit : mEnumX (aCons (mVar 3) aNil) (E none none none none) (rS R st 0) = .ok (enumItems LS, some (.enm st.length)) (rS R st 0) := by
    unfold mEnumX
    rw [a1 (x := .r st.length) rfl]
    have hv : viewL (rS R st 0) (.r st.length) = some (LS.map .p) := by
      have h0 : (rS R st 0)[st.length]? = some (.lst (LS.map .p)) := tr3_0
      simp only [viewL, h0]
    simp only [Sl.R.bind, srcOf, hv, pureL_map]
  have hwt : ∀ k, watch (rS R st k) (some (.enm st.length)) (enumItems LS) = true := fun k => by
    have hv : viewL (rS R st k) (.r st.length) = some (LS.map .p) := by
      have h0 : (rS R st k)[st.length]? = some (.lst (LS.map .p)) := tr3_0
      simp only [viewL, h0]
    simp only [watch, hv, pureL_map]
    refine sameVs_refl _ fun v hv c fs e => ?_
    subst e
    unfold enumItems at hv
    obtain ⟨i, hi, e⟩ := List.mem_iff_getElem.mp hv
    simp at e
  have hlen : (enumItems LS).length = (linesR R).length := by simp [enumItems, LS]
  have hloop : ∃ x6 x7 x8 x9, forGo (some (.enm st.length)) (enumItems LS) (gT [(gN 6), (gN 7)]) (rrB st.length) (enumItems LS) (E none none none none) (rS R st 0) = .nx (E x6 x7 x8 x9) (rS R st (linesR R).length) := by
    refine forGo_post (Post := fun r => ∃ x6 x7 x8 x9, r = .nx (E x6 x7 x8 x9) (rS R st (linesR R).length))
      (fun i env σ => ∃ x6 x7 x8 x9, env = E x6 x7 x8 x9 ∧ σ = rS R st i) ⟨none, none, none, none, rfl, rfl⟩ ?_ ?_
    · rintro i x env σ hx ⟨x6, x7, x8, x9, rfl, rfl⟩
      have hi : i < (linesR R).length := by
        have := (List.getElem?_eq_some_iff.mp hx).1
        omega
      have ex : x = .p (.tup [.int (i : Nat), .str (linesR R)[i]]) := by
        unfold enumItems at hx
        rw [List.getElem?_mapIdx, List.getElem?_map, List.getElem?_eq_getElem hi] at hx
        exact (Option.some.inj hx).symm
      subst ex
      refine ⟨hwt i, E (some (pI (i : Nat))) (some (.p (.str (linesR R)[i]))) x8 x9, rfl, ?_⟩
      have := rr_step h st i hi (a0 := some TX) (a2 := some (.p (.str []))) (x8 := x8) (x9 := x9)
      rw [this]
      exact ⟨_, _, _, _, rfl, rfl⟩
    · rintro env σ ⟨x6, x7, x8, x9, rfl, rfl⟩
      exact ⟨hwt _, x6, x7, x8, x9, by rw [hlen]⟩
  obtain ⟨x6, x7, x8, x9, el⟩ := hloop
  refine (seq_nx (for_run hit el)).trans ?_
  let σ := rS R st (linesR R).length
  have d1 : doneN R (linesR R).length = R.ns.map .str := by unfold doneN; rw [List.take_of_length_le (by omega)]
  have d2 : doneR R (linesR R).length = R.rs.map Ro.d := by unfold doneR; rw [List.take_of_length_le (by omega)]
  have g0 : frzS st.length σ (some (.r st.length)) = some (.p (.lst LS)) := frz_lst tr3_0 (Nat.le_refl _)
  have g1 : frzS st.length σ (some (.r (st.length + 1))) = some (.p (.lst (R.ns.map .str))) := by rw [← d1]; exact frz_lst tr3_1 (by omega)
  have g2 : frzS st.length σ (some (.r (st.length + 2))) = some (.p (.lst (R.rs.map Ro.d))) := by rw [← d2]; exact frz_lst tr3_2 (by omega)
  refine es_retZ (st := st) (env' := [some TX, some (.p (.lst LS)), some (.p (.str [])), some (.p (.lst LS)), some (.p (.lst (R.ns.map .str))), some (.p (.lst (R.rs.map Ro.d))), frzS st.length σ x6, frzS st.length σ x7, frzS st.length σ x8, frzS st.length σ x9]) ?_ ?_ hc ?_ ?_
  · show (tr3 st _ _ _).length ≠ _
    rw [tr3_len]; omega
  · exact List.take_left
  · show List.map (frzS st.length σ) [some TX, some (.r st.length), some (.p (.str [])), some (.r st.length), some (.r (st.length + 1)), some (.r (st.length + 2)), x6, x7, x8, x9] = _
    simp only [List.map_cons, List.map_nil]
    rw [g0, g1, g2]
    rfl
  · refine ev_tup (ds := [.str ['r', 'o', 'w', 's'], .tup (R.ns.map .str), .tup (R.rs.map Ro.d)]) (a3 rfl (ev_call (a1 rfl) ?_) (ev_call (a1 rfl) ?_)) (by simp)
    · simp only [fTuple, viewL, newTup, pureL_map]
      rw [if_pos (by rw [List.length_map, sizeLine_eq]; omega)]
    · simp only [fTuple, viewL, newTup, pureL_map]
      rw [if_pos (by rw [List.length_map, sizeLine_eq]; omega)]
end
end Sh
end
section
set_option Elab.async false
set_option linter.all false
set_option maxRecDepth 100000
set_option maxHeartbeats 4000000
set_option exponentiation.threshold 100
namespace Sh
open PySem PySem.Spec L2 Sl PyProof.Rows
theorem like_text (n : Nat) (t : T) (st : Sto) (h : t.length ≤ 100000) : F__law_like (n + 1) [.p (.str t), .p (.str t)] st = .ok (yes true) st := by
  have h2 : joinLen [] [t] ≤ tMax := by
    have := tmax_big
    simp [joinLen]
    omega
  have e : fJoin (.p (.str [])) [.p (.lst [.str t])] st = some (.p (.str t), st) := by
    simp [fJoin, viewS, viewT, viewL, strL, h2, joinT]
  have h1 : 1 ≤ sizeLine := by rw [sizeLine_eq]; omega
  have ho : eqOk (.str t) (.str t) = true := rfl
  simp [F__law_like, B__law_like, bodyF, sSeq, sNil, sRet, sRetK, sIf, sAsg, sExpr, sSub, sBrk, sCt, sParN, R.then, R.bind, R.lift, R.noExc, mVar, mD, mTup, mLst, mAndV, mOrV, mNotV, mIf, mNeg, mIsi, mApp, mCall, mMeth, mMeth0, mChain, m2, mSlice, oNone, oSome, aNil, aCons, tVal, tTruth, tAndM, tOrM, tNotM, tmYes, gN, gT, gsGo, setAll, List.length_cons, List.length_nil, List.map_cons, List.map_nil, List.cons_append, List.nil_append, List.replicate, List.getElem?_cons_zero, List.getElem?_cons_succ, List.set_cons_zero, List.set_cons_succ, Nat.sub_self, Nat.zero_add, Nat.add_zero, Nat.reduceAdd, Nat.reduceSub, Nat.reduceEqDiff, if_true, if_false, if_pos, reduceIte, reduceCtorEq, Bool.not_true, Bool.not_false, truth, tyName, isTy, fIs, isD, isStrV, newLst, pureL, h1, e, fEq, viewD, ho, deq]
theorem xs_wd : ∀ n : Nat, n < 7 → ∀ t ∈ xs n, ((' ' ∉ t ∧ '\n' ∉ t) ∧ t.length ≤ 10) ∧ nameT t = true := by decide
theorem rn_wd : ∀ k : Nat, k < 12 → ((' ' ∉ rname k ∧ '\n' ∉ rname k) ∧ (rname k).length ≤ 10) ∧ nameT (rname k) = true := by decide
theorem rn_not : ∀ n : Nat, n < 7 → ∀ k : Nat, k < 12 → rname k ∉ xs n := by decide
theorem terms_subW {ts : List T} {c : T → Int} : ((termsOf ts c).map Prod.fst).Sublist ts := by
  have e : (termsOf ts c).map Prod.fst = ts.filter fun n => decide (c n ≠ 0) := by
    unfold termsOf
    rw [List.map_map]
    exact List.map_id _
  rw [e]
  exact List.filter_sublist
theorem wr_of {many : Nat} (hm : many < 7) {R : Rw} (e1 : R.ns = xs many) (h2 : R.rs.length ≤ 9) (hr : ∀ r ∈ R.rs, RoP (xs many) r) (hn : R.rs.map Ro.nm = (List.range R.rs.length).map rname) : Wr R := by
  have hxl : (xs many).length = many := by simp [xs]
  have hnm : ∀ r ∈ R.rs, ∃ k, k < 12 ∧ r.nm = rname k := fun r hr2 => by
    have : r.nm ∈ (List.range R.rs.length).map rname := by rw [← hn]; exact List.mem_map.mpr ⟨r, hr2, rfl⟩
    obtain ⟨k, hk, e⟩ := List.mem_map.mp this
    exact ⟨k, by have := List.mem_range.mp hk; omega, e.symm⟩
  refine ⟨by rw [e1, hxl]; omega, h2, fun n hn2 => ?_, by rw [e1]; exact xs_asc many hm, fun r hr2 => ?_, fun r hr2 => (hr r hr2).2.1, fun r hr2 => (hr r hr2).2.2, fun r hr2 => ?_, by rw [hn]; exact rname_asc _ (by omega)⟩
  · rw [e1] at hn2
    obtain ⟨⟨⟨a, b⟩, c⟩, d⟩ := xs_wd many hm n hn2
    exact ⟨⟨a, b, c⟩, d⟩
  · obtain ⟨k, hk, e⟩ := hnm r hr2
    obtain ⟨⟨⟨a, b⟩, c⟩, d⟩ := rn_wd k hk
    rw [e, e1]
    exact ⟨⟨a, b, c⟩, d, rn_not many hm k hk⟩
  · obtain ⟨⟨c, e, hc⟩, _⟩ := hr r hr2
    rw [e]
    refine ⟨?_, fun p hp => ?_, ?_⟩
    · unfold termsOf
      rw [List.length_map]
      exact Nat.le_trans (List.length_filter_le _ _) (by rw [hxl]; omega)
    · rw [e1]
      refine ⟨terms_in p hp, ?_, ?_⟩
      · obtain ⟨n, hn2, rfl⟩ := List.mem_map.mp hp
        have := hc n (List.mem_filter.mp hn2).1
        show (c n).natAbs ≤ 14
        omega
      · obtain ⟨n, hn2, rfl⟩ := List.mem_map.mp hp
        exact of_decide_eq_true (List.mem_filter.mp hn2).2
    · exact asc_of_pw (List.Pairwise.sublist terms_subW (asc_pw (xs_asc many hm)))
theorem well_rows {R : Rw} (h : Wr R) : wellL R.d = true ∧ dep R.d < 20 := by
  have hnl := h.nsl
  have hrl := h.rsl
  constructor
  · show wellL (.tup [.str ['r', 'o', 'w', 's'], .tup (R.ns.map .str), .tup (R.rs.map Ro.d)]) = true
    have w1 : wellL (.tup (R.ns.map .str)) = true := by
      simp only [wellL, Bool.and_eq_true, decide_eq_true_eq]
      refine ⟨by rw [List.length_map]; omega, wellLs_all.mpr fun d hd => ?_⟩
      obtain ⟨n, hn, rfl⟩ := List.mem_map.mp hd
      have := (h.ns n hn).1.l
      exact decide_eq_true (by omega)
    have w2 : wellL (.tup (R.rs.map Ro.d)) = true := by
      simp only [wellL, Bool.and_eq_true, decide_eq_true_eq]
      refine ⟨by rw [List.length_map]; omega, wellLs_all.mpr fun d hd => ?_⟩
      obtain ⟨r, hr, rfl⟩ := List.mem_map.mp hd
      obtain ⟨t1, t2, _⟩ := h.rt r hr
      have n1 := (h.rn r hr).1.l
      have k1 := (kd_ok (h.rk r hr)).l
      have w3 : wellL (tmD r.tm) = true := by
        show wellL (.tup (r.tm.map fun p => D.tup [.str p.1, .int p.2])) = true
        simp only [wellL, Bool.and_eq_true, decide_eq_true_eq]
        refine ⟨by rw [List.length_map]; omega, wellLs_all.mpr fun d hd => ?_⟩
        obtain ⟨p, hp, rfl⟩ := List.mem_map.mp hd
        have := (h.ns _ (t2 p hp).1).1.l
        simp [wellL, wellL.wellLs]
        omega
      show wellL (.tup [.str r.nm, tmD r.tm, .str r.kd, .int r.bn]) = true
      simp [wellL, wellL.wellLs] at w3 ⊢
      exact ⟨by omega, w3, by omega⟩
    unfold wellL
    simp only [wellL.wellLs, w1, w2, Bool.and_true]
    rfl
  · have h1 := (noDct_ro R.rs).2
    have h2 := dep_strs R.ns
    show dep (.tup [.str ['r', 'o', 'w', 's'], .tup (R.ns.map .str), .tup (R.rs.map Ro.d)]) < 20
    simp only [dep, depL]
    omega
noncomputable abbrev turnB03 (n0 : Nat) : SM := (sSeq (sAsg (mApp 3 F__law_rows (aCons (mVar 1) (aCons (mApp 2 F__law_draw (aCons (mVar 1) (aCons (mD (.int 7)) aNil))) (aCons (mD (.int 9)) aNil)))) (gN 3)) (sSeq (sAsg (mApp 1 F__law_rows_text (aCons (mVar 3) aNil)) (gN 4)) (sSeq (sIf (tOrM (tNotM (tTruth (mApp 2 (F__law_like 20) (aCons (mApp 1 F_write_rows (aCons (mVar 3) aNil)) (aCons (mVar 4) aNil))))) (tNotM (tTruth (mApp 2 (F__law_like 20) (aCons (mApp 1 F_read_rows (aCons (mVar 4) aNil)) (aCons (mVar 3) aNil)))))) (sSeq (sRet n0 (mD (.bl false))) sNil) sNil) sNil)))
theorem turn_body03 (sc ds : List Int) (hd : Dg ds) (k : Nat) (hk : k + 500000 < 1000000000) {a0 e2 e3 e4 : Option Val} :
    ∃ f3 f4 j, j ≤ 4000 ∧ turnB03 1 [a0, some (.r 1), e2, e3, e4] [.scr sc, Bx ds k] = .nx [a0, some (.r 1), e2, f3, f4] [.scr sc, Bx ds (k + j)] := by
  obtain ⟨n, hv, ed⟩ := f_draw (.scr sc) ds hd [] k 7 (by omega) (by omega)
  obtain ⟨j, R, hj, r1, r2, r3, r4, er⟩ := f_rowsX sc ds hd n 9 (by omega) (by omega) (k + 1) (by omega)
  have h := wr_of (by omega) r1 r2 r3 r4
  let st : Sto := [.scr sc, Bx ds (k + 1 + j)]
  have hc : Clo st := rfl
  let E : Option Val → Option Val → Slots := fun x3 x4 => [a0, some (.r 1), e2, x3, x4]
  refine ⟨some (.p R.d), some (.p (.str (textR R))), 1 + j, by omega, ?_⟩
  refine es_asg (v := .p R.d) (st' := st) (env' := E (some (.p R.d)) e4) (sv_app (sa rfl (sa (sv_app (a2 rfl rfl) rfl ed) (sa rfl rfl))) rfl er) rfl ?_
  refine es_asg (v := .p (.str (textR R))) (st' := st) (env' := E (some (.p R.d)) (some (.p (.str (textR R))))) (ev_app (a1 rfl) rfl (f_law_rows_text h st)) rfl ?_
  obtain ⟨w1, w2⟩ := well_rows h
  have l1 := like_text 19 (textR R) st (by have := text_len h; omega)
  have l2 := f_like_refl 20 R.d st w1 w2
  refine (ss_in (et_or (a := false) (b := false) (et_not (b := true) (et_truth (ev_app (a2 (ev_app (a1 rfl) rfl (f_write_rows h st hc)) rfl) rfl l1))) fun _ => et_not (b := true) (et_truth (ev_app (a2 (ev_app (a1 rfl) rfl (f_read_rows h st hc)) rfl) rfl l2)))).trans ?_
  show SR.nx _ [.scr sc, Bx ds (k + 1 + j)] = _
  rw [Nat.add_assoc]
theorem turns03 (sc ds : List Int) (hd : Dg ds) {a0 : Option Val} :
    ∃ env j, sFor (mRng1 (aCons (mD (.int 5)) aNil)) (gN 2) (turnB03 1) [a0, some (.r 1), none, none, none] [.scr sc, Bx ds 0] = .nx (a0 :: some (.r 1) :: env) [.scr sc, Bx ds j] := by
  unfold sFor
  rw [srng1 (n := 5) (st1 := [.scr sc, Bx ds 0]) rfl (by omega)]
  refine forGo_post (Post := fun r => ∃ env j, r = .nx (a0 :: some (.r 1) :: env) [.scr sc, Bx ds j])
    (fun i env st => ∃ (f2 f3 f4 : Option Val) (j : Nat), j ≤ 4000 * i ∧ env = [a0, some (.r 1), f2, f3, f4] ∧ st = [.scr sc, Bx ds j]) ⟨none, none, none, 0, by omega, rfl, rfl⟩ ?_ ?_
  · rintro i x env st hx ⟨f2, f3, f4, j, hj, rfl, rfl⟩
    have hi : i < 5 := by
      have := (List.getElem?_eq_some_iff.mp hx).1
      simpa [rngItems] using this
    refine ⟨rfl, [a0, some (.r 1), some x, f3, f4], rfl, ?_⟩
    obtain ⟨g3, g4, j2, hj2, e⟩ := turn_body03 sc ds hd j (by omega) (a0 := a0) (e2 := some x) (e3 := f3) (e4 := f4)
    rw [e]
    exact ⟨some x, g3, g4, j + j2, by omega, rfl, rfl⟩
  · rintro env st ⟨f2, f3, f4, j, hj, rfl, rfl⟩
    exact ⟨rfl, _, j, rfl⟩
theorem hF03 (ns : List Int) (hl : ns.length ≤ 63) (hn : ∀ z ∈ ns, z.natAbs.log2 < 1048577) : ∃ st, F_law_v21 [.r 0] [.scr ns] = .ok (.p (.bl true)) st := by
  obtain ⟨ds, hd, hdl, e⟩ := f_digits ns hn
  obtain ⟨env, j, et⟩ := turns03 ns ds hd (a0 := some (.r 0))
  refine ⟨[.scr ns], f_rt ?_⟩
  show B_law_v21 1 [some (.r 0), none, none, none, none] [.scr ns] = _
  refine es_asg (v := .r 1) (st' := [.scr ns, Bx ds 0]) ?_ rfl ?_
  · have ha : aCons (mApp 3 F__law_digits (aCons (mVar 0) (aCons (mD (.int 0)) (aCons (mD (.int 63)) aNil)))) (aCons (mD (.int 0)) aNil) [some (.r 0), none, none, none, none] [.scr ns] = .ok [.p (.lst (ds.map .int)), pI 0] [.scr ns] := sa (sv_app (sa rfl (sa rfl (sa rfl rfl))) rfl e) (sa rfl rfl)
    unfold mLst
    rw [ha]
    rfl
  refine (seq_nx et).trans ?_
  refine seq_end.trans ?_
  rfl
end Sh
end
theorem PySem.Challenge.cw_slopelands_k03_row_written_and_read_holds : PySem.Challenge.rw_slopelands_k03_row_written_and_read.Holds := by
  exact K03_holds Sh.hF03
