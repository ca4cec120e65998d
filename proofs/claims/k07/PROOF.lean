import PyProof.Rows.All
import Wide.All
import OpenK.AllK
import Wide.FinOn
import HandS.ForMost
import HandS.ForExc
import KE.DataEq
import HandS.Style
import HandS.TupAny
import HandS.TupLe
import HandS.TupMul
import HandS.WideBits
import HandS.IsInst
import HandS.CallSlots
import HandS.Defaults
import HandS.Small
import HandS.TupLen
import HandS.SortInts
import HandS.Conv
import HandS.More
import PyProof.ListStr
import PyProof.TupleOfStr
import PyProof.SliceStr
import KE.KRevSl
import HandS.ExcInit
import HandS.ExcField
import PyProof.NeKinds
import HandS.HeadHook1
import HandS.HeadHook2
import HandS.HeadHook3
import HandS.HeadHook4
import PySem.Challenge.RW_flexhouse_k07_whole_which_strips_fold
import HandS.Head0
import HandS.Head1
import HandS.Head2
import HandS.HeadEnd
set_option Elab.async false
set_option linter.all false
set_option maxRecDepth 100000
set_option maxHeartbeats 2000000
namespace Fx
open PySem PySem.Spec PyProof.Rows L2

/-- who holds a list: nobody else (it may be changed) | perhaps others | it is the module's or the caller's own -/
inductive Ow where
  | own | frz | fix
  deriving DecidableEq
/-- data as trees: what a value stands for -/
inductive D where
  | non | bl (b : Bool) | int (i : Int) | str (s : Str) | fn (x : Str) | ty (n : String)
  | tup (c : Bool) (ds : List D) | lst (o : Ow) (ds : List D) | dic (o : Ow) (kvs : List (Key × D)) | dit (o : Ow) (kvs : List (List Key × D))

mutual
def noOwn : D → Bool
  | .tup _ ds => noOwns ds
  | .lst o ds => decide (o ≠ .own) && noOwns ds
  | .dic o kvs => decide (o ≠ .own) && noOwnK kvs
  | .dit o kvs => decide (o ≠ .own) && noOwnT kvs
  | _ => true
def noOwns : List D → Bool
  | [] => true
  | d :: ds => noOwn d && noOwns ds
def noOwnK : List (Key × D) → Bool
  | [] => true
  | (_, d) :: ds => noOwn d && noOwnK ds
def noOwnT : List (List Key × D) → Bool
  | [] => true
  | (_, d) :: ds => noOwn d && noOwnT ds
end
mutual
def fz : D → D
  | .tup c ds => .tup c (fzs ds)
  | .lst o ds => .lst (if o = .own then .frz else o) (fzs ds)
  | .dic o kvs => .dic (if o = .own then .frz else o) (fzK kvs)
  | .dit o kvs => .dit (if o = .own then .frz else o) (fzT kvs)
  | d => d
def fzs : List D → List D
  | [] => []
  | d :: ds => fz d :: fzs ds
def fzK : List (Key × D) → List (Key × D)
  | [] => []
  | (k, d) :: ds => (k, fz d) :: fzK ds
def fzT : List (List Key × D) → List (List Key × D)
  | [] => []
  | (k, d) :: ds => (k, fz d) :: fzT ds
end
theorem noOwnK_eq : ∀ kvs : List (Key × D), noOwnK kvs = noOwns (kvs.map (·.2))
  | [] => rfl
  | (k, d) :: r => by rw [noOwnK, noOwnK_eq r]; rfl
theorem noOwnT_eq : ∀ kvs : List (List Key × D), noOwnT kvs = noOwns (kvs.map (·.2))
  | [] => rfl
  | (k, d) :: r => by rw [noOwnT, noOwnT_eq r]; rfl
theorem noOwn_lst {o : Ow} {ds : List D} : noOwn (.lst o ds) = (decide (o ≠ .own) && noOwns ds) := by rw [noOwn]
theorem noOwn_tup {c : Bool} {ds : List D} : noOwn (.tup c ds) = noOwns ds := by rw [noOwn]
theorem noOwn_dic {o : Ow} {ds : List (Key × D)} : noOwn (.dic o ds) = (decide (o ≠ .own) && noOwns (ds.map (·.2))) := by rw [noOwn, noOwnK_eq]
theorem noOwn_dit {o : Ow} {ds : List (List Key × D)} : noOwn (.dit o ds) = (decide (o ≠ .own) && noOwns (ds.map (·.2))) := by rw [noOwn, noOwnT_eq]

section
variable (K : PySem.W.Frag) (mg : Str → Option Value) (HB H : Hp)
mutual
inductive Rp : V → D → List Addr → Prop
  | non : Rp .non .non []
  | bl (b : Bool) : Rp (.bl b) (.bl b) []
  | int (i : Int) : Rp (.int i) (.int i) []
  | str (s : Str) : Rp (.str s) (.str s) []
  | ty (n : String) : Rp (.ty n) (.ty n) []
  | fn {x : Str} {f : Addr} : mg x = some (.ref f) → Rp (.ref f) (.fn x) []
  | tup {a : Addr} {xs : List V} {ds : List D} {F : List Addr} {c : Bool} : (c = true ∨ HB a = some (.tup xs)) → SqT K HB a xs → Rps xs ds F → Rp (.ref a) (.tup c ds) F
  | lst {a : Addr} {xs : List V} {ds : List D} : HB a = some (.lst xs) → Rps xs ds [] → Rp (.ref a) (.lst .frz ds) []
  | fix {a : Addr} {xs : List V} {ds : List D} : SqL K HB a xs → Rps xs ds [] → Rp (.ref a) (.lst .fix ds) []
  | own {a : Addr} {xs : List V} {ds : List D} {F : List Addr} : H a = some (.lst xs) → Rps xs ds F → Rp (.ref a) (.lst .own ds) (a :: F)
  | dic {a : Addr} {xs : List (Key × V)} {ds : List (Key × D)} : HB a = some (.dK xs) → xs.map (·.1) = ds.map (·.1) → Rps (xs.map (·.2)) (ds.map (·.2)) [] → Rp (.ref a) (.dic .frz ds) []
  | dicO {a : Addr} {xs : List (Key × V)} {ds : List (Key × D)} {F : List Addr} : H a = some (.dK xs) → xs.map (·.1) = ds.map (·.1) → Rps (xs.map (·.2)) (ds.map (·.2)) F → Rp (.ref a) (.dic .own ds) (a :: F)
  | dit {a : Addr} {xs : List (List Key × V)} {ds : List (List Key × D)} : HB a = some (.dT xs) → xs.map (·.1) = ds.map (·.1) → Rps (xs.map (·.2)) (ds.map (·.2)) [] → Rp (.ref a) (.dit .frz ds) []
  | ditO {a : Addr} {xs : List (List Key × V)} {ds : List (List Key × D)} {F : List Addr} : H a = some (.dT xs) → xs.map (·.1) = ds.map (·.1) → Rps (xs.map (·.2)) (ds.map (·.2)) F → Rp (.ref a) (.dit .own ds) (a :: F)
inductive Rps : List V → List D → List Addr → Prop
  | nil : Rps [] [] []
  | cons {v : V} {vs : List V} {d : D} {ds : List D} {F G : List Addr} : Rp v d F → Rps vs ds G → Rps (v :: vs) (d :: ds) (F ++ G)
end
end
/-- what one may own -/
def Mu : HO → Prop
  | .lst _ => True
  | .dK _ => True
  | .dT _ => True
  | _ => False

section
variable {K : PySem.W.Frag} {mg : Str → Option Value} {HB HB' H H' : Hp}
theorem same_seqT {a : Addr} {xs : List V} (e : Same HB HB') (h : SqT K HB a xs) : SqT K HB' a xs := by
  rcases h with (h | ⟨o, h⟩) | h
  · exact .inl (.inl (e _ _ h))
  · exact .inl (.inr ⟨o, e _ _ h⟩)
  · exact .inr h
mutual
theorem Rp.mono (e : Same HB HB') : ∀ {v : V} {d : D} {F : List Addr}, Rp K mg HB H v d F → (∀ a ∈ F, H' a = H a) → Rp K mg HB' H' v d F
  | _, _, _, .non, _ => .non
  | _, _, _, .bl b, _ => .bl b
  | _, _, _, .int i, _ => .int i
  | _, _, _, .str s, _ => .str s
  | _, _, _, .ty s, _ => .ty s
  | _, _, _, .fn h, _ => .fn h
  | _, _, _, .tup q h r, k => .tup (q.imp id (e _ _)) (same_seqT e h) (Rps.mono e r k)
  | _, _, _, .lst h r, k => .lst (e _ _ h) (Rps.mono e r fun _ z => nomatch z)
  | _, _, _, .fix h r, k => .fix (e.seq h) (Rps.mono e r fun _ z => nomatch z)
  | _, _, _, .own h r, k => .own ((k _ List.mem_cons_self).trans h) (Rps.mono e r fun a z => k a (List.mem_cons_of_mem _ z))
  | _, _, _, .dic h q r, k => .dic (e _ _ h) q (Rps.mono e r fun _ z => nomatch z)
  | _, _, _, .dicO h q r, k => .dicO ((k _ List.mem_cons_self).trans h) q (Rps.mono e r fun a z => k a (List.mem_cons_of_mem _ z))
  | _, _, _, .dit h q r, k => .dit (e _ _ h) q (Rps.mono e r fun _ z => nomatch z)
  | _, _, _, .ditO h q r, k => .ditO ((k _ List.mem_cons_self).trans h) q (Rps.mono e r fun a z => k a (List.mem_cons_of_mem _ z))
theorem Rps.mono (e : Same HB HB') : ∀ {vs : List V} {ds : List D} {F : List Addr}, Rps K mg HB H vs ds F → (∀ a ∈ F, H' a = H a) → Rps K mg HB' H' vs ds F
  | _, _, _, .nil, _ => .nil
  | _, _, _, .cons h r, k => .cons (Rp.mono e h fun a z => k a (List.mem_append_left _ z)) (Rps.mono e r fun a z => k a (List.mem_append_right _ z))
end
mutual
theorem Rp.none : ∀ {v : V} {d : D} {F : List Addr}, Rp K mg HB H v d F → noOwn d = true → F = []
  | _, _, _, .non, _ => rfl
  | _, _, _, .bl _, _ => rfl
  | _, _, _, .int _, _ => rfl
  | _, _, _, .str _, _ => rfl
  | _, _, _, .ty _, _ => rfl
  | _, _, _, .fn _, _ => rfl
  | _, _, _, .tup _ _ r, n => Rps.none r (by rwa [noOwn_tup] at n)
  | _, _, _, .lst _ _, _ => rfl
  | _, _, _, .fix _ _, _ => rfl
  | _, _, _, .own _ _, n => by simp [noOwn_lst] at n
  | _, _, _, .dic _ _ _, _ => rfl
  | _, _, _, .dicO _ _ _, n => by simp [noOwn_dic] at n
  | _, _, _, .dit _ _ _, _ => rfl
  | _, _, _, .ditO _ _ _, n => by simp [noOwn_dit] at n
theorem Rps.none : ∀ {vs : List V} {ds : List D} {F : List Addr}, Rps K mg HB H vs ds F → noOwns ds = true → F = []
  | _, _, _, .nil, _ => rfl
  | _, _, _, .cons h r, n => by
    simp only [noOwns, Bool.and_eq_true] at n
    rw [Rp.none h n.1, Rps.none r n.2]
    rfl
end
end

/-! ### the state of a body: slots as data -/
abbrev Sl := List (Option D)
/-- an error: its class, its attributes -/
abbrev Er := Str × List (Str × D)
def plus (Fr : Hp) (F : List Addr) (H : Hp) : Hp := fun a => if a ∈ F then H a else Fr a
theorem plus_in {Fr H : Hp} {F : List Addr} {a : Addr} (h : a ∈ F) : plus Fr F H a = H a := if_pos h
theorem plus_out {Fr H : Hp} {F : List Addr} {a : Addr} (h : a ∉ F) : plus Fr F H a = Fr a := if_neg h

structure StF (K : PySem.W.Frag) (mg : Str → Option Value) (io : Bool) (S : Sl) (σ : L2.St) (HB H Fr : Hp) (ft : Nat → List Addr) (p0 : Option V) : Prop where
  len : S.length = σ.length
  bs : Same HB H
  fr : Same Fr H
  dis : ∀ a o, Fr a = some o → HB a = none
  val : ∀ i d, S[i]? = some (some d) → ∃ v, σ[i]? = some (some v) ∧ Rp K mg HB H v d (ft i)
  emp : ∀ i, (∀ d, S[i]? ≠ some (some d)) → ft i = []
  free : ∀ i a, a ∈ ft i → HB a = none ∧ Fr a = none
  nd : ∀ i, (ft i).Nodup
  sep : ∀ i j a, a ∈ ft i → a ∈ ft j → i = j
  pin : ∀ v, p0 = some v → io = true ∧ σ[0]? = some (some v)
  frm : ∀ a o, Fr a = some o → Mu o

/-- values in hand, with what they own -/
structure Hands (K : PySem.W.Frag) (mg : Str → Option Value) (HB H Fr : Hp) (ft : Nat → List Addr) (vs : List V) (ds : List D) (F : List Addr) : Prop where
  rp : Rps K mg HB H vs ds F
  nd : F.Nodup
  free : ∀ a ∈ F, HB a = none ∧ Fr a = none ∧ ∀ i, a ∉ ft i
structure Hand (K : PySem.W.Frag) (mg : Str → Option Value) (HB H Fr : Hp) (ft : Nat → List Addr) (v : V) (d : D) (F : List Addr) : Prop where
  rp : Rp K mg HB H v d F
  nd : F.Nodup
  free : ∀ a ∈ F, HB a = none ∧ Fr a = none ∧ ∀ i, a ∉ ft i

section
variable {K : PySem.W.Frag} {mg : Str → Option Value} {io : Bool} {S : Sl} {σ : L2.St} {HB HB' H H' Fr Fr' : Hp} {ft : Nat → List Addr} {p0 : Option V} {v : V} {vs : List V} {d : D} {ds : List D} {F G : List Addr}
theorem mu_of {a b : Addr} {o : HO} (h : H a = some o) (m : Mu o) (e : b = a) : ∃ o, H b = some o ∧ Mu o := ⟨o, e ▸ h, m⟩
mutual
theorem Rp.there : ∀ {v : V} {d : D} {F : List Addr}, Rp K mg HB H v d F → ∀ a ∈ F, ∃ o, H a = some o ∧ Mu o
  | _, _, _, .non, _, ha => nomatch ha
  | _, _, _, .bl _, _, ha => nomatch ha
  | _, _, _, .int _, _, ha => nomatch ha
  | _, _, _, .str _, _, ha => nomatch ha
  | _, _, _, .ty _, _, ha => nomatch ha
  | _, _, _, .fn _, _, ha => nomatch ha
  | _, _, _, .tup _ _ r, a, ha => Rps.there r a ha
  | _, _, _, .lst _ _, _, ha => nomatch ha
  | _, _, _, .fix _ _, _, ha => nomatch ha
  | _, _, _, .own h r, a, ha => (List.mem_cons.mp ha).elim (mu_of h True.intro) fun e => Rps.there r a e
  | _, _, _, .dic _ _ _, _, ha => nomatch ha
  | _, _, _, .dicO h _ r, a, ha => (List.mem_cons.mp ha).elim (mu_of h True.intro) fun e => Rps.there r a e
  | _, _, _, .dit _ _ _, _, ha => nomatch ha
  | _, _, _, .ditO h _ r, a, ha => (List.mem_cons.mp ha).elim (mu_of h True.intro) fun e => Rps.there r a e
theorem Rps.there : ∀ {vs : List V} {ds : List D} {F : List Addr}, Rps K mg HB H vs ds F → ∀ a ∈ F, ∃ o, H a = some o ∧ Mu o
  | _, _, _, .nil, _, ha => nomatch ha
  | _, _, _, .cons h r, a, ha => (List.mem_append.mp ha).elim (fun e => Rp.there h a e) fun e => Rps.there r a e
end
theorem Hand.one (h : Hand K mg HB H Fr ft v d F) : Hands K mg HB H Fr ft [v] [d] F := ⟨by have := Rps.cons h.rp (.nil (K := K) (mg := mg) (HB := HB) (H := H)); rwa [List.append_nil] at this, h.nd, h.free⟩
/-- what is in hand is kept aside -/
theorem StF.plus (st : StF K mg io S σ HB H Fr ft p0) (nF : ∀ a ∈ F, ∃ o, H a = some o ∧ Mu o) (free : ∀ a ∈ F, HB a = none ∧ Fr a = none ∧ ∀ i, a ∉ ft i) : StF K mg io S σ HB H (plus Fr F H) ft p0 where
  len := st.len
  bs := st.bs
  fr := fun a o e => by
    by_cases ha : a ∈ F
    · rwa [plus_in ha] at e
    · rw [plus_out ha] at e; exact st.fr a o e
  dis := fun a o e => by
    by_cases ha : a ∈ F
    · exact (free a ha).1
    · rw [plus_out ha] at e; exact st.dis a o e
  val := st.val
  emp := st.emp
  free := fun i a ha => ⟨(st.free i a ha).1, by
    have n : a ∉ F := fun z => (free a z).2.2 i ha
    rw [plus_out n]; exact (st.free i a ha).2⟩
  nd := st.nd
  sep := st.sep
  pin := st.pin
  frm := fun a o e => by
    by_cases ha : a ∈ F
    · rw [plus_in ha] at e
      obtain ⟨o', q, m⟩ := nF a ha
      rw [q] at e; cases e; exact m
    · rw [plus_out ha] at e; exact st.frm a o e
theorem same_plus (free : ∀ a ∈ F, Fr a = none) : Same Fr (Fx.plus Fr F H) := fun a o e => by
  have n : a ∉ F := fun z => by rw [free a z] at e; cases e
  rw [plus_out n]; exact e
/-- a smaller frame -/
theorem StF.less (st : StF K mg io S σ HB H Fr' ft p0) (s : Same Fr Fr') : StF K mg io S σ HB H Fr ft p0 where
  len := st.len
  bs := st.bs
  fr := fun a o e => st.fr a o (s a o e)
  dis := fun a o e => st.dis a o (s a o e)
  val := st.val
  emp := st.emp
  free := fun i a ha => ⟨(st.free i a ha).1, s.free (st.free i a ha).2⟩
  nd := st.nd
  sep := st.sep
  pin := st.pin
  frm := fun a o e => st.frm a o (s a o e)
/-- what was kept aside stands as it stood -/
theorem plus_kept (s : Same (Fx.plus Fr F H) H') (nF : ∀ a ∈ F, ∃ o, H a = some o ∧ Mu o) : ∀ a ∈ F, H' a = H a := fun a ha => by
  obtain ⟨xs, e, _⟩ := nF a ha
  rw [e]
  exact s a _ (by rw [plus_in ha]; exact e)

/-- fresh things have come, all else stands -/
structure Ext (HB H HB' H' : Hp) : Prop where
  same : Same H H'
  bs : Same HB HB'
  sub : Same HB' H'
  new : ∀ a, HB a = none → H a ≠ none → HB' a = none ∨ ∃ xs, H a = some (.tup xs)
theorem Ext.refl (s : Same HB H) : Ext HB H HB H := ⟨Same.refl _, Same.refl _, s, fun _ h _ => .inl h⟩
theorem Ext.trans {HB2 H2 : Hp} (a : Ext HB H HB' H') (b : Ext HB' H' HB2 H2) : Ext HB H HB2 H2 :=
  ⟨a.same.trans b.same, a.bs.trans b.bs, b.sub, fun x h1 h2 => by
    rcases a.new x h1 h2 with h3 | h3
    · rcases b.new x h3 fun z => h2 (a.same.free z) with h4 | ⟨xs, h4⟩
      · exact .inl h4
      · refine .inr ⟨xs, ?_⟩
        cases e : H x with
        | none => exact absurd e h2
        | some o => rw [a.same x o e] at h4; exact h4
    · exact .inr h3⟩
theorem Ext.fresh (e : Ext HB H HB' H') {a : Addr} {o : HO} (h1 : HB a = none) (h2 : H a = some o) (m : Mu o) : HB' a = none := by
  rcases e.new a h1 (by rw [h2]; simp) with h | ⟨xs, h⟩
  · exact h
  · rw [h2] at h
    cases h
    exact m.elim
theorem StF.ext (st : StF K mg io S σ HB H Fr ft p0) (e : Ext HB H HB' H') : StF K mg io S σ HB' H' Fr ft p0 where
  len := st.len
  bs := e.sub
  fr := st.fr.trans e.same
  dis := fun a o h => e.fresh (st.dis a o h) (st.fr a o h) (st.frm a o h)
  val := fun i d h => by
    obtain ⟨v, h1, r⟩ := st.val i d h
    exact ⟨v, h1, r.mono e.bs fun a ha => by
      obtain ⟨xs, q, _⟩ := r.there a ha
      rw [q]; exact e.same a _ q⟩
  emp := st.emp
  free := fun i a ha => ⟨by
    have hd : ∃ d, S[i]? = some (some d) := by
      apply Classical.byContradiction
      intro z
      rw [st.emp i fun d q => z ⟨d, q⟩] at ha
      cases ha
    obtain ⟨d, hd⟩ := hd
    obtain ⟨v, _, r⟩ := st.val i d hd
    obtain ⟨xs, q, m⟩ := r.there a ha
    exact e.fresh (st.free i a ha).1 q m, (st.free i a ha).2⟩
  nd := st.nd
  sep := st.sep
  pin := st.pin
  frm := st.frm
theorem Rp.ext (r : Rp K mg HB H v d F) (e : Ext HB H HB' H') : Rp K mg HB' H' v d F := r.mono e.bs fun a ha => by
  obtain ⟨xs, q, _⟩ := r.there a ha
  rw [q]; exact e.same a _ q
theorem Rps.ext (r : Rps K mg HB H vs ds F) (e : Ext HB H HB' H') : Rps K mg HB' H' vs ds F := r.mono e.bs fun a ha => by
  obtain ⟨xs, q, _⟩ := r.there a ha
  rw [q]; exact e.same a _ q
theorem Hand.ext (h : Hand K mg HB H Fr ft v d F) (e : Ext HB H HB' H') : Hand K mg HB' H' Fr ft v d F := ⟨h.rp.ext e, h.nd, fun a ha => ⟨by
    obtain ⟨xs, q, m⟩ := h.rp.there a ha
    exact e.fresh (h.free a ha).1 q m, (h.free a ha).2⟩⟩
theorem Hands.ext (h : Hands K mg HB H Fr ft vs ds F) (e : Ext HB H HB' H') : Hands K mg HB' H' Fr ft vs ds F := ⟨h.rp.ext e, h.nd, fun a ha => ⟨by
    obtain ⟨xs, q, m⟩ := h.rp.there a ha
    exact e.fresh (h.free a ha).1 q m, (h.free a ha).2⟩⟩
/-- a new thing that never changes -/
theorem Ext.put {p : Addr} {o : HO} (s : Same HB H) (n : H p = none) : Ext HB H (upd HB p o) (upd H p o) where
  same := fun a u e => by rw [upd_ne (ne_of_none e n)]; exact e
  bs := fun a u e => by rw [upd_ne (ne_of_none (s _ _ e) n)]; exact e
  sub := fun a u e => by
    by_cases ha : a = p
    · subst ha; rw [upd_same] at e ⊢; exact e
    · rw [upd_ne ha] at e ⊢; exact s _ _ e
  new := fun a h1 h2 => by
    have ha : a ≠ p := fun z => h2 (by rw [z]; exact n)
    rw [upd_ne ha]; exact .inl h1
/-- a new thing of one's own -/
theorem Ext.lay {p : Addr} {o : HO} (s : Same HB H) (n : H p = none) : Ext HB H HB (upd H p o) where
  same := fun a u e => by rw [upd_ne (ne_of_none e n)]; exact e
  bs := Same.refl _
  sub := fun a u e => by rw [upd_ne (ne_of_none (s _ _ e) n)]; exact s _ _ e
  new := fun a h1 _ => .inl h1
end

/-! ### judgements: an expression's value as data -/
abbrev EM := Sl → Option (Except Er D × Sl)
abbrev AM := Sl → Option (Except Er (List D) × Sl)
abbrev BM := Sl → Option (Except Er Bool × Sl)
section
variable (K : PySem.W.Frag) (mg : Str → Option Value) (W : WX) (io : Bool)
def ErrAt (HB H Fr : Hp) (c : Value) (dx : Addr) (e : Er) : Prop :=
  ∃ C fsv, mg e.1 = some (.ref C) ∧ c = .ref C ∧ H dx = some (.xd fsv) ∧ HB dx = none ∧ Fr dx = none ∧ ∀ f d, (f, d) ∈ e.2 → ∃ v, fsv.lookup f = some v ∧ Rp K mg HB H v d []
/-- behind an error -/
def XPost (S' : Sl) (σ : L2.St) (HB Fr : Hp) (p0 : Option V) (e : Er) : Prop :=
  ∀ c dx H' HB' ft', Same HB HB' → StF K mg io S' σ HB' H' Fr ft' p0 → ErrAt K mg HB' H' Fr c dx e → W c (some dx) σ H'
def EPost (σ : L2.St) (HB Fr : Hp) (p0 : Option V) (Q : VK) : Except Er D × Sl → Prop
  | (.ok d, S') => ∀ v H' HB' ft' F, Same HB HB' → StF K mg io S' σ HB' H' Fr ft' p0 → Hand K mg HB' H' Fr ft' v d F → Q v H'
  | (.error e, S') => XPost K mg W io S' σ HB Fr p0 e
def APost (σ : L2.St) (HB Fr : Hp) (p0 : Option V) (Q : List V → Hp → Prop) : Except Er (List D) × Sl → Prop
  | (.ok ds, S') => ∀ vs H' HB' ft' F, Same HB HB' → StF K mg io S' σ HB' H' Fr ft' p0 → Hands K mg HB' H' Fr ft' vs ds F → Q vs H'
  | (.error e, S') => XPost K mg W io S' σ HB Fr p0 e
def BPost (σ : L2.St) (HB Fr : Hp) (p0 : Option V) (Q : Bool → Hp → Prop) : Except Er Bool × Sl → Prop
  | (.ok b, S') => ∀ H' HB' ft', Same HB HB' → StF K mg io S' σ HB' H' Fr ft' p0 → Q b H'
  | (.error e, S') => XPost K mg W io S' σ HB Fr p0 e
def TEd (m : EM) : TE := fun σ H Q => ∃ S HB Fr ft p0 r, StF K mg io S σ HB H Fr ft p0 ∧ m S = some r ∧ EPost K mg W io σ HB Fr p0 Q r
def TAd (m : AM) : TA := fun σ H Q => ∃ S HB Fr ft p0 r, StF K mg io S σ HB H Fr ft p0 ∧ m S = some r ∧ APost K mg W io σ HB Fr p0 Q r
def TTd (m : BM) : TT := fun σ H Q => ∃ S HB Fr ft p0 r, StF K mg io S σ HB H Fr ft p0 ∧ m S = some r ∧ BPost K mg W io σ HB Fr p0 Q r
end
abbrev PEd (X : Cx) (W : WX) (io : Bool) (e : Expr) (m : EM) : Prop := PE X e (TEd X.K X.mg W io m)
abbrev PAd (X : Cx) (W : WX) (io : Bool) (es : List Expr) (m : AM) : Prop := PA X es (TAd X.K X.mg W io m)
abbrev PTd (X : Cx) (W : WX) (io : Bool) (e : Expr) (m : BM) : Prop := PT X e (TTd X.K X.mg W io m)
abbrev PWd (X : Cx) (W : WX) (io : Bool) (e : Expr) (m : BM) : Prop := PW X e (TTd X.K X.mg W io m)
theorem PE.imp {X : Cx} {e : Expr} {t t' : TE} (h : PE X e t) (k : ∀ σ H Q, t' σ H Q → t σ H Q) : PE X e t' := ⟨fun pins s σ H Q I q => h.run pins s σ H Q I (k _ _ _ q)⟩
theorem PA.imp {X : Cx} {e : List Expr} {t t' : TA} (h : PA X e t) (k : ∀ σ H Q, t' σ H Q → t σ H Q) : PA X e t' := ⟨fun pos pins s σ H Q I q => h.run pos pins s σ H Q I (k _ _ _ q)⟩
theorem PT.imp {X : Cx} {e : Expr} {t t' : TT} (h : PT X e t) (k : ∀ σ H Q, t' σ H Q → t σ H Q) : PT X e t' := ⟨fun pins s σ H Q I q => h.run pins s σ H Q I (k _ _ _ q)⟩
theorem PW.imp {X : Cx} {e : Expr} {t t' : TT} (h : PW X e t) (k : ∀ σ H Q, t' σ H Q → t σ H Q) : PW X e t' := ⟨fun wh pins s σ H Q I q => h.run wh pins s σ H Q I (k _ _ _ q)⟩

/-! ### what expressions mean -/
def bnd {α β : Type} (r : Option (Except Er α × Sl)) (k : α → Sl → Option (Except Er β × Sl)) : Option (Except Er β × Sl) := match r with
  | some (.ok a, S) => k a S
  | some (.error e, S) => some (.error e, S)
  | none => none
theorem bnd_some {α β : Type} {r : Option (Except Er α × Sl)} {k : α → Sl → Option (Except Er β × Sl)} {z : Except Er β × Sl} (h : bnd r k = some z) :
    (∃ a S, r = some (.ok a, S) ∧ k a S = some z) ∨ ∃ e S, r = some (.error e, S) ∧ z = (.error e, S) := by
  unfold bnd at h
  split at h
  · exact .inl ⟨_, _, rfl, h⟩
  · exact .inr ⟨_, _, rfl, (Option.some.inj h).symm⟩
  · cases h
def got {α : Type} (o : Option α) (S : Sl) : Option (Except Er α × Sl) := match o with
  | some a => some (.ok a, S)
  | none => none
def mVar (i : Nat) : EM := fun S => match S[i]? with
  | some (some d) => if noOwn d = true then some (.ok d, S) else none
  | _ => none
def mC (d : D) : EM := fun S => some (.ok d, S)
def mOp (g : D → D → Option D) (ma mb : EM) : EM := fun S => bnd (ma S) fun d S1 => bnd (mb S1) fun e S2 => got (g d e) S2
def aNil : AM := fun S => some (.ok [], S)
def aCons (m : EM) (r : AM) : AM := fun S => bnd (m S) fun d S1 => bnd (r S1) fun ds S2 => some (.ok (d :: ds), S2)
def mTup (m : AM) : EM := fun S => bnd (m S) fun ds S1 => if ds.length ≤ 1000 then some (.ok (.tup false ds), S1) else none
def mLst (m : AM) : EM := fun S => bnd (m S) fun ds S1 => if ds.length ≤ 1000 then some (.ok (.lst .own ds), S1) else none
end Fx

set_option maxHeartbeats 2000000
namespace Fx
open PySem PySem.Spec PyProof.Rows L2
section
variable {X : Cx} {W : WX} {io : Bool} {a b e : Expr} {es : List Expr} {ma mb m : EM} {pos : Pos}
theorem own_keep {K : PySem.W.Frag} {mg : Str → Option Value} {HB H HB' H' : Hp} {v : V} {d : D} {F : List Addr} (r : Rp K mg HB H v d F) (s : Same HB HB') (k : ∀ a ∈ F, H' a = H a) : Rp K mg HB' H' v d F := r.mono s k
theorem ErrAt.less {K : PySem.W.Frag} {mg : Str → Option Value} {HB H Fr Fr' : Hp} {c : Value} {dx : Addr} {e : Er} (h : ErrAt K mg HB H Fr' c dx e) (s : Same Fr Fr') : ErrAt K mg HB H Fr c dx e := by
  obtain ⟨C, f, h1, h2, h3, h4, h5, h6⟩ := h
  exact ⟨C, f, h1, h2, h3, h4, s.free h5, h6⟩
/-- an error passes through what was kept aside -/
theorem XPost.aside {K : PySem.W.Frag} {mg : Str → Option Value} {S' : Sl} {σ : L2.St} {HB HB1 Fr Fr' : Hp} {p0 : Option V} {e : Er} (h : XPost K mg W io S' σ HB Fr p0 e) (s : Same HB HB1) (f : Same Fr Fr') : XPost K mg W io S' σ HB1 Fr' p0 e :=
  fun c dx H' HB' ft' s' st er => h c dx H' HB' ft' (s.trans s') (st.less f) (er.less f)
theorem pd_const {v : V} {d : D} (h : PE X e (tC v)) (r : ∀ HB H, Rp X.K X.mg HB H v d []) : PEd X W io e (mC d) := by
  refine PE.imp h fun σ H Q ⟨S, HB, Fr, ft, p0, z, st, e1, post⟩ => ?_
  cases e1
  exact post v H HB ft [] (Same.refl _) st ⟨r _ _, List.nodup_nil, fun _ z => nomatch z⟩
theorem pd_int {i : Int} {j : Nat} : PEd X W io (.Constant (.int i) j pos) (mC (.int i)) := pd_const pe_int fun _ _ => .int i
theorem pd_bl {i : Bool} {j : Nat} : PEd X W io (.Constant (.bool i) j pos) (mC (.bl i)) := pd_const pe_bl fun _ _ => .bl i
theorem pd_non {j : Nat} : PEd X W io (.Constant .none j pos) (mC .non) := pd_const pe_non fun _ _ => .non
theorem pd_str {i : Str} {j : Nat} : PEd X W io (.Constant (.str i) j pos) (mC (.str i)) := pd_const pe_str fun _ _ => .str i
/-- a constant of the module -/
structure Glo (K : PySem.W.Frag) (mg : Str → Option Value) (x : Str) (d : D) : Prop where
  ex : ∃ v u, mg x = some u ∧ RelV v u ∧ ∀ HB H, Rp K mg HB H v d []
theorem pd_glo {x : Str} {d : D} (g : Glo X.K X.mg x d) (hg : Gl X x := by rfl) (hd : (x == ("__debug__" : Str)) = false := by decide) : PEd X W io (.Name x pos) (mC d) := by
  obtain ⟨v, u, h1, h2, h3⟩ := g.ex
  exact pd_const (pe_glob hg h1 h2 hd) h3
theorem pd_var (i : Nat) {x : Str} (hN : X.N[i]? = some x := by rfl) (hv : Vis X.env.scope x := by first | exact Or.inl rfl | exact Or.inr (Or.inl rfl) | exact Or.inr (Or.inr rfl)) (hd : (x == ("__debug__" : Str)) = false := by decide)
    (hcd : (x == ("__classdict__" : Str)) = false := by decide) : PEd X W io (.Name x pos) (mVar i) := by
  refine PE.imp (pe_var hN hv hd hcd) fun σ H Q ⟨S, HB, Fr, ft, p0, z, st, e1, post⟩ => ?_
  unfold mVar at e1
  split at e1
  · rename_i d hd
    split at e1
    · rename_i hn
      cases e1
      obtain ⟨v, h1, r⟩ := st.val i d hd
      have h0 := r.none hn
      rw [h0] at r
      exact ⟨v, h1, post v H HB ft [] (Same.refl _) st ⟨r, List.nodup_nil, fun _ z => nomatch z⟩⟩
    · cases e1
  · cases e1

/-! ### operations by values -/
def OpS (K : PySem.W.Frag) (mg : Str → Option Value) (r : R2) (g : D → D → Option D) : Prop :=
  ∀ (HB H : Hp) (x y : V) (d e z : D) (F G : List Addr) (Q : VK), Same HB H → Rp K mg HB H x d F → Rp K mg HB H y e G → g d e = some z →
    (∀ v HB' H' Fz, Ext HB H HB' H' → Rp K mg HB' H' v z Fz → Fz.Nodup → (∀ a ∈ Fz, H a = none ∧ HB' a = none) → Q v H') → r x y H Q
def OpD (X : Cx) (f : Value → Value → Sem Value) (g : D → D → Option D) : Prop := ∃ r, OpR X f r ∧ OpS X.K X.mg r g
theorem OpD.imp {f : Value → Value → Sem Value} {g g' : D → D → Option D} (h : OpD X f g) (k : ∀ d e z, g' d e = some z → g d e = some z) : OpD X f g' := by
  obtain ⟨r, h1, h2⟩ := h
  exact ⟨r, h1, fun HB H x y d e z F G Q s rx ry hz => h2 HB H x y d e z F G Q s rx ry (k _ _ _ hz)⟩
def gOr (g g' : D → D → Option D) : D → D → Option D := fun d e => match g d e with
  | some z => some z
  | none => g' d e
theorem OpD.or {f : Value → Value → Sem Value} {g g' : D → D → Option D} (h : OpD X f g) (h' : OpD X f g') : OpD X f (gOr g g') := by
  obtain ⟨r, h1, h2⟩ := h
  obtain ⟨r', h1', h2'⟩ := h'
  refine ⟨_, h1.or h1', fun HB H x y d e z F G Q s rx ry hz hq => ?_⟩
  unfold gOr at hz
  split at hz
  · rename_i z' hz'
    cases hz
    exact .inl (h2 HB H x y d e _ F G Q s rx ry hz' hq)
  · exact .inr (h2' HB H x y d e z F G Q s rx ry hz hq)
/-- the end of such an operation, in a body -/
theorem op_end {K : PySem.W.Frag} {mg : Str → Option Value} {S : Sl} {σ : L2.St} {HB0 HB H Fr Fr0 : Hp} {ft : Nat → List Addr} {p0 : Option V} {z : D} {Q : VK} (s0 : Same HB0 HB) (f0 : Same Fr0 Fr) (st : StF K mg io S σ HB H Fr ft p0)
    (post : EPost K mg W io σ HB0 Fr0 p0 Q (.ok z, S)) : ∀ v HB' H' Fz, Ext HB H HB' H' → Rp K mg HB' H' v z Fz → Fz.Nodup → (∀ a ∈ Fz, H a = none ∧ HB' a = none) → Q v H' := fun v HB' H' Fz x r n fr =>
  post v H' HB' ft Fz (s0.trans x.bs) ((st.ext x).less f0) ⟨r, n, fun a ha => ⟨(fr a ha).2, by
    apply f0.free
    exact st.fr.free (fr a ha).1, fun i hi => by
    have hd : ∃ d, S[i]? = some (some d) := by
      apply Classical.byContradiction
      intro q
      rw [st.emp i fun d h => q ⟨d, h⟩] at hi
      cases hi
    obtain ⟨d, hd⟩ := hd
    obtain ⟨_, _, r2⟩ := st.val i d hd
    obtain ⟨xs, q, _⟩ := r2.there a hi
    rw [(fr a ha).1] at q
    cases q⟩⟩
/-- two operands, one behind the other -/
theorem two_run {σ : L2.St} {H : Hp} {Q : VK} {k : D → D → Sl → Option (Except Er D × Sl)} {R : V → V → Hp → Prop}
    (h : TEd X.K X.mg W io (fun S => bnd (ma S) fun d S1 => bnd (mb S1) fun e S2 => k d e S2) σ H Q)
    (fin : ∀ S HB H Fr ft p0 d e v u F G z HB0 Fr0, StF X.K X.mg io S σ HB H Fr ft p0 → Same HB0 HB → Same Fr0 Fr → Rp X.K X.mg HB H v d F → Rp X.K X.mg HB H u e G → k d e S = some z → EPost X.K X.mg W io σ HB0 Fr0 p0 Q z → R v u H) :
    TEd X.K X.mg W io ma σ H fun x H1 => TEd X.K X.mg W io mb σ H1 fun y H2 => R x y H2 := by
  obtain ⟨S, HB, Fr, ft, p0, z, st, e1, post⟩ := h
  rcases bnd_some e1 with ⟨d, S1, h1, e2⟩ | ⟨er, S1, h1, rfl⟩
  · refine ⟨S, HB, Fr, ft, p0, _, st, h1, fun x H1 HB1 ft1 F1 s1 st1 hx => ?_⟩
    have st1' := st1.plus hx.rp.there hx.free
    have sp := same_plus (Fr := Fr) (H := H1) fun a ha => (hx.free a ha).2.1
    rcases bnd_some e2 with ⟨e, S2, h2, e3⟩ | ⟨er, S2, h2, rfl⟩
    · refine ⟨S1, HB1, _, ft1, p0, _, st1', h2, fun y H2 HB2 ft2 F2 s2 st2 hy => ?_⟩
      exact fin S2 HB2 H2 _ ft2 p0 d e x y F1 F2 z HB Fr st2 (s1.trans s2) sp (hx.rp.mono s2 (plus_kept st2.fr hx.rp.there)) hy.rp e3 post
    · exact ⟨S1, HB1, _, ft1, p0, _, st1', h2, XPost.aside post s1 sp⟩
  · exact ⟨S, HB, Fr, ft, p0, _, st, h1, post⟩
theorem got_some {α : Type} {o : Option α} {S : Sl} {z : Except Er α × Sl} (h : got o S = some z) : ∃ a, o = some a ∧ z = (.ok a, S) := by
  unfold got at h
  split at h
  · exact ⟨_, rfl, (Option.some.inj h).symm⟩
  · cases h
theorem op_run {r : R2} {g : D → D → Option D} (hs : OpS X.K X.mg r g) {σ : L2.St} {H : Hp} {Q : VK} (h : TEd X.K X.mg W io (mOp g ma mb) σ H Q) : tOp r (TEd X.K X.mg W io ma) (TEd X.K X.mg W io mb) σ H Q := by
  refine two_run h fun S HB H Fr ft p0 d e v u F G z HB0 Fr0 st s0 f0 rv ru hk post => ?_
  obtain ⟨z', h1, rfl⟩ := got_some hk
  exact hs HB H v u d e z' F G Q st.bs rv ru h1 (op_end s0 f0 st post)
theorem pd_op {op : Operator} {g : D → D → Option D} (h : OpD X (binaryOp op) g) (ha : PEd X W io a ma) (hb : PEd X W io b mb) : PEd X W io (.BinOp a op b pos) (mOp g ma mb) := by
  obtain ⟨r, h1, h2⟩ := h
  exact PE.imp (pe_op h1 ha hb) fun σ H Q q => op_run h2 q
theorem pd_cmp {op : CmpOp} {g : D → D → Option D} (h : OpD X (compareOp op) g) (ha : PEd X W io a ma) (hb : PEd X W io b mb) (hm : behindInMarks op b = false) : PEd X W io (.Compare a [op] [b] pos) (mOp g ma mb) := by
  obtain ⟨r, h1, h2⟩ := h
  exact PE.imp (pe_cmpR h1 ha hb hm) fun σ H Q q => op_run h2 q
/-- a flat answer -/
def flat : D → Bool
  | .non => true
  | .bl _ => true
  | .int _ => true
  | .str _ => true
  | _ => false
def toV : D → V
  | .bl b => .bl b
  | .int i => .int i
  | .str s => .str s
  | _ => .non
theorem flat_rp {K : PySem.W.Frag} {mg : Str → Option Value} {HB H : Hp} {d : D} (h : flat d = true) : Rp K mg HB H (toV d) d [] := by
  cases d with
  | non => exact .non
  | bl b => exact .bl b
  | int i => exact .int i
  | str s => exact .str s
  | _ => cases h
/-- of two ints -/
def onI (C : Int → Int → Prop) [∀ i j, Decidable (C i j)] (g : Int → Int → D) : D → D → Option D
  | .int i, .int j => if C i j then some (g i j) else none
  | _, _ => none
def onI0 (g : Int → Int → D) : D → D → Option D
  | .int i, .int j => some (g i j)
  | _, _ => none
theorem OpD.ints {f : Value → Value → Sem Value} {C : Int → Int → Prop} [∀ i j, Decidable (C i j)] {g : Int → Int → D} (h : OpR X f (rI C fun i j => toV (g i j))) (hf : ∀ i j, flat (g i j) = true) : OpD X f (onI C g) := by
  refine ⟨_, h, fun HB H x y d e z F G Q s rx ry hz hq => ?_⟩
  unfold onI at hz
  split at hz
  · split at hz
    · rename_i i j hc
      cases hz
      cases rx
      cases ry
      exact ⟨i, j, rfl, rfl, hc, hq _ HB H [] (Ext.refl s) (flat_rp (hf i j)) List.nodup_nil fun _ z => nomatch z⟩
    · cases hz
  · cases hz
theorem OpD.ints0 {f : Value → Value → Sem Value} {g : Int → Int → D} (h : OpR X f (rI0 fun i j => toV (g i j))) (hf : ∀ i j, flat (g i j) = true) : OpD X f (onI0 g) := by
  refine ⟨_, h, fun HB H x y d e z F G Q s rx ry hz hq => ?_⟩
  unfold onI0 at hz
  split at hz
  · rename_i i j
    cases hz
    cases rx
    cases ry
    exact ⟨i, j, rfl, rfl, hq _ HB H [] (Ext.refl s) (flat_rp (hf i j)) List.nodup_nil fun _ z => nomatch z⟩
  · cases hz
/-- a flat answer to any two -/
theorem OpD.flat {f : Value → Value → Sem Value} {r : R2} {g : D → D → Option D} (h : OpR X f r)
    (k : ∀ HB H x y d e z F G (Q : VK), Same HB H → Rp X.K X.mg HB H x d F → Rp X.K X.mg HB H y e G → g d e = some z → flat z = true ∧ (Q (toV z) H → r x y H Q)) : OpD X f g := by
  refine ⟨_, h, fun HB H x y d e z F G Q s rx ry hz hq => ?_⟩
  obtain ⟨h1, h2⟩ := k HB H x y d e z F G Q s rx ry hz
  exact h2 (hq _ HB H [] (Ext.refl s) (flat_rp h1) List.nodup_nil fun _ z => nomatch z)
/-- a new tuple or list of things that nobody else changes -/
theorem new_tup {K : PySem.W.Frag} {mg : Str → Option Value} {HB H : Hp} {xs : List V} {ds : List D} {p : Addr} (s : Same HB H) (r : Rps K mg HB H xs ds []) (n : H p = none) :
    Ext HB H (upd HB p (.tup xs)) (upd H p (.tup xs)) ∧ ∀ c, Rp K mg (upd HB p (.tup xs)) (upd H p (.tup xs)) (.ref p) (.tup c ds) [] := by
  have e := Ext.put (o := .tup xs) s n
  exact ⟨e, fun c => .tup (.inr upd_same) (SqT.of upd_same) (r.ext e)⟩
theorem new_lst {K : PySem.W.Frag} {mg : Str → Option Value} {HB H : Hp} {xs : List V} {ds : List D} {F : List Addr} {p : Addr} (s : Same HB H) (r : Rps K mg HB H xs ds F) (n : H p = none) :
    Ext HB H HB (upd H p (.lst xs)) ∧ Rp K mg HB (upd H p (.lst xs)) (.ref p) (.lst .own ds) (p :: F) := by
  have e := Ext.lay (o := .lst xs) s n
  exact ⟨e, .own upd_same (r.ext e)⟩
theorem Rps.length {K : PySem.W.Frag} {mg : Str → Option Value} {HB H : Hp} : ∀ {vs : List V} {ds : List D} {F : List Addr}, Rps K mg HB H vs ds F → vs.length = ds.length
  | _, _, _, .nil => rfl
  | _, _, _, .cons _ r => by rw [List.length_cons, List.length_cons, Rps.length r]
theorem Rps.append {K : PySem.W.Frag} {mg : Str → Option Value} {HB H : Hp} : ∀ {vs ws : List V} {ds es : List D} {F G : List Addr}, Rps K mg HB H vs ds F → Rps K mg HB H ws es G → Rps K mg HB H (vs ++ ws) (ds ++ es) (F ++ G)
  | _, _, _, _, _, _, .nil, s => s
  | _, _, _, _, _, _, .cons h r, s => by rw [List.append_assoc]; exact .cons h (Rps.append r s)
theorem line_of {n : Nat} (h : n ≤ 1000000) : n ≤ sizeLine := by rw [sizeLine_eq]; omega
/-- the items of a list that may be read off the heap -/
theorem Rp.lstAt {K : PySem.W.Frag} {mg : Str → Option Value} {HB H : Hp} {v : V} {o : Ow} {ds : List D} {F : List Addr} (s : Same HB H) (r : Rp K mg HB H v (.lst o ds) F) (ho : o ≠ .fix) : ∃ a xs G, v = .ref a ∧ H a = some (.lst xs) ∧ Rps K mg HB H xs ds G := by
  cases r with
  | lst h r => exact ⟨_, _, _, rfl, s _ _ h, r⟩
  | fix h r => exact absurd rfl ho
  | own h r => exact ⟨_, _, _, rfl, h, r⟩
theorem Rp.lstS {K : PySem.W.Frag} {mg : Str → Option Value} {HB H : Hp} {v : V} {o : Ow} {ds : List D} {F : List Addr} (s : Same HB H) (r : Rp K mg HB H v (.lst o ds) F) : ∃ a xs G, v = .ref a ∧ SqL K H a xs ∧ Rps K mg HB H xs ds G := by
  cases r with
  | lst h r => exact ⟨_, _, _, rfl, SqL.of (s _ _ h), r⟩
  | fix h r => exact ⟨_, _, _, rfl, s.seq h, r⟩
  | own h r => exact ⟨_, _, _, rfl, SqL.of h, r⟩
theorem Rp.tupS {K : PySem.W.Frag} {mg : Str → Option Value} {HB H : Hp} {v : V} {c : Bool} {ds : List D} {F : List Addr} (s : Same HB H) (r : Rp K mg HB H v (.tup c ds) F) : ∃ a xs, v = .ref a ∧ SqT K H a xs ∧ Rps K mg HB H xs ds F := by
  cases r with
  | tup q h r => exact ⟨_, _, rfl, same_seqT s h, r⟩

/-! ### + - * and their kin -/
def gCatL : D → D → Option D
  | .lst o ds, .lst o' es => if o ≠ .fix ∧ o' ≠ .fix ∧ noOwns ds = true ∧ noOwns es = true ∧ ds.length + es.length ≤ 1000000 then some (.lst .own (ds ++ es)) else none
  | _, _ => none
def gCatT : D → D → Option D
  | .tup false ds, .tup false es => if noOwns ds = true ∧ noOwns es = true ∧ ds.length + es.length ≤ 1000000 then some (.tup false (ds ++ es)) else none
  | _, _ => none
def gCatS : D → D → Option D
  | .str s, .str t => if s.length + t.length ≤ 1000000 then some (.str (s ++ t)) else none
  | _, _ => none
theorem od_catL : OpD X (binaryOp .Add) gCatL := by
  refine ⟨_, op_cat, fun HB H x y d e z F G Q s rx ry hz hq => ?_⟩
  unfold gCatL at hz
  split at hz
  · split at hz
    · rename_i o ds o' es hc
      obtain ⟨h1, h2, n1, n2, hl⟩ := hc
      cases hz
      obtain ⟨a, xs, F1, rfl, ha, ra⟩ := rx.lstAt s h1
      obtain ⟨b, ys, G1, rfl, hb, rb⟩ := ry.lstAt s h2
      have e1 := ra.none n1
      have e2 := rb.none n2
      subst e1 e2
      refine ⟨a, b, xs, ys, rfl, rfl, ha, hb, line_of (by rw [ra.length, rb.length]; exact hl), fun p np => ?_⟩
      obtain ⟨x1, r1⟩ := new_lst s (ra.append rb) np
      exact hq _ _ _ _ x1 r1 (by simp) fun a ha => by
        have : a = p := by simpa using ha
        subst this
        exact ⟨np, s.free np⟩
    · cases hz
  · cases hz
theorem od_catS : OpD X (binaryOp .Add) gCatS := OpD.flat op_add_str fun HB H x y d e z F G Q s rx ry hz => by
  unfold gCatS at hz
  split at hz
  · split at hz
    · rename_i hc
      cases hz
      cases rx
      cases ry
      exact ⟨rfl, fun q => ⟨_, _, rfl, rfl, line_of hc, q⟩⟩
    · cases hz
  · cases hz
end
end Fx

set_option maxHeartbeats 2000000
namespace Fx
open PySem PySem.Spec PyProof.Rows L2

/-! ### equality -/
mutual
def py : D → PyData
  | .non => .none
  | .bl b => .bool b
  | .int i => .int i
  | .str s => .str s
  | .tup _ ds => .tuple (pys ds)
  | .lst _ ds => .list (pys ds)
  | _ => .none
def pys : List D → List PyData
  | [] => []
  | d :: ds => py d :: pys ds
end
mutual
def okPy : D → Bool
  | .tup _ ds => okPys ds
  | .lst _ ds => okPys ds
  | .fn _ => false
  | .ty _ => false
  | .dic _ _ => false
  | .dit _ _ => false
  | _ => true
def okPys : List D → Bool
  | [] => true
  | d :: ds => okPy d && okPys ds
end
mutual
theorem plain_py : ∀ d : D, (py d).plain = true
  | .non => by simp [py, PyData.plain]
  | .bl _ => by simp [py, PyData.plain]
  | .int _ => by simp [py, PyData.plain]
  | .str _ => by simp [py, PyData.plain]
  | .tup _ ds => by simp only [py, PyData.plain]; exact plain_pys ds
  | .lst _ ds => by simp only [py, PyData.plain]; exact plain_pys ds
  | .fn _ => by simp [py, PyData.plain]
  | .ty _ => by simp [py, PyData.plain]
  | .dic _ _ => by simp [py, PyData.plain]
  | .dit _ _ => by simp [py, PyData.plain]
theorem plain_pys : ∀ ds : List D, PyData.plainAll (pys ds) = true
  | [] => by simp [pys, PyData.plainAll]
  | d :: ds => by simp only [pys, PyData.plainAll, plain_py d, plain_pys ds, Bool.and_self]
end
section
variable {K : PySem.W.Frag} {mg : Str → Option Value} {HB H : Hp}
mutual
theorem Rp.dp (s : Same HB H) : ∀ {v : V} {d : D} {F : List Addr}, Rp K mg HB H v d F → okPy d = true → Dp K H v (py d)
  | _, _, _, .non, _ => by simp only [py]; exact .non
  | _, _, _, .bl b, _ => by simp only [py]; exact .bl b
  | _, _, _, .int i, _ => by simp only [py]; exact .int i
  | _, _, _, .str x, _ => by simp only [py]; exact .str x
  | _, _, _, .ty _, n => by simp [okPy] at n
  | _, _, _, .fn _, n => by simp [okPy] at n
  | _, _, _, .tup _ h r, n => by simp only [py]; exact .tup (same_seqT s h) (Rps.dp s r (by simpa only [okPy] using n))
  | _, _, _, .lst h r, n => by simp only [py]; exact .lst (SqL.of (s _ _ h)) (Rps.dp s r (by simpa only [okPy] using n))
  | _, _, _, .fix h r, n => by simp only [py]; exact .lst (s.seq h) (Rps.dp s r (by simpa only [okPy] using n))
  | _, _, _, .own h r, n => by simp only [py]; exact .lst (SqL.of h) (Rps.dp s r (by simpa only [okPy] using n))
  | _, _, _, .dic _ _ _, n => by simp [okPy] at n
  | _, _, _, .dicO _ _ _, n => by simp [okPy] at n
  | _, _, _, .dit _ _ _, n => by simp [okPy] at n
  | _, _, _, .ditO _ _ _, n => by simp [okPy] at n
theorem Rps.dp (s : Same HB H) : ∀ {vs : List V} {ds : List D} {F : List Addr}, Rps K mg HB H vs ds F → okPys ds = true → DpAll K H vs (pys ds)
  | _, _, _, .nil, _ => by simp only [pys]; exact .nil
  | _, _, _, .cons h r, n => by
    simp only [okPys, Bool.and_eq_true] at n
    simp only [pys]
    exact .cons (Rp.dp s h n.1) (Rps.dp s r n.2)
end
end
def eqD (d e : D) : Bool := PyData.eqv (py d) (py e)
def eqOk (d e : D) : Bool := okPy d && okPy e && decide (min (py d).depth (py e).depth ≤ 60)
def gEq : D → D → Option D := fun d e => if eqOk d e = true then some (.bl (eqD d e)) else none
def gNe : D → D → Option D := fun d e => if eqOk d e = true then some (.bl (!eqD d e)) else none
section
variable {X : Cx}
def rEqP (K : PySem.W.Frag) (f : Bool → Bool) : R2 := fun x y H Q => ∃ d e, Dp K H x d ∧ Dp K H y e ∧ d.plain = true ∧ e.plain = true ∧ min d.depth e.depth ≤ 60 ∧ Q (.bl (f (PyData.eqv d e))) H
theorem op_eqP (hu : X.A.units + 65 < cLine) : OpR X (compareOp .Eq) (rEqP X.K fun b => b) := by
  intro pins s σ H x y v u Q I rx ry ⟨d, e, hd, he, pd, pe, hm, q⟩
  obtain ⟨as, r1⟩ := Dp.reads I d x v hd rx
  obtain ⟨bs, r2⟩ := Dp.reads I e y u he ry
  exact SeqAt.eq_plain r1 r2 pd pe (by omega) ⟨.bl _, H, I, rfl, q⟩
theorem op_neP (hu : X.A.units + 65 < cLine) : OpR X (compareOp .NotEq) (rEqP X.K fun b => !b) := by
  intro pins s σ H x y v u Q I rx ry ⟨d, e, hd, he, pd, pe, hm, q⟩
  obtain ⟨as, r1⟩ := Dp.reads I d x v hd rx
  obtain ⟨bs, r2⟩ := Dp.reads I e y u he ry
  exact SeqAt.ne_plain r1 r2 pd pe (by omega) ⟨.bl _, H, I, rfl, q⟩
theorem eqP_ok {f : Bool → Bool} {HB H : Hp} {x y : V} {d e : D} {F G : List Addr} {Q : VK} (s : Same HB H) (rx : Rp X.K X.mg HB H x d F) (ry : Rp X.K X.mg HB H y e G) (h : eqOk d e = true) (q : Q (.bl (f (eqD d e))) H) : rEqP X.K f x y H Q := by
  unfold eqOk at h
  simp only [Bool.and_eq_true, decide_eq_true_eq] at h
  exact ⟨_, _, rx.dp s h.1.1, ry.dp s h.1.2, plain_py _, plain_py _, h.2, q⟩
theorem od_eq (hu : X.A.units + 65 < cLine) : OpD X (compareOp .Eq) gEq := OpD.flat (op_eqP hu) fun HB H x y d e z F G Q s rx ry hz => by
  unfold gEq at hz
  split at hz
  · rename_i h
    cases hz
    exact ⟨rfl, fun q => eqP_ok s rx ry h q⟩
  · cases hz
theorem od_ne (hu : X.A.units + 65 < cLine) : OpD X (compareOp .NotEq) gNe := OpD.flat (op_neP hu) fun HB H x y d e z F G Q s rx ry hz => by
  unfold gNe at hz
  split at hz
  · rename_i h
    cases hz
    exact ⟨rfl, fun q => eqP_ok s rx ry h q⟩
  · cases hz

/-! ### in -/
def gIn (f : Bool → Bool) : D → D → Option D
  | d, .lst _ es => if okPy d = true ∧ okPys es = true ∧ min (PyData.depthAll (pys es)) (py d).depth ≤ 60 then some (.bl (f (es.any fun e => eqD e d))) else none
  | d, .tup _ es => if okPy d = true ∧ okPys es = true ∧ min (PyData.depthAll (pys es)) (py d).depth ≤ 60 then some (.bl (f (es.any fun e => eqD e d))) else none
  | .str s, .str t => some (.bl (f (!(Builtin.Str.occurrences t s 0 t.length 1).isEmpty)))
  | _, _ => none
theorem any_pys (d : D) : ∀ es : List D, ((pys es).any fun y => PyData.eqv y (py d)) = es.any fun e => eqD e d
  | [] => by simp [pys]
  | e :: es => by simp only [pys, List.any_cons, any_pys d es]; rfl
def rInP (K : PySem.W.Frag) (f : Bool → Bool) : R2 := fun x y H Q =>
  (∃ d es, Dp K H x d ∧ Dp K H y (.list es) ∧ d.plain = true ∧ PyData.plainAll es = true ∧ min (PyData.depthAll es) d.depth ≤ 60 ∧ Q (.bl (f (es.any fun y => PyData.eqv y d))) H) ∨
  (∃ d es, Dp K H x d ∧ Dp K H y (.tuple es) ∧ d.plain = true ∧ PyData.plainAll es = true ∧ min (PyData.depthAll es) d.depth ≤ 60 ∧ Q (.bl (f (es.any fun y => PyData.eqv y d))) H) ∨
  ∃ i j, x = .str i ∧ y = .str j ∧ Q (.bl (f (!(Builtin.Str.occurrences j i 0 j.length 1).isEmpty))) H
theorem op_inP (hu : X.A.units + 65 < cLine) : OpR X (compareOp .In) (rInP X.K fun b => b) := by
  intro pins s σ H x y v u Q I rx ry h
  rcases h with ⟨d, es, hd, he, pd, pe, hm, q⟩ | ⟨d, es, hd, he, pd, pe, hm, q⟩ | h
  · obtain ⟨as, r1⟩ := Dp.reads I d x v hd rx
    obtain ⟨bs, r2⟩ := Dp.reads I _ y u he ry
    exact SeqAt.in_list_data r2 r1 pe pd (by omega) ⟨.bl _, H, I, rfl, q⟩
  · obtain ⟨as, r1⟩ := Dp.reads I d x v hd rx
    obtain ⟨bs, r2⟩ := Dp.reads I _ y u he ry
    exact SeqAt.in_tuple_data r2 r1 pe pd (by omega) ⟨.bl _, H, I, rfl, q⟩
  · exact op_in_str pins s σ H x y v u Q I rx ry h
theorem op_notInP (hu : X.A.units + 65 < cLine) : OpR X (compareOp .NotIn) (rInP X.K fun b => !b) := by
  intro pins s σ H x y v u Q I rx ry h
  rcases h with ⟨d, es, hd, he, pd, pe, hm, q⟩ | ⟨d, es, hd, he, pd, pe, hm, q⟩ | h
  · obtain ⟨as, r1⟩ := Dp.reads I d x v hd rx
    obtain ⟨bs, r2⟩ := Dp.reads I _ y u he ry
    exact SeqAt.notIn_list_data r2 r1 pe pd (by omega) ⟨.bl _, H, I, rfl, q⟩
  · obtain ⟨as, r1⟩ := Dp.reads I d x v hd rx
    obtain ⟨bs, r2⟩ := Dp.reads I _ y u he ry
    exact SeqAt.notIn_tuple_data r2 r1 pe pd (by omega) ⟨.bl _, H, I, rfl, q⟩
  · exact op_notin_str pins s σ H x y v u Q I rx ry h
theorem inP_ok {f : Bool → Bool} {HB H : Hp} {x y : V} {d e z : D} {F G : List Addr} {Q : VK} (s : Same HB H) (rx : Rp X.K X.mg HB H x d F) (ry : Rp X.K X.mg HB H y e G) (h : gIn f d e = some z) : flat z = true ∧ (Q (toV z) H → rInP X.K f x y H Q) := by
  unfold gIn at h
  split at h
  · split at h
    · rename_i o es hc
      cases h
      refine ⟨rfl, fun q => .inl ⟨py d, pys es, rx.dp s hc.1, ?_, plain_py _, plain_pys _, hc.2.2, by rw [any_pys]; exact q⟩⟩
      have := ry.dp s (by simp only [okPy]; exact hc.2.1)
      simpa only [py] using this
    · cases h
  · split at h
    · rename_i es hc
      cases h
      refine ⟨rfl, fun q => .inr (.inl ⟨py d, pys es, rx.dp s hc.1, ?_, plain_py _, plain_pys _, hc.2.2, by rw [any_pys]; exact q⟩)⟩
      have := ry.dp s (by simp only [okPy]; exact hc.2.1)
      simpa only [py] using this
    · cases h
  · cases h
    cases rx
    cases ry
    exact ⟨rfl, fun q => .inr (.inr ⟨_, _, rfl, rfl, q⟩)⟩
  · cases h
theorem od_in (hu : X.A.units + 65 < cLine) : OpD X (compareOp .In) (gIn fun b => b) := OpD.flat (op_inP hu) fun _ _ _ _ _ _ _ _ _ _ s rx ry hz => inP_ok s rx ry hz
theorem od_notIn (hu : X.A.units + 65 < cLine) : OpD X (compareOp .NotIn) (gIn fun b => !b) := OpD.flat (op_notInP hu) fun _ _ _ _ _ _ _ _ _ _ s rx ry hz => inP_ok s rx ry hz

/-! ### is -/
def isNon : D → Bool
  | .non => true
  | _ => false
def isBl (b : Bool) : D → Bool
  | .bl c => decide (c = b)
  | _ => false
def gIs (f : Bool → Bool) : D → D → Option D
  | d, .non => some (.bl (f (isNon d)))
  | d, .bl b => some (.bl (f (isBl b d)))
  | _, _ => none
def rIsNB (f : Bool → Bool) : R2 := fun x y H Q => (y = .non ∧ Q (.bl (f (decide (x = .non)))) H) ∨ ∃ b, y = .bl b ∧ Q (.bl (f (decide (x = .bl b)))) H
theorem op_isNB : OpR X (compareOp .Is) (rIsNB fun b => b) := by
  intro pins s σ H x y v u Q I rx ry h
  rcases h with h | ⟨b, rfl, q⟩
  · exact op_isN pins s σ H x y v u Q I rx ry h
  · cases (show u = Value.bool b from ry)
    cases x with
    | bl a => exact op_isBl pins s σ H (V.bl a) (V.bl b) v (Value.bool b) Q I rx rfl ⟨a, b, rfl, rfl, by simpa using q⟩
    | non => cases (show v = Value.none from rx); exact wpAny_is_other rfl (fun z => nomatch z) ⟨.bl false, H, I, rfl, by simpa using q⟩
    | int i => obtain ⟨t, rfl⟩ := (show ∃ t, v = Value.int i t from rx); exact wpAny_is_other rfl (fun z => nomatch z) ⟨.bl false, H, I, rfl, by simpa using q⟩
    | str i => obtain ⟨t, rfl⟩ := (show ∃ t, v = Value.str i t from rx); exact wpAny_is_other rfl (fun z => nomatch z) ⟨.bl false, H, I, rfl, by simpa using q⟩
    | byt i => obtain ⟨t, rfl⟩ := (show ∃ t, v = Value.bytes i t from rx); exact wpAny_is_other rfl (fun z => nomatch z) ⟨.bl false, H, I, rfl, by simpa using q⟩
    | flt i => obtain ⟨t, rfl⟩ := (show ∃ t, v = Value.float i t from rx); exact wpAny_is_other rfl (fun z => nomatch z) ⟨.bl false, H, I, rfl, by simpa using q⟩
    | ref i => cases (show v = Value.ref i from rx); exact wpAny_is_other rfl (fun z => nomatch z) ⟨.bl false, H, I, rfl, by simpa using q⟩
    | ty i => cases (show v = Value.type i from rx); exact wpAny_is_other rfl (fun z => nomatch z) ⟨.bl false, H, I, rfl, by simpa using q⟩
theorem op_isnotNB : OpR X (compareOp .IsNot) (rIsNB fun b => !b) := by
  intro pins s σ H x y v u Q I rx ry h
  rcases h with h | ⟨b, rfl, q⟩
  · exact op_notN pins s σ H x y v u Q I rx ry h
  · cases (show u = Value.bool b from ry)
    cases x with
    | bl a => exact op_notBl pins s σ H (V.bl a) (V.bl b) v (Value.bool b) Q I rx rfl ⟨a, b, rfl, rfl, by simpa using q⟩
    | non => cases (show v = Value.none from rx); exact wpAny_isNot_other rfl (fun z => nomatch z) ⟨.bl true, H, I, rfl, by simpa using q⟩
    | int i => obtain ⟨t, rfl⟩ := (show ∃ t, v = Value.int i t from rx); exact wpAny_isNot_other rfl (fun z => nomatch z) ⟨.bl true, H, I, rfl, by simpa using q⟩
    | str i => obtain ⟨t, rfl⟩ := (show ∃ t, v = Value.str i t from rx); exact wpAny_isNot_other rfl (fun z => nomatch z) ⟨.bl true, H, I, rfl, by simpa using q⟩
    | byt i => obtain ⟨t, rfl⟩ := (show ∃ t, v = Value.bytes i t from rx); exact wpAny_isNot_other rfl (fun z => nomatch z) ⟨.bl true, H, I, rfl, by simpa using q⟩
    | flt i => obtain ⟨t, rfl⟩ := (show ∃ t, v = Value.float i t from rx); exact wpAny_isNot_other rfl (fun z => nomatch z) ⟨.bl true, H, I, rfl, by simpa using q⟩
    | ref i => cases (show v = Value.ref i from rx); exact wpAny_isNot_other rfl (fun z => nomatch z) ⟨.bl true, H, I, rfl, by simpa using q⟩
    | ty i => cases (show v = Value.type i from rx); exact wpAny_isNot_other rfl (fun z => nomatch z) ⟨.bl true, H, I, rfl, by simpa using q⟩
theorem rp_isNon {K : PySem.W.Frag} {mg : Str → Option Value} {HB H : Hp} {v : V} {d : D} {F : List Addr} (r : Rp K mg HB H v d F) : decide (v = .non) = isNon d := by
  cases r <;> simp [isNon]
theorem rp_isBl {K : PySem.W.Frag} {mg : Str → Option Value} {HB H : Hp} {v : V} {d : D} {F : List Addr} (b : Bool) (r : Rp K mg HB H v d F) : decide (v = .bl b) = isBl b d := by
  cases r <;> simp [isBl]
theorem isNB_ok {f : Bool → Bool} {HB H : Hp} {x y : V} {d e z : D} {F G : List Addr} {Q : VK} (rx : Rp X.K X.mg HB H x d F) (ry : Rp X.K X.mg HB H y e G) (h : gIs f d e = some z) : flat z = true ∧ (Q (toV z) H → rIsNB f x y H Q) := by
  unfold gIs at h
  split at h
  · cases h
    cases ry
    exact ⟨rfl, fun q => .inl ⟨rfl, by rw [rp_isNon rx]; exact q⟩⟩
  · cases h
    cases ry
    exact ⟨rfl, fun q => .inr ⟨_, rfl, by rw [rp_isBl _ rx]; exact q⟩⟩
  · cases h
theorem od_is : OpD X (compareOp .Is) (gIs fun b => b) := OpD.flat op_isNB fun _ _ _ _ _ _ _ _ _ _ _ rx ry hz => isNB_ok rx ry hz
theorem od_isNot : OpD X (compareOp .IsNot) (gIs fun b => !b) := OpD.flat op_isnotNB fun _ _ _ _ _ _ _ _ _ _ _ rx ry hz => isNB_ok rx ry hz
end
end Fx

set_option maxHeartbeats 2000000
namespace Fx
open PySem PySem.Spec PyProof.Rows L2
section
variable {X : Cx} {W : WX} {io : Bool} {a b c e : Expr} {es : List Expr} {ma mb mc m : EM} {pos : Pos}
/-! ### + - * // % ** >> << & -/
theorem od_catT : OpD X (binaryOp .Add) gCatT := by
  refine ⟨_, op_catA, fun HB H x y d e z F G Q s rx ry hz hq => ?_⟩
  unfold gCatT at hz
  split at hz
  · split at hz
    · rename_i ds es hc
      obtain ⟨n1, n2, hl⟩ := hc
      cases hz
      obtain ⟨a, xs, rfl, ha, ra⟩ := rx.tupS s
      obtain ⟨b, ys, rfl, hb, rb⟩ := ry.tupS s
      have e1 := ra.none n1
      have e2 := rb.none n2
      subst e1 e2
      refine ⟨a, b, xs, ys, rfl, rfl, ha, hb, line_of (by rw [ra.length, rb.length]; exact hl), fun hx => ?_, fun hx hy => ?_, fun _ _ p np => ?_⟩
      · have : ds = [] := List.eq_nil_of_length_eq_zero (by rw [← ra.length, hx]; rfl)
        subst this
        exact hq _ _ _ _ (Ext.refl s) ry List.nodup_nil fun _ z => nomatch z
      · have : es = [] := List.eq_nil_of_length_eq_zero (by rw [← rb.length, hy]; rfl)
        subst this
        rw [List.append_nil] at hq
        exact hq _ _ _ _ (Ext.refl s) rx List.nodup_nil fun _ z => nomatch z
      · obtain ⟨x1, r1⟩ := new_tup s (ra.append rb) np
        exact hq _ _ _ _ x1 (r1 _) List.nodup_nil fun _ z => nomatch z
    · cases hz
  · cases hz
def gAdd : D → D → Option D
  | .int i, .int j => some (.int (i + j))
  | .str s, .str t => gCatS (.str s) (.str t)
  | .lst o ds, .lst o' es => gCatL (.lst o ds) (.lst o' es)
  | .tup c ds, .tup c' es => gCatT (.tup c ds) (.tup c' es)
  | _, _ => none
theorem od_add : OpD X (binaryOp .Add) gAdd := ((OpD.ints0 (g := fun i j => .int (i + j)) op_add fun _ _ => rfl).or (od_catS.or (od_catL.or od_catT))).imp fun d e z h => by
  unfold gAdd at h
  unfold gOr
  split at h
  · simpa [onI0] using h
  · simp only [onI0]; rw [h]
  · simp only [onI0, gCatS]; rw [h]
  · simp only [onI0, gCatS, gCatL]; rw [h]
  · cases h
def gSub : D → D → Option D := onI0 fun i j => .int (i - j)
theorem od_sub : OpD X (binaryOp .Sub) gSub := OpD.ints0 (g := fun i j => .int (i - j)) op_sub fun _ _ => rfl
instance : ∀ i j, Decidable (CMul i j) := fun i j => inferInstanceAs (Decidable ((-(2 ^ 64) < i ∧ i < 2 ^ 64) ∨ (-(2 ^ 64) < j ∧ j < 2 ^ 64)))
instance : ∀ i j, Decidable (CDivN i j) := fun i j => inferInstanceAs (Decidable (j ≠ 0 ∧ j.natAbs < 1073741824))
instance : ∀ i j, Decidable (CPow i j) := fun i j => inferInstanceAs (Decidable (0 ≤ j ∧ j ≤ 1000000 ∧ i.natAbs < 2 ^ 64))
/-- a text a few times -/
def rMulS : R2 := fun x y H Q => ∃ s i, x = .str s ∧ y = .int i ∧ 0 ≤ i ∧ i ≤ 1000 ∧ s.length ≤ 1000 ∧ Q (.str (Txt.mul s i)) H
theorem op_mulS : OpR X (binaryOp .Mult) rMulS := by
  intro pins s σ H x y v u Q I rx ry ⟨z, i, e1, e2, h0, h1, h2, q⟩
  subst e1 e2
  obtain ⟨t, rfl⟩ := (show ∃ t, v = Value.str z t from rx)
  obtain ⟨t', rfl⟩ := (show ∃ t, u = Value.int i t from ry)
  have hm : (z.length : Int) * i ≤ 1000000 := by
    have a1 : (z.length : Int) * i ≤ 1000 * i := Int.mul_le_mul_of_nonneg_right (by omega) (by omega)
    omega
  refine SB.mul ⟨?_, fun h3 _ => ?_, fun h3 _ => ?_⟩ fun t' k => ⟨.str _, H, I.tok k, ⟨_, rfl⟩, q⟩
  · simp only [Bool.or_eq_false_iff, decide_eq_false_iff_not]; omega
  · have : (2 ^ 63 - 1) / i ≥ (2 ^ 63 - 1) / 1000 := by
      apply Int.le_ediv_of_mul_le (by omega)
      have a1 : (2 ^ 63 - 1) / 1000 * i ≤ (2 ^ 63 - 1) / 1000 * 1000 := Int.mul_le_mul_of_nonneg_left h1 (by decide)
      omega
    omega
  · have hn : z.length * i.toNat ≤ 1000000 := by
      have a1 : z.length * i.toNat ≤ 1000 * 1000 := Nat.mul_le_mul h2 (by omega)
      omega
    exact decide_eq_false (by rw [sizeLine_eq]; omega)
def gMul : D → D → Option D
  | .int i, .int j => if CMul i j then some (.int (i * j)) else none
  | .str z, .int i => if 0 ≤ i ∧ i ≤ 1000 ∧ z.length ≤ 1000 then some (.str (Txt.mul z i)) else none
  | .lst o ds, .int k => if o ≠ .fix ∧ noOwns ds = true ∧ 0 ≤ k ∧ k ≤ 1000 ∧ ds.length ≤ 1000 then some (.lst .own (List.replicate k.toNat ds).flatten) else none
  | .tup _ ds, .int k => if noOwns ds = true ∧ ds ≠ [] ∧ 2 ≤ k ∧ k ≤ 1000 ∧ ds.length ≤ 1000 then some (.tup false (List.replicate k.toNat ds).flatten) else none
  | _, _ => none
def gMulS : D → D → Option D
  | .str z, .int i => if 0 ≤ i ∧ i ≤ 1000 ∧ z.length ≤ 1000 then some (.str (Txt.mul z i)) else none
  | _, _ => none
def gMulL : D → D → Option D
  | .lst o ds, .int k => if o ≠ .fix ∧ noOwns ds = true ∧ 0 ≤ k ∧ k ≤ 1000 ∧ ds.length ≤ 1000 then some (.lst .own (List.replicate k.toNat ds).flatten) else none
  | _, _ => none
def gMulT : D → D → Option D
  | .tup _ ds, .int k => if noOwns ds = true ∧ ds ≠ [] ∧ 2 ≤ k ∧ k ≤ 1000 ∧ ds.length ≤ 1000 then some (.tup false (List.replicate k.toNat ds).flatten) else none
  | _, _ => none
theorem Rps.rep {K : PySem.W.Frag} {mg : Str → Option Value} {HB H : Hp} {vs : List V} {ds : List D} (r : Rps K mg HB H vs ds []) : ∀ n : Nat, Rps K mg HB H (List.replicate n vs).flatten (List.replicate n ds).flatten []
  | 0 => .nil
  | n + 1 => by
    rw [List.replicate_succ, List.replicate_succ, List.flatten_cons, List.flatten_cons]
    exact r.append (Rps.rep r n)
theorem rep_len {α : Type} (xs : List α) {k : Int} (h1 : k ≤ 1000) (h2 : xs.length ≤ 1000) : xs.length * k.toNat ≤ 1000000 := by
  have a1 : xs.length * k.toNat ≤ 1000 * 1000 := Nat.mul_le_mul h2 (by omega)
  omega
theorem od_mulL : OpD X (binaryOp .Mult) gMulL := by
  refine ⟨_, op_rep, fun HB H x y d e z F G Q s rx ry hz hq => ?_⟩
  unfold gMulL at hz
  split at hz
  · split at hz
    · rename_i o ds k hc
      obtain ⟨h1, n1, h2, h3, hl⟩ := hc
      cases hz
      cases ry
      obtain ⟨a, xs, F1, rfl, ha, ra⟩ := rx.lstAt s h1
      have e1 := ra.none n1
      subst e1
      refine ⟨a, k, xs, rfl, rfl, ha, by omega, by omega, line_of (rep_len xs h3 (by rw [ra.length]; exact hl)), fun p np => ?_⟩
      obtain ⟨x1, r1⟩ := new_lst s (ra.rep k.toNat) np
      exact hq _ _ _ _ x1 r1 (by simp) fun a ha => by
        have : a = p := by simpa using ha
        subst this
        exact ⟨np, s.free np⟩
    · cases hz
  · cases hz
theorem od_mulT : OpD X (binaryOp .Mult) gMulT := by
  refine ⟨_, op_repT, fun HB H x y d e z F G Q s rx ry hz hq => ?_⟩
  unfold gMulT at hz
  split at hz
  · split at hz
    · rename_i ds k hc
      obtain ⟨n1, hne, h2, h3, hl⟩ := hc
      cases hz
      cases ry
      obtain ⟨a, xs, rfl, ha, ra⟩ := rx.tupS s
      have e1 := ra.none n1
      subst e1
      refine ⟨a, k, xs, rfl, rfl, ha, fun q => hne (List.eq_nil_of_length_eq_zero (by rw [← ra.length, q]; rfl)), h2, h3, (by rw [ra.length]; exact hl), fun p np => ?_⟩
      obtain ⟨x1, r1⟩ := new_tup s (ra.rep k.toNat) np
      exact hq _ _ _ _ x1 (r1 _) List.nodup_nil fun _ z => nomatch z
    · cases hz
  · cases hz
theorem od_mulS : OpD X (binaryOp .Mult) gMulS := OpD.flat op_mulS fun HB H x y d e z F G Q s rx ry hz => by
  unfold gMulS at hz
  split at hz
  · split at hz
    · rename_i hc
      cases hz
      cases rx
      cases ry
      exact ⟨rfl, fun q => ⟨_, _, rfl, rfl, hc.1, hc.2.1, hc.2.2, q⟩⟩
    · cases hz
  · cases hz
theorem od_mul : OpD X (binaryOp .Mult) gMul := ((OpD.ints (g := fun i j => .int (i * j)) op_mul fun _ _ => rfl).or (od_mulS.or (od_mulL.or od_mulT))).imp fun d e z h => by
  unfold gMul at h
  unfold gOr
  split at h
  · simp only [onI]; rw [h]
  · simp only [onI, gMulS]; rw [h]
  · simp only [onI, gMulS, gMulL]; rw [h]
  · simp only [onI, gMulS, gMulL, gMulT]; rw [h]
  · cases h
def gMod : D → D → Option D := onI (fun _ j => j ≠ 0) fun i j => .int (i.fmod j)
theorem od_mod : OpD X (binaryOp .Mod) gMod := OpD.ints (g := fun i j => .int (i.fmod j)) op_modN fun _ _ => rfl
def gDiv : D → D → Option D := onI CDivN fun i j => .int (i.fdiv j)
theorem od_div : OpD X (binaryOp .FloorDiv) gDiv := OpD.ints (g := fun i j => .int (i.fdiv j)) op_fdivN fun _ _ => rfl
def gPow : D → D → Option D := onI CPow fun i j => .int (i ^ j.toNat)
theorem od_pow : OpD X (binaryOp .Pow) gPow := OpD.ints (g := fun i j => .int (i ^ j.toNat)) op_pow fun _ _ => rfl
def gShr : D → D → Option D := onI (fun _ j => 0 ≤ j) fun i j => .int (i / 2 ^ j.toNat)
theorem od_shr : OpD X (binaryOp .RShift) gShr := OpD.ints (g := fun i j => .int (i / 2 ^ j.toNat)) op_shr fun _ _ => rfl
def gShl : D → D → Option D := onI CPow fun i j => .int (i * 2 ^ j.toNat)
theorem od_shl : OpD X (binaryOp .LShift) gShl := OpD.ints (g := fun i j => .int (i * 2 ^ j.toNat)) op_shl fun _ _ => rfl
def gAnd : D → D → Option D := onI0 fun i j => .int (Builtin.bitAnd i j)
theorem od_and : OpD X (binaryOp .BitAnd) gAnd := OpD.ints0 (g := fun i j => .int (Builtin.bitAnd i j)) op_and fun _ _ => rfl

/-! ### order -/
def intsOf : List D → Option (List Int)
  | [] => some []
  | .int i :: r => (intsOf r).map (i :: ·)
  | _ :: _ => none
theorem Rps.ints {K : PySem.W.Frag} {mg : Str → Option Value} {HB H : Hp} : ∀ {vs : List V} {ds : List D} {F : List Addr} {ns : List Int}, Rps K mg HB H vs ds F → intsOf ds = some ns → vs = ns.map V.int
  | _, _, _, _, .nil, h => by cases h; rfl
  | _, _, _, _, .cons h r, k => by
    cases h <;> simp only [intsOf, Option.map_eq_some_iff] at k <;> try cases k
    rename_i ns' hk
    obtain ⟨h1, rfl⟩ := hk
    rw [List.map_cons, Rps.ints r h1]
def onT (g : List Int → List Int → Bool) : D → D → Option D
  | .tup _ ds, .tup _ es => match intsOf ds, intsOf es with
    | some ns, some ms => some (.bl (g ns ms))
    | _, _ => none
  | _, _ => none
theorem OpD.tups {f : Value → Value → Sem Value} {g : List Int → List Int → Bool} {r : R2} (h : OpR X f r)
    (hr : ∀ (x y : V) (H : Hp) (Q : VK) (a b : Addr) (ns ms : List Int), x = .ref a → y = .ref b → SqT X.K H a (ns.map V.int) → SqT X.K H b (ms.map V.int) → Q (.bl (g ns ms)) H → r x y H Q) : OpD X f (onT g) := OpD.flat h fun HB H x y d e z F G Q s rx ry hz => by
  unfold onT at hz
  split at hz
  · rename_i ds es
    split at hz
    · rename_i ns ms h1 h2
      cases hz
      obtain ⟨a, xs, rfl, ha, ra⟩ := rx.tupS s
      obtain ⟨b, ys, rfl, hb, rb⟩ := ry.tupS s
      rw [ra.ints h1] at ha
      rw [rb.ints h2] at hb
      exact ⟨rfl, fun q => hr _ _ H Q a b ns ms rfl rfl ha hb q⟩
    · cases hz
  · cases hz
def onS (g : Str → Str → Bool) : D → D → Option D
  | .str s, .str t => some (.bl (g s t))
  | _, _ => none
theorem OpD.strs {f : Value → Value → Sem Value} {g : Str → Str → Bool} {r : R2} (h : OpR X f r) (hr : ∀ (x y : V) (H : Hp) (Q : VK) (s t : Str), x = .str s → y = .str t → Q (.bl (g s t)) H → r x y H Q) : OpD X f (onS g) := OpD.flat h fun HB H x y d e z F G Q s rx ry hz => by
  unfold onS at hz
  split at hz
  · cases hz
    cases rx
    cases ry
    exact ⟨rfl, fun q => hr _ _ H Q _ _ rfl rfl q⟩
  · cases hz
def gLt : D → D → Option D
  | .int i, .int j => some (.bl (decide (i < j)))
  | .str s, .str t => some (.bl (decide (s.cps.toList < t.cps.toList)))
  | .tup c ds, .tup c' es => onT HT.lexLt (.tup c ds) (.tup c' es)
  | _, _ => none
theorem od_lt (hu : X.A.units + 65 < cLine) : OpD X (compareOp .Lt) gLt :=
  ((OpD.ints0 (g := fun i j => .bl (decide (i < j))) op_lt fun _ _ => rfl).or ((OpD.strs (g := fun s t => decide (s.cps.toList < t.cps.toList)) op_lt_str fun x y H Q s t h1 h2 q => ⟨s, t, h1, h2, q⟩).or
    (OpD.tups (op_ltT (by omega)) fun x y H Q a b ns ms h1 h2 h3 h4 q => ⟨a, b, ns, ms, h1, h2, h3, h4, q⟩))).imp fun d e z h => by
  unfold gLt at h
  unfold gOr
  split at h
  · simpa [onI0] using h
  · simp only [onI0, onS]; exact h
  · simp only [onI0, onS]; exact h
  · cases h
def gLe : D → D → Option D := onI0 fun i j => .bl (decide (i ≤ j))
theorem od_le : OpD X (compareOp .LtE) gLe := OpD.ints0 (g := fun i j => .bl (decide (i ≤ j))) op_le fun _ _ => rfl
def gGt : D → D → Option D := onI0 fun i j => .bl (decide (j < i))
theorem od_gt : OpD X (compareOp .Gt) gGt := OpD.ints0 (g := fun i j => .bl (decide (j < i))) op_gt fun _ _ => rfl
def gGe : D → D → Option D := onI0 fun i j => .bl (decide (j ≤ i))
theorem od_ge : OpD X (compareOp .GtE) gGe := OpD.ints0 (g := fun i j => .bl (decide (j ≤ i))) op_ge fun _ _ => rfl

/-! ### one operand -/
/-- the value first, the rest behind it -/
theorem seq_run {k : D → Sl → Option (Except Er D × Sl)} {σ : L2.St} {H : Hp} {Q : VK} {R : VK} (h : TEd X.K X.mg W io (fun S => bnd (m S) k) σ H Q)
    (fin : ∀ S HB H1 Fr ft p0 d v F z HB0, StF X.K X.mg io S σ HB H1 Fr ft p0 → Same HB0 HB → Hand X.K X.mg HB H1 Fr ft v d F → k d S = some z → EPost X.K X.mg W io σ HB0 Fr p0 Q z → R v H1) : TEd X.K X.mg W io m σ H R := by
  obtain ⟨S, HB, Fr, ft, p0, z, st, e1, post⟩ := h
  rcases bnd_some e1 with ⟨d, S1, h1, e2⟩ | ⟨er, S1, h1, rfl⟩
  · exact ⟨S, HB, Fr, ft, p0, _, st, h1, fun x H1 HB1 ft1 F1 s1 st1 hx => fin S1 HB1 H1 Fr ft1 p0 d x F1 z HB st1 s1 hx e2 post⟩
  · exact ⟨S, HB, Fr, ft, p0, _, st, h1, post⟩
/-- a further end -/
theorem EPost.on {K : PySem.W.Frag} {mg : Str → Option Value} {σ : L2.St} {HB0 HB Fr Fr' : Hp} {p0 : Option V} {Q : VK} {z : Except Er D × Sl} (s : Same HB0 HB) (f : Same Fr Fr') (h : EPost K mg W io σ HB0 Fr p0 Q z) : EPost K mg W io σ HB Fr' p0 Q z := by
  obtain ⟨r, S⟩ := z
  cases r with
  | ok d => exact fun v H' HB' ft' F s' st hd => h v H' HB' ft' F (s.trans s') (st.less f) ⟨hd.rp, hd.nd, fun a ha => ⟨(hd.free a ha).1, f.free (hd.free a ha).2.1, (hd.free a ha).2.2⟩⟩
  | error e => exact XPost.aside h s f
theorem BPost.on {K : PySem.W.Frag} {mg : Str → Option Value} {σ : L2.St} {HB0 HB Fr Fr' : Hp} {p0 : Option V} {Q : Bool → Hp → Prop} {z : Except Er Bool × Sl} (s : Same HB0 HB) (f : Same Fr Fr') (h : BPost K mg W io σ HB0 Fr p0 Q z) : BPost K mg W io σ HB Fr' p0 Q z := by
  obtain ⟨r, S⟩ := z
  cases r with
  | ok d => exact fun H' HB' ft' s' st => h H' HB' ft' (s.trans s') (st.less f)
  | error e => exact XPost.aside h s f
theorem APost.on {K : PySem.W.Frag} {mg : Str → Option Value} {σ : L2.St} {HB0 HB Fr Fr' : Hp} {p0 : Option V} {Q : List V → Hp → Prop} {z : Except Er (List D) × Sl} (s : Same HB0 HB) (f : Same Fr Fr') (h : APost K mg W io σ HB0 Fr p0 Q z) : APost K mg W io σ HB Fr' p0 Q z := by
  obtain ⟨r, S⟩ := z
  cases r with
  | ok d => exact fun v H' HB' ft' F s' st hd => h v H' HB' ft' F (s.trans s') (st.less f) ⟨hd.rp, hd.nd, fun a ha => ⟨(hd.free a ha).1, f.free (hd.free a ha).2.1, (hd.free a ha).2.2⟩⟩
  | error e => exact XPost.aside h s f
def mNeg (m : EM) : EM := fun S => bnd (m S) fun d S1 => match d with
  | .int i => some (.ok (.int (-i)), S1)
  | _ => none
theorem pd_neg (h : PEd X W io a m) : PEd X W io (.UnaryOp .USub a pos) (mNeg m) := PE.imp (pe_un un_neg h) fun σ H Q q => seq_run q fun S HB H1 Fr ft p0 d v F z HB0 st s0 hd hk post => by
  split at hk
  · cases hk
    cases hd.rp
    exact ⟨_, rfl, post _ _ HB ft [] s0 st ⟨.int _, List.nodup_nil, fun _ z => nomatch z⟩⟩
  · cases hk

/-! ### tests -/
def asB : D → Option Bool
  | .bl b => some b
  | _ => none
def tVal (m : EM) : BM := fun S => bnd (m S) fun d S1 => got (asB d) S1
theorem seqB_run {k : D → Sl → Option (Except Er Bool × Sl)} {σ : L2.St} {H : Hp} {Q : Bool → Hp → Prop} {R : VK} (h : TTd X.K X.mg W io (fun S => bnd (m S) k) σ H Q)
    (fin : ∀ S HB H1 Fr ft p0 d v F z HB0, StF X.K X.mg io S σ HB H1 Fr ft p0 → Same HB0 HB → Hand X.K X.mg HB H1 Fr ft v d F → k d S = some z → BPost X.K X.mg W io σ HB0 Fr p0 Q z → R v H1) : TEd X.K X.mg W io m σ H R := by
  obtain ⟨S, HB, Fr, ft, p0, z, st, e1, post⟩ := h
  rcases bnd_some e1 with ⟨d, S1, h1, e2⟩ | ⟨er, S1, h1, rfl⟩
  · exact ⟨S, HB, Fr, ft, p0, _, st, h1, fun x H1 HB1 ft1 F1 s1 st1 hx => fin S1 HB1 H1 Fr ft1 p0 d x F1 z HB st1 s1 hx e2 post⟩
  · exact ⟨S, HB, Fr, ft, p0, _, st, h1, post⟩
theorem asB_run {σ : L2.St} {H : Hp} {Q : Bool → Hp → Prop} (h : TTd X.K X.mg W io (tVal m) σ H Q) : TEd X.K X.mg W io m σ H fun x H1 => ∃ c, x = .bl c ∧ Q c H1 := seqB_run h fun S HB H1 Fr ft p0 d v F z HB0 st s0 hd hk post => by
  obtain ⟨b, h1, rfl⟩ := got_some hk
  unfold asB at h1
  split at h1
  · cases h1
    cases hd.rp
    exact ⟨_, rfl, post H1 HB ft s0 st⟩
  · cases h1
/-- an expression that is True or False, as a test -/
theorem pt_valD (h : PEd X W io e m) (he : ∀ whole, isTrue e X.env whole = (do let v ← whole; standAt e.pos; holding [v] (truthy v)) := by intro _; rfl) : PTd X W io e (tVal m) := PT.imp (pt_val h he) fun σ H Q q => asB_run q
theorem pt_cmpD {op : CmpOp} {g : D → D → Option D} (h : OpD X (compareOp op) g) (ha : PEd X W io a ma) (hb : PEd X W io b mb) (hm : behindInMarks op b = false) : PTd X W io (.Compare a [op] [b] pos) (tVal (mOp g ma mb)) := by
  obtain ⟨r, h1, h2⟩ := h
  exact PT.imp (pt_cmpR h1 ha hb hm) fun σ H Q q => op_run h2 (asB_run q)
def truD : D → Option Bool
  | .non => some false
  | .bl b => some b
  | .int i => some (i != 0)
  | .str s => if s.length ≤ 1000000 then some ((s.length : Int) != 0) else none
  | .lst _ ds => some (!ds.isEmpty)
  | .tup _ ds => some (!ds.isEmpty)
  | _ => none
theorem empty_eq {K : PySem.W.Frag} {mg : Str → Option Value} {HB H : Hp} {vs : List V} {ds : List D} {F : List Addr} (r : Rps K mg HB H vs ds F) : ds.isEmpty = vs.isEmpty := by cases r <;> rfl
theorem tru_rp {K : PySem.W.Frag} {mg : Str → Option Value} {HB H : Hp} {v : V} {d : D} {F : List Addr} {b : Bool} (s : Same HB H) (r : Rp K mg HB H v d F) (h : truD d = some b) : TruV K v H b := by
  cases d with
  | non => cases h; cases r; exact rfl
  | bl c => cases h; cases r; exact rfl
  | int c => cases h; cases r; exact rfl
  | str c =>
    simp only [truD] at h
    split at h
    · cases h; cases r; exact ⟨line_of (by assumption), rfl⟩
    · cases h
  | lst o ds =>
    cases h
    obtain ⟨a, xs, G, rfl, h1, h2⟩ := r.lstS s
    exact .inl ⟨xs, h1, by rw [empty_eq h2]⟩
  | tup ds =>
    cases h
    obtain ⟨a, xs, rfl, h1, h2⟩ := r.tupS s
    exact .inr (.inl ⟨xs, h1, by rw [empty_eq h2]⟩)
  | _ => cases h
def tTru (m : EM) : BM := fun S => bnd (m S) fun d S1 => got (truD d) S1
theorem pt_truD (h : PEd X W io e m) (he : ∀ whole, isTrue e X.env whole = (do let v ← whole; standAt e.pos; holding [v] (truthy v)) := by intro _; rfl) : PTd X W io e (tTru m) := PT.imp (pt_truth h he) fun σ H Q q => seqB_run q fun S HB H1 Fr ft p0 d v F z HB0 st s0 hd hk post => by
  obtain ⟨b, h1, rfl⟩ := got_some hk
  exact ⟨b, tru_rp st.bs hd.rp h1, post H1 HB ft s0 st⟩
def bAnd (a b : BM) : BM := fun S => bnd (a S) fun c S1 => if c = true then b S1 else some (.ok false, S1)
def bOr (a b : BM) : BM := fun S => bnd (a S) fun c S1 => if c = true then some (.ok true, S1) else b S1
def bNot (a : BM) : BM := fun S => bnd (a S) fun c S1 => some (.ok (!c), S1)
theorem seqT_run {t : BM} {k : Bool → Sl → Option (Except Er Bool × Sl)} {σ : L2.St} {H : Hp} {Q R : Bool → Hp → Prop} (h : TTd X.K X.mg W io (fun S => bnd (t S) k) σ H Q)
    (fin : ∀ S HB H1 Fr ft p0 c z HB0, StF X.K X.mg io S σ HB H1 Fr ft p0 → Same HB0 HB → k c S = some z → BPost X.K X.mg W io σ HB0 Fr p0 Q z → R c H1) : TTd X.K X.mg W io t σ H R := by
  obtain ⟨S, HB, Fr, ft, p0, z, st, e1, post⟩ := h
  rcases bnd_some e1 with ⟨d, S1, h1, e2⟩ | ⟨er, S1, h1, rfl⟩
  · exact ⟨S, HB, Fr, ft, p0, _, st, h1, fun H1 HB1 ft1 s1 st1 => fin S1 HB1 H1 Fr ft1 p0 d z HB st1 s1 e2 post⟩
  · exact ⟨S, HB, Fr, ft, p0, _, st, h1, post⟩
variable {ta tb tc : BM} {rest : List Expr}
theorem pw_and1D (h : PTd X W io a ta) : PWd X W io (.BoolOp .And [a] pos) ta := pw_and1 h
theorem pw_or1D (h : PTd X W io a ta) : PWd X W io (.BoolOp .Or [a] pos) ta := pw_or1 h
theorem pw_andD (ha : PTd X W io a ta) (hb : PWd X W io (.BoolOp .And (b :: rest) pos) tb) : PWd X W io (.BoolOp .And (a :: b :: rest) pos) (bAnd ta tb) := PW.imp (pw_and ha hb) fun σ H Q q => seqT_run q fun S HB H1 Fr ft p0 c z HB0 st s0 hk post => by
  cases c with
  | true => exact ⟨S, HB, Fr, ft, p0, z, st, hk, post.on s0 (Same.refl _)⟩
  | false => cases hk; exact post H1 HB ft s0 st
theorem pw_orD (ha : PTd X W io a ta) (hb : PWd X W io (.BoolOp .Or (b :: rest) pos) tb) : PWd X W io (.BoolOp .Or (a :: b :: rest) pos) (bOr ta tb) := PW.imp (pw_or ha hb) fun σ H Q q => seqT_run q fun S HB H1 Fr ft p0 c z HB0 st s0 hk post => by
  cases c with
  | false => exact ⟨S, HB, Fr, ft, p0, z, st, hk, post.on s0 (Same.refl _)⟩
  | true => cases hk; exact post H1 HB ft s0 st
theorem pt_notD (ha : PTd X W io a ta) : PTd X W io (.UnaryOp .Not a pos) (bNot ta) := PT.imp (pt_not ha) fun σ H Q q => seqT_run q fun S HB H1 Fr ft p0 c z HB0 st s0 hk post => by
  cases hk; exact post H1 HB ft s0 st
theorem PWd.pt (h : PWd X W io e ta) : PTd X W io e ta := PW.pt h

/-! ### and, or, not, if .. else as values -/
def mAndV (ma mb : EM) : EM := fun S => bnd (ma S) fun d S1 => match d with
  | .bl c => if c = true then mb S1 else some (.ok (.bl false), S1)
  | _ => none
def mOrV (ma mb : EM) : EM := fun S => bnd (ma S) fun d S1 => match d with
  | .bl c => if c = true then some (.ok (.bl true), S1) else mb S1
  | _ => none
def mNotV (ma : EM) : EM := fun S => bnd (ma S) fun d S1 => match d with
  | .bl c => some (.ok (.bl (!c)), S1)
  | _ => none
theorem hand_bl {K : PySem.W.Frag} {mg : Str → Option Value} {HB H Fr : Hp} {ft : Nat → List Addr} {b : Bool} : Hand K mg HB H Fr ft (.bl b) (.bl b) [] := ⟨.bl _, List.nodup_nil, fun _ z => nomatch z⟩
theorem pd_one {op : BoolOp} (h : PEd X W io a ma) : PEd X W io (.BoolOp op [a] pos) ma := pe_one h
theorem pd_and (ha : PEd X W io a ma) (hb : PEd X W io (.BoolOp .And (b :: rest) pos) mb) : PEd X W io (.BoolOp .And (a :: b :: rest) pos) (mAndV ma mb) := PE.imp (pe_and ha hb) fun σ H Q q => seq_run q fun S HB H1 Fr ft p0 d v F z HB0 st s0 hd hk post => by
  split at hk
  · rename_i c
    cases hd.rp
    refine ⟨c, rfl, ?_⟩
    cases c with
    | true => exact ⟨S, HB, Fr, ft, p0, z, st, hk, post.on s0 (Same.refl _)⟩
    | false => cases hk; exact post _ H1 HB ft [] s0 st hand_bl
  · cases hk
theorem pd_or (ha : PEd X W io a ma) (hb : PEd X W io (.BoolOp .Or (b :: rest) pos) mb) : PEd X W io (.BoolOp .Or (a :: b :: rest) pos) (mOrV ma mb) := PE.imp (pe_or ha hb) fun σ H Q q => seq_run q fun S HB H1 Fr ft p0 d v F z HB0 st s0 hd hk post => by
  split at hk
  · rename_i c
    cases hd.rp
    refine ⟨c, rfl, ?_⟩
    cases c with
    | false => exact ⟨S, HB, Fr, ft, p0, z, st, hk, post.on s0 (Same.refl _)⟩
    | true => cases hk; exact post _ H1 HB ft [] s0 st hand_bl
  · cases hk
theorem pd_not (ha : PEd X W io a ma) : PEd X W io (.UnaryOp .Not a pos) (mNotV ma) := PE.imp (pe_not ha) fun σ H Q q => seq_run q fun S HB H1 Fr ft p0 d v F z HB0 st s0 hd hk post => by
  split at hk
  · cases hd.rp
    cases hk
    exact ⟨_, rfl, post _ H1 HB ft [] s0 st hand_bl⟩
  · cases hk
def mIf (t : BM) (ma mb : EM) : EM := fun S => bnd (t S) fun c S1 => if c = true then ma S1 else mb S1
theorem seqTE_run {t : BM} {k : Bool → Sl → Option (Except Er D × Sl)} {σ : L2.St} {H : Hp} {Q : VK} {R : Bool → Hp → Prop} (h : TEd X.K X.mg W io (fun S => bnd (t S) k) σ H Q)
    (fin : ∀ S HB H1 Fr ft p0 c z HB0, StF X.K X.mg io S σ HB H1 Fr ft p0 → Same HB0 HB → k c S = some z → EPost X.K X.mg W io σ HB0 Fr p0 Q z → R c H1) : TTd X.K X.mg W io t σ H R := by
  obtain ⟨S, HB, Fr, ft, p0, z, st, e1, post⟩ := h
  rcases bnd_some e1 with ⟨d, S1, h1, e2⟩ | ⟨er, S1, h1, rfl⟩
  · exact ⟨S, HB, Fr, ft, p0, _, st, h1, fun H1 HB1 ft1 s1 st1 => fin S1 HB1 H1 Fr ft1 p0 d z HB st1 s1 e2 post⟩
  · exact ⟨S, HB, Fr, ft, p0, _, st, h1, post⟩
theorem pd_ifExp (hc : PTd X W io c tc) (ha : PEd X W io a ma) (hb : PEd X W io b mb) : PEd X W io (.IfExp c a b pos) (mIf tc ma mb) := PE.imp (pe_ifExp hc ha hb) fun σ H Q q => seqTE_run q fun S HB H1 Fr ft p0 c z HB0 st s0 hk post => by
  cases c with
  | true => exact ⟨S, HB, Fr, ft, p0, z, st, hk, post.on s0 (Same.refl _)⟩
  | false => exact ⟨S, HB, Fr, ft, p0, z, st, hk, post.on s0 (Same.refl _)⟩
end
end Fx

set_option maxHeartbeats 2000000
namespace Fx
open PySem PySem.Spec PyProof.Rows L2
section
variable {X : Cx} {W : WX} {io : Bool} {a b c e : Expr} {es : List Expr} {ma mb mc m : EM} {pos : Pos}

/-! ### a < b < c < d -/
/-- the rest of a chain behind a value: as a value, as a test -/
def PCh (X : Cx) (W : WX) (io : Bool) (ops : List CmpOp) (rs : List (Sem Value)) (g : D → EM) : Prop :=
  ∀ pos pins s σ H x v S HB Fr ft p0 d F z Q, Inv X pins σ H s → RelV x v → StF X.K X.mg io S σ HB H Fr ft p0 → Hand X.K X.mg HB H Fr ft x d F → g d S = some z → EPost X.K X.mg W io σ HB Fr p0 Q z →
    wpAny (model X.prog X.w) X.A (compareChain pos v ops rs) (EP X pins σ Q) X.xe s
def TCh (X : Cx) (W : WX) (io : Bool) (ops : List CmpOp) (rs : List (Sem Value)) (g : D → EM) : Prop :=
  ∀ pos pins s σ H x v S HB Fr ft p0 d F z Q, Inv X pins σ H s → RelV x v → StF X.K X.mg io S σ HB H Fr ft p0 → Hand X.K X.mg HB H Fr ft x d F → g d S = some z →
    EPost X.K X.mg W io σ HB Fr p0 (fun y H' => ∃ k, y = .bl k ∧ Q k H') z → wpAny (model X.prog X.w) X.A (testChain pos v ops rs) (TP X pins σ Q) X.xe s
def cLast (g : D → D → Option D) (m : EM) : D → EM := fun d S => bnd (m S) fun e S1 => got (g d e) S1
def cLink (g : D → D → Option D) (m : EM) (r : D → EM) : D → EM := fun d S => bnd (m S) fun e S1 => match g d e with
  | some (.bl true) => r e S1
  | some (.bl false) => some (.ok (.bl false), S1)
  | _ => none
def mCh (m : EM) (g : D → EM) : EM := fun S => bnd (m S) g
/-- the next operand, the value in hand kept aside -/
theorem next_run {σ : L2.St} {H : Hp} {S : Sl} {HB Fr : Hp} {ft : Nat → List Addr} {p0 : Option V} {x : V} {d : D} {F : List Addr} {k : D → Sl → Option (Except Er D × Sl)} {z : Except Er D × Sl} {Q R : VK}
    (st : StF X.K X.mg io S σ HB H Fr ft p0) (hd : Hand X.K X.mg HB H Fr ft x d F) (hk : bnd (m S) k = some z) (post : EPost X.K X.mg W io σ HB Fr p0 Q z)
    (fin : ∀ y H2 S2 HB2 Fr2 ft2 e G, StF X.K X.mg io S2 σ HB2 H2 Fr2 ft2 p0 → Same HB HB2 → Same Fr Fr2 → Rp X.K X.mg HB2 H2 x d F → Hand X.K X.mg HB2 H2 Fr2 ft2 y e G → k e S2 = some z → EPost X.K X.mg W io σ HB2 Fr2 p0 Q z → R y H2) : TEd X.K X.mg W io m σ H R := by
  have st1 := st.plus hd.rp.there hd.free
  have sp := same_plus (Fr := Fr) (H := H) fun a ha => (hd.free a ha).2.1
  rcases bnd_some hk with ⟨e, S2, h2, e3⟩ | ⟨er, S2, h2, rfl⟩
  · refine ⟨S, HB, _, ft, p0, _, st1, h2, fun y H2 HB2 ft2 F2 s2 st2 hy => ?_⟩
    exact fin y H2 S2 HB2 _ ft2 e F2 st2 s2 sp (hd.rp.mono s2 (plus_kept st2.fr hd.rp.there)) hy e3 (post.on s2 sp)
  · exact ⟨S, HB, _, ft, p0, _, st1, h2, XPost.aside post (Same.refl _) sp⟩
theorem pc_last {op : CmpOp} {g : D → D → Option D} (h : OpD X (compareOp op) g) (hm : PEd X W io e m) : PCh X W io [op] [eval e X.env] (cLast g m) := by
  obtain ⟨r, h1, h2⟩ := h
  intro pos pins s σ H x v S HB Fr ft p0 d F z Q I rx st hd hk post
  refine chain_last (thn (hm.run pins s σ H (fun y H2 => r x y H2 Q) I ?_) fun u s1 ⟨y, H1, I1, ry, q⟩ => h1 pins s1 σ H1 x y v u Q I1 rx ry q)
  refine next_run st hd hk post fun y H2 S2 HB2 Fr2 ft2 e G st2 s2 f2 rx2 hy hk2 post2 => ?_
  obtain ⟨z', h3, rfl⟩ := got_some hk2
  exact h2 HB2 H2 x y d e z' F G Q st2.bs rx2 hy.rp h3 (op_end (Same.refl _) (Same.refl _) st2 post2)
theorem pc_link {op op' : CmpOp} {ops : List CmpOp} {r' : Sem Value} {rs : List (Sem Value)} {g : D → D → Option D} {rest : D → EM} (h : OpD X (compareOp op) g) (hm : PEd X W io e m) (hr : PCh X W io (op' :: ops) (r' :: rs) rest) :
    PCh X W io (op :: op' :: ops) (eval e X.env :: r' :: rs) (cLink g m rest) := by
  obtain ⟨r, h1, h2⟩ := h
  intro pos pins s σ H x v S HB Fr ft p0 d F z Q I rx st hd hk post
  refine chain_link (thn (hm.run pins s σ H (fun y H2 => ∃ S2 HB2 Fr2 ft2 e G k, StF X.K X.mg io S2 σ HB2 H2 Fr2 ft2 p0 ∧ Hand X.K X.mg HB2 H2 Fr2 ft2 y e G ∧ EPost X.K X.mg W io σ HB2 Fr2 p0 Q z ∧
    (k = true → rest e S2 = some z) ∧ (k = false → z = (.ok (.bl false), S2)) ∧ r x y H2 fun t H3 => t = .bl k ∧ ∃ HB3, Ext HB2 H2 HB3 H3) I ?_) fun u s1 ⟨y, H1, I1, ry, S2, HB2, Fr2, ft2, e, G, k, st2, hy, post2, hk1, hk2, q⟩ => ?_)
  · refine next_run st hd hk post fun y H2 S2 HB2 Fr2 ft2 e G st2 s2 f2 rx2 hy hk2 post2 => ?_
    split at hk2
    · rename_i h3
      exact ⟨S2, HB2, Fr2, ft2, e, G, true, st2, hy, post2, fun _ => hk2, (fun q => by cases q), h2 HB2 H2 x y d e _ F G _ st2.bs rx2 hy.rp h3 fun v HB' H' Fz x1 r1 _ _ => by cases r1; exact ⟨rfl, HB', x1⟩⟩
    · rename_i h3
      exact ⟨S2, HB2, Fr2, ft2, e, G, false, st2, hy, post2, (fun q => by cases q), fun _ => (Option.some.inj hk2).symm, h2 HB2 H2 x y d e _ F G _ st2.bs rx2 hy.rp h3 fun v HB' H' Fz x1 r1 _ _ => by cases r1; exact ⟨rfl, HB', x1⟩⟩
    · cases hk2
  · refine thn (h1 pins s1 σ H1 x y v u _ I1 rx ry q) fun t s2 ⟨t', H2, I2, rt, e1, HB3, x3⟩ => ?_
    subst e1
    cases (show t = Value.bool k from rt)
    refine wpAny_truthy_bool ?_
    have st3 := st2.ext x3
    have hy3 := hy.ext x3
    have post3 := post2.on x3.bs (Same.refl _)
    cases k with
    | true => exact ite_tt (hr pos pins s2 σ H2 y u S2 HB3 Fr2 ft2 p0 e G z Q I2 ry st3 hy3 (hk1 rfl) post3)
    | false =>
      obtain rfl := hk2 rfl
      exact ite_ff ⟨.bl false, H2, I2, rfl, post3 _ H2 HB3 ft2 [] (Same.refl _) st3 hand_bl⟩
theorem tc_last {op : CmpOp} {g : D → D → Option D} (h : OpD X (compareOp op) g) (hm : PEd X W io e m) : TCh X W io [op] [eval e X.env] (cLast g m) := by
  obtain ⟨r, h1, h2⟩ := h
  intro pos pins s σ H x v S HB Fr ft p0 d F z Q I rx st hd hk post
  refine test_last (thn (hm.run pins s σ H (fun y H2 => r x y H2 fun t H3 => ∃ k, t = .bl k ∧ Q k H3) I ?_) fun u s1 ⟨y, H1, I1, ry, q⟩ => thn (h1 pins s1 σ H1 x y v u _ I1 rx ry q) fun t s2 ⟨t', H2, I2, rt, k, e1, q2⟩ => ?_)
  · refine next_run st hd hk post fun y H2 S2 HB2 Fr2 ft2 e G st2 s2 f2 rx2 hy hk2 post2 => ?_
    obtain ⟨z', h3, rfl⟩ := got_some hk2
    exact h2 HB2 H2 x y d e z' F G _ st2.bs rx2 hy.rp h3 (op_end (Same.refl _) (Same.refl _) st2 post2)
  · subst e1
    cases (show t = Value.bool k from rt)
    exact wpAny_truthy_bool ⟨H2, I2, q2⟩
theorem tc_link {op op' : CmpOp} {ops : List CmpOp} {r' : Sem Value} {rs : List (Sem Value)} {g : D → D → Option D} {rest : D → EM} (h : OpD X (compareOp op) g) (hm : PEd X W io e m) (hr : TCh X W io (op' :: ops) (r' :: rs) rest) :
    TCh X W io (op :: op' :: ops) (eval e X.env :: r' :: rs) (cLink g m rest) := by
  obtain ⟨r, h1, h2⟩ := h
  intro pos pins s σ H x v S HB Fr ft p0 d F z Q I rx st hd hk post
  refine test_link (thn (hm.run pins s σ H (fun y H2 => ∃ S2 HB2 Fr2 ft2 e G k, StF X.K X.mg io S2 σ HB2 H2 Fr2 ft2 p0 ∧ Hand X.K X.mg HB2 H2 Fr2 ft2 y e G ∧ EPost X.K X.mg W io σ HB2 Fr2 p0 (fun y H' => ∃ k, y = .bl k ∧ Q k H') z ∧
    (k = true → rest e S2 = some z) ∧ (k = false → z = (.ok (.bl false), S2)) ∧ r x y H2 fun t H3 => t = .bl k ∧ ∃ HB3, Ext HB2 H2 HB3 H3) I ?_) fun u s1 ⟨y, H1, I1, ry, S2, HB2, Fr2, ft2, e, G, k, st2, hy, post2, hk1, hk2, q⟩ => ?_)
  · refine next_run st hd hk post fun y H2 S2 HB2 Fr2 ft2 e G st2 s2 f2 rx2 hy hk2 post2 => ?_
    split at hk2
    · rename_i h3
      exact ⟨S2, HB2, Fr2, ft2, e, G, true, st2, hy, post2, fun _ => hk2, (fun q => by cases q), h2 HB2 H2 x y d e _ F G _ st2.bs rx2 hy.rp h3 fun v HB' H' Fz x1 r1 _ _ => by cases r1; exact ⟨rfl, HB', x1⟩⟩
    · rename_i h3
      exact ⟨S2, HB2, Fr2, ft2, e, G, false, st2, hy, post2, (fun q => by cases q), fun _ => (Option.some.inj hk2).symm, h2 HB2 H2 x y d e _ F G _ st2.bs rx2 hy.rp h3 fun v HB' H' Fz x1 r1 _ _ => by cases r1; exact ⟨rfl, HB', x1⟩⟩
    · cases hk2
  · refine thn (h1 pins s1 σ H1 x y v u _ I1 rx ry q) fun t s2 ⟨t', H2, I2, rt, e1, HB3, x3⟩ => ?_
    subst e1
    cases (show t = Value.bool k from rt)
    refine wpAny_truthy_bool ?_
    have st3 := st2.ext x3
    have hy3 := hy.ext x3
    have post3 := post2.on x3.bs (Same.refl _)
    cases k with
    | true => exact ite_tt (hr pos pins s2 σ H2 y u S2 HB3 Fr2 ft2 p0 e G z Q I2 ry st3 hy3 (hk1 rfl) post3)
    | false =>
      obtain rfl := hk2 rfl
      obtain ⟨k, e1, q⟩ := post3 _ H2 HB3 ft2 [] (Same.refl _) st3 hand_bl
      cases e1
      exact ite_ff ⟨H2, I2, q⟩
theorem pd_chain {o1 o2 : CmpOp} {ops : List CmpOp} {r1 r2 : Expr} {rs : List Expr} {g : D → EM} (ha : PEd X W io a ma) (h : PCh X W io (o1 :: o2 :: ops) (eval r1 X.env :: eval r2 X.env :: evalEach rs X.env) g)
    (hm : lastMarks (o1 :: o2 :: ops) (r1 :: r2 :: rs) = false := by with_unfolding_all rfl) : PEd X W io (.Compare a (o1 :: o2 :: ops) (r1 :: r2 :: rs) pos) (mCh ma g) := by
  refine ⟨fun pins s σ H Q I q => Compare_chain ?_ hm⟩
  refine thn (ha.run pins s σ H (fun x H1 => ∃ S HB Fr ft p0 d F z, StF X.K X.mg io S σ HB H1 Fr ft p0 ∧ Hand X.K X.mg HB H1 Fr ft x d F ∧ g d S = some z ∧ EPost X.K X.mg W io σ HB Fr p0 Q z) I (seq_run q fun S HB H1 Fr ft p0 d v F z HB0 st s0 hd hk post => ⟨S, HB, Fr, ft, p0, d, F, z, st, hd, hk, post.on s0 (Same.refl _)⟩)) fun v s1 ⟨x, H1, I1, rx, S, HB, Fr, ft, p0, d, F, z, st, hd, hk, post⟩ => ?_
  exact h _ pins s1 σ H1 x v S HB Fr ft p0 d F z Q I1 rx st hd hk post
theorem pt_chainD {o1 o2 : CmpOp} {ops : List CmpOp} {r1 r2 : Expr} {rs : List Expr} {g : D → EM} (ha : PEd X W io a ma) (h : TCh X W io (o1 :: o2 :: ops) (eval r1 X.env :: eval r2 X.env :: evalEach rs X.env) g)
    (hm : lastMarks (o1 :: o2 :: ops) (r1 :: r2 :: rs) = false := by with_unfolding_all rfl) : PTd X W io (.Compare a (o1 :: o2 :: ops) (r1 :: r2 :: rs) pos) (tVal (mCh ma g)) := by
  refine ⟨fun pins s σ H Q I q => isTrue_chain ?_ hm⟩
  refine thn (ha.run pins s σ H (fun x H1 => ∃ S HB Fr ft p0 d F z, StF X.K X.mg io S σ HB H1 Fr ft p0 ∧ Hand X.K X.mg HB H1 Fr ft x d F ∧ g d S = some z ∧ EPost X.K X.mg W io σ HB Fr p0 (fun y H' => ∃ k, y = .bl k ∧ Q k H') z) I ?_) fun v s1 ⟨x, H1, I1, rx, S, HB, Fr, ft, p0, d, F, z, st, hd, hk, post⟩ => ?_
  · exact seq_run (asB_run q) fun S HB H1 Fr ft p0 d v F z HB0 st s0 hd hk post => ⟨S, HB, Fr, ft, p0, d, F, z, st, hd, hk, post.on s0 (Same.refl _)⟩
  · exact h _ pins s1 σ H1 x v S HB Fr ft p0 d F z Q I1 rx st hd hk post

/-! ### arguments, displays -/
variable {am : AM}
theorem pa_nilD : PAd X W io [] aNil := PA.imp pa_nil fun σ H Q ⟨S, HB, Fr, ft, p0, z, st, e1, post⟩ => by
  cases e1
  exact post [] H HB ft [] (Same.refl _) st ⟨.nil, List.nodup_nil, fun _ z => nomatch z⟩
theorem nodup_app {F G : List Addr} (h1 : F.Nodup) (h2 : G.Nodup) (h : ∀ a ∈ F, a ∉ G) : (F ++ G).Nodup := List.nodup_append.mpr ⟨h1, h2, fun a ha b hb e => h a ha (e ▸ hb)⟩
theorem cons_runA {σ : L2.St} {H : Hp} {Q : List V → Hp → Prop} (h : TAd X.K X.mg W io (aCons m am) σ H Q) : tCons (TEd X.K X.mg W io m) (TAd X.K X.mg W io am) σ H Q := by
  obtain ⟨S, HB, Fr, ft, p0, z, st, e1, post⟩ := h
  show TEd X.K X.mg W io m σ H fun x H1 => TAd X.K X.mg W io am σ H1 fun xs H2 => Q (x :: xs) H2
  rcases bnd_some e1 with ⟨d, S1, h1, e2⟩ | ⟨er, S1, h1, rfl⟩
  · refine ⟨S, HB, Fr, ft, p0, _, st, h1, fun x H1 HB1 ft1 F1 s1 st1 hx => ?_⟩
    have st1' := st1.plus hx.rp.there hx.free
    have sp := same_plus (Fr := Fr) (H := H1) fun a ha => (hx.free a ha).2.1
    rcases bnd_some e2 with ⟨ds, S2, h2, e3⟩ | ⟨er, S2, h2, rfl⟩
    · cases e3
      refine ⟨S1, HB1, _, ft1, p0, _, st1', h2, fun ys H2 HB2 ft2 F2 s2 st2 hy => ?_⟩
      refine post (x :: ys) H2 HB2 ft2 (F1 ++ F2) (s1.trans s2) (st2.less sp) ⟨.cons (hx.rp.mono s2 (plus_kept st2.fr hx.rp.there)) hy.rp, nodup_app hx.nd hy.nd fun a h1 h2 => ?_, fun a ha => ?_⟩
      · have := (hy.free a h2).2.1
        rw [plus_in h1] at this
        obtain ⟨o, q, _⟩ := hx.rp.there a h1
        rw [q] at this; cases this
      · rcases List.mem_append.mp ha with ha | ha
        · obtain ⟨o, q, m⟩ := hx.rp.there a ha
          have q2 : H2 a = some o := by rw [plus_kept st2.fr hx.rp.there a ha, q]
          have pl : plus Fr F1 H1 a = some o := by rw [plus_in ha, q]
          exact ⟨st2.dis a o pl, (hx.free a ha).2.1, fun i hi => by
            have := (st2.free i a hi).2
            rw [pl] at this; cases this⟩
        · exact ⟨(hy.free a ha).1, sp.free (hy.free a ha).2.1, (hy.free a ha).2.2⟩
    · exact ⟨S1, HB1, _, ft1, p0, _, st1', h2, XPost.aside post s1 sp⟩
  · exact ⟨S, HB, Fr, ft, p0, _, st, h1, post⟩
theorem pa_consD (he : PEd X W io e m) (hr : PAd X W io es am) (hs : starEach (e :: es) X.env = (false, eval e X.env) :: starEach es X.env := by rfl) : PAd X W io (e :: es) (aCons m am) := PA.imp (pa_cons he hr hs) fun σ H Q q => cons_runA q
theorem args_run {k : List D → Sl → Option (Except Er D × Sl)} {σ : L2.St} {H : Hp} {Q : VK} {R : List V → Hp → Prop} (h : TEd X.K X.mg W io (fun S => bnd (am S) k) σ H Q)
    (fin : ∀ S HB H1 Fr ft p0 ds vs F z HB0, StF X.K X.mg io S σ HB H1 Fr ft p0 → Same HB0 HB → Hands X.K X.mg HB H1 Fr ft vs ds F → k ds S = some z → EPost X.K X.mg W io σ HB0 Fr p0 Q z → R vs H1) : TAd X.K X.mg W io am σ H R := by
  obtain ⟨S, HB, Fr, ft, p0, z, st, e1, post⟩ := h
  rcases bnd_some e1 with ⟨d, S1, h1, e2⟩ | ⟨er, S1, h1, rfl⟩
  · exact ⟨S, HB, Fr, ft, p0, _, st, h1, fun x H1 HB1 ft1 F1 s1 st1 hx => fin S1 HB1 H1 Fr ft1 p0 d x F1 z HB st1 s1 hx e2 post⟩
  · exact ⟨S, HB, Fr, ft, p0, _, st, h1, post⟩
theorem pd_tup {x1 : Nat} (h : PAd X W io es am) : PEd X W io (.Tuple es x1 pos) (mTup am) := PE.imp (pe_tup h) fun σ H Q q => args_run q fun S HB H1 Fr ft p0 ds vs F z HB0 st s0 hd hk post => by
  split at hk
  · rename_i hl
    cases hk
    refine ⟨line_of (by rw [hd.rp.length]; omega), fun p np => ?_⟩
    have e := Ext.put (o := .tup vs) st.bs np
    exact post _ _ _ ft F (s0.trans e.bs) (st.ext e) ⟨.tup (.inr upd_same) (SqT.of upd_same) (hd.rp.ext e), hd.nd, (hd.ext e).free⟩
  · cases hk
theorem pd_lst (h : PAd X W io es am) : PEd X W io (.List es pos) (mLst am) := PE.imp (pe_lst h) fun σ H Q q => args_run q fun S HB H1 Fr ft p0 ds vs F z HB0 st s0 hd hk post => by
  split at hk
  · rename_i hl
    cases hk
    refine ⟨line_of (by rw [hd.rp.length]; omega), fun p np => ?_⟩
    have e := Ext.lay (o := .lst vs) st.bs np
    have hpF : p ∉ F := fun z => by
      obtain ⟨o, q, _⟩ := hd.rp.there p z
      rw [np] at q; cases q
    refine post _ _ _ ft (p :: F) (s0.trans e.bs) (st.ext e) ⟨.own upd_same (hd.rp.ext e), List.nodup_cons.mpr ⟨hpF, hd.nd⟩, fun a ha => ?_⟩
    rcases List.mem_cons.mp ha with rfl | ha
    · exact ⟨st.bs.free np, st.fr.free np, fun i hi => by
        have hx : ∃ d, S[i]? = some (some d) := by
          apply Classical.byContradiction
          intro q
          rw [st.emp i fun d h => q ⟨d, h⟩] at hi
          cases hi
        obtain ⟨d, hx⟩ := hx
        obtain ⟨_, _, r2⟩ := st.val i d hx
        obtain ⟨o, q, _⟩ := r2.there a hi
        rw [np] at q; cases q⟩
    · exact (hd.ext e).free a ha
  · cases hk

/-! ### a[b], a[b:c] -/
def IxD (X : Cx) (g : D → D → Option D) : Prop := ∃ r, IxR X r ∧ OpS X.K X.mg r g
theorem pd_ix {g : D → D → Option D} (h : IxD X g) (ha : PEd X W io a ma) (hb : PEd X W io b mb) (hs : PlainIx b := by exact fun _ _ => rfl) : PEd X W io (.Subscript a b pos) (mOp g ma mb) := by
  obtain ⟨r, h1, h2⟩ := h
  exact PE.imp (pe_ix h1 ha hb hs) fun σ H Q q => op_run h2 q
theorem Rps.at {K : PySem.W.Frag} {mg : Str → Option Value} {HB H : Hp} : ∀ {vs : List V} {ds : List D} {F : List Addr} {i : Nat} {d : D}, Rps K mg HB H vs ds F → ds[i]? = some d → ∃ v G, vs[i]? = some v ∧ Rp K mg HB H v d G
  | _, _, _, _, _, .nil, h => by simp at h
  | _, _, _, 0, _, .cons h r, e => by simp at e; subst e; exact ⟨_, _, rfl, h⟩
  | _, _, _, i + 1, _, .cons h r, e => by
    obtain ⟨v, G, h1, h2⟩ := Rps.at (i := i) r (by simpa using e)
    exact ⟨v, G, by simpa using h1, h2⟩
theorem Rps.atI {K : PySem.W.Frag} {mg : Str → Option Value} {HB H : Hp} {vs : List V} {ds : List D} {F : List Addr} {i : Int} {d : D} (r : Rps K mg HB H vs ds F) (h : L2.atI ds i = some d) : ∃ v G, L2.atI vs i = some v ∧ Rp K mg HB H v d G := by
  unfold L2.atI at h ⊢
  rw [r.length]
  cases e : ixN ds.length i with
  | none => rw [e] at h; cases h
  | some j =>
    rw [e] at h
    exact r.at h
def gIx : D → D → Option D
  | .lst _ ds, .int i => (L2.atI ds i).bind fun d => if noOwn d = true then some d else none
  | .tup _ ds, .int i => (L2.atI ds i).bind fun d => if noOwn d = true then some d else none
  | .str s, .int i => if s.length ≤ 1000000 then (L2.atI s.cps.toList i).map fun c => .str ⟨#[c]⟩ else none
  | _, _ => none
theorem ix_seqD : IxD X gIx := by
  refine ⟨_, ix_seq, fun HB H x y d e z F G Q s rx ry hz hq => ?_⟩
  unfold gIx at hz
  split at hz
  · rename_i o ds i
    cases ry
    obtain ⟨d, h1, h2⟩ := Option.bind_eq_some_iff.mp hz
    split at h2
    · rename_i hn
      cases h2
      obtain ⟨a, xs, G1, rfl, h3, r3⟩ := rx.lstS s
      obtain ⟨v, G2, h4, r4⟩ := r3.atI h1
      have e := r4.none hn
      subst e
      exact .inl ⟨a, xs, i, v, rfl, rfl, h3, h4, hq v HB H [] (Ext.refl s) r4 List.nodup_nil fun _ z => nomatch z⟩
    · cases h2
  · rename_i ds i
    cases ry
    obtain ⟨d, h1, h2⟩ := Option.bind_eq_some_iff.mp hz
    split at h2
    · rename_i hn
      cases h2
      obtain ⟨a, xs, rfl, h3, r3⟩ := rx.tupS s
      obtain ⟨v, G2, h4, r4⟩ := r3.atI h1
      have e := r4.none hn
      subst e
      exact .inr (.inl ⟨a, xs, i, v, rfl, rfl, h3, h4, hq v HB H [] (Ext.refl s) r4 List.nodup_nil fun _ z => nomatch z⟩)
    · cases h2
  · rename_i t i
    cases rx
    cases ry
    split at hz
    · rename_i hl
      obtain ⟨c, h1, h2⟩ := Option.map_eq_some_iff.mp hz
      subst h2
      exact .inr (.inr ⟨t, i, c, rfl, rfl, line_of hl, h1, hq _ HB H [] (Ext.refl s) (.str _) List.nodup_nil fun _ z => nomatch z⟩)
    · cases hz
  · cases hz
/-- a part of a slice -/
abbrev OM := Sl → Option (Except Er (Option Int) × Sl)
def cutD (ds : List D) (lo hi : Option Int) : List D := (ds.drop (HT.sIx ds.length 0 lo)).take (HT.sIx ds.length ds.length hi - HT.sIx ds.length 0 lo)
def gSl : D → Option Int → Option Int → Option D
  | .lst _ ds, lo, hi => if noOwns ds = true then some (.lst .own (cutD ds lo hi)) else none
  | .tup c ds, lo, hi => if noOwns ds = true then some (.tup c (cutD ds lo hi)) else none
  | .str s, lo, hi => if s.length ≤ 1000000 then some (.str (cutS s lo hi)) else none
  | _, _, _ => none
def SlS (K : PySem.W.Frag) (mg : Str → Option Value) (r : V → Option Int → Option Int → Hp → VK → Prop) (g : D → Option Int → Option Int → Option D) : Prop :=
  ∀ (HB H : Hp) (x : V) (d z : D) (lo hi : Option Int) (F : List Addr) (Q : VK), Same HB H → Rp K mg HB H x d F → g d lo hi = some z →
    (∀ v HB' H' Fz, Ext HB H HB' H' → Rp K mg HB' H' v z Fz → Fz.Nodup → (∀ a ∈ Fz, H a = none ∧ HB' a = none) → Q v H') → r x lo hi H Q
theorem Rps.cut {K : PySem.W.Frag} {mg : Str → Option Value} {HB H : Hp} : ∀ {vs : List V} {ds : List D} (n : Nat), Rps K mg HB H vs ds [] → Rps K mg HB H (vs.take n) (ds.take n) [] ∧ Rps K mg HB H (vs.drop n) (ds.drop n) [] := by
  intro vs
  induction vs with
  | nil =>
    intro ds n r
    have e : ds = [] := List.eq_nil_of_length_eq_zero (by rw [← r.length]; rfl)
    subst e
    simp only [List.take_nil, List.drop_nil]
    exact ⟨.nil, .nil⟩
  | cons v vs ih =>
    intro ds n r
    generalize hF : ([] : List Addr) = F0 at r
    cases r with
    | @cons _ _ d ds F G h r =>
      obtain ⟨rfl, rfl⟩ : F = [] ∧ G = [] := List.append_eq_nil_iff.mp hF.symm
      cases n with
      | zero => exact ⟨.nil, .cons h r⟩
      | succ n =>
        obtain ⟨h1, h2⟩ := ih n r
        simp only [List.take_succ_cons, List.drop_succ_cons]
        exact ⟨.cons h h1, h2⟩
theorem Rps.part {K : PySem.W.Frag} {mg : Str → Option Value} {HB H : Hp} {vs : List V} {ds : List D} {lo hi : Option Int} (r : Rps K mg HB H vs ds []) : Rps K mg HB H (cutV vs lo hi) (cutD ds lo hi) [] := by
  unfold cutV cutD
  rw [r.length]
  exact (Rps.cut _ (Rps.cut _ r).2).1
theorem fresh_one {H HB' : Hp} {p : Addr} (h1 : H p = none) (h2 : HB' p = none) : ∀ a ∈ [p], H a = none ∧ HB' a = none := fun a ha => by
  have : a = p := by simpa using ha
  subst this
  exact ⟨h1, h2⟩
theorem cut_whole {α : Type} {xs : List α} {lo hi : Option Int} (h : HT.sIx xs.length 0 lo = 0 ∧ HT.sIx xs.length xs.length hi = xs.length) : (xs.drop (HT.sIx xs.length 0 lo)).take (HT.sIx xs.length xs.length hi - HT.sIx xs.length 0 lo) = xs := by
  rw [h.1, h.2]; simp
theorem sl_seqS : SlS X.K X.mg (fun x lo hi H Q => rSlL X.K x lo hi H Q ∨ rSlA X.K x lo hi H Q ∨ rSlS x lo hi H Q) gSl := by
  intro HB H x d z lo hi F Q s rx hz hq
  unfold gSl at hz
  split at hz
  · split at hz
    · rename_i hn
      cases hz
      obtain ⟨a, xs, G1, rfl, h3, r3⟩ := rx.lstS s
      have e := r3.none hn
      subst e
      refine .inl ⟨a, xs, rfl, h3, fun p np => ?_⟩
      obtain ⟨x1, r1⟩ := new_lst s (r3.part (lo := lo) (hi := hi)) np
      exact hq _ _ _ _ x1 r1 (by simp) (fresh_one np (s.free np))
    · cases hz
  · split at hz
    · rename_i hn
      cases hz
      have e0 := rx.none (by rw [noOwn_tup]; exact hn)
      subst e0
      obtain ⟨a, xs, rfl, h3, r3⟩ := rx.tupS s
      refine .inr (.inl ⟨a, xs, rfl, h3, fun hw => ?_, fun _ p np => ?_⟩)
      · rw [r3.length] at hw
        have e := cut_whole hw
        unfold cutD at hq
        rw [e] at hq
        exact hq _ HB H [] (Ext.refl s) rx List.nodup_nil fun _ z => nomatch z
      · obtain ⟨x1, r1⟩ := new_tup s (r3.part (lo := lo) (hi := hi)) np
        exact hq _ _ _ _ x1 (r1 _) List.nodup_nil fun _ z => nomatch z
    · cases hz
  · split at hz
    · rename_i hl
      cases hz
      cases rx
      exact .inr (.inr ⟨_, rfl, line_of hl, hq _ HB H [] (Ext.refl s) (.str _) List.nodup_nil fun _ z => nomatch z⟩)
    · cases hz
  · cases hz
def oNone : OM := fun S => some (.ok none, S)
def oSome (m : EM) : OM := fun S => bnd (m S) fun d S1 => match d with
  | .int i => some (.ok (some i), S1)
  | _ => none
def TOd (K : PySem.W.Frag) (mg : Str → Option Value) (W : WX) (io : Bool) (m : OM) : TO := fun σ H Q => ∃ S HB Fr ft p0 r, StF K mg io S σ HB H Fr ft p0 ∧ m S = some r ∧ match r with
  | (.ok o, S') => ∀ H' HB' ft', Same HB HB' → StF K mg io S' σ HB' H' Fr ft' p0 → Q o H'
  | (.error e, S') => XPost K mg W io S' σ HB Fr p0 e
abbrev POd (X : Cx) (W : WX) (io : Bool) (e : Option Expr) (m : OM) : Prop := PO X e (TOd X.K X.mg W io m)
theorem PO.imp {X : Cx} {e : Option Expr} {t t' : TO} (h : PO X e t) (k : ∀ σ H Q, t' σ H Q → t σ H Q) : PO X e t' := ⟨fun pins s σ H Q I q => h.run pins s σ H Q I (k _ _ _ q)⟩
theorem po_noneD : POd X W io none oNone := PO.imp po_none fun σ H Q ⟨S, HB, Fr, ft, p0, z, st, e1, post⟩ => by
  cases e1
  exact post H HB ft (Same.refl _) st
theorem po_someD (h : PEd X W io e m) : POd X W io (some e) (oSome m) := PO.imp (po_some h) fun σ H Q ⟨S, HB, Fr, ft, p0, z, st, e1, post⟩ => by
  rcases bnd_some e1 with ⟨d, S1, h1, e2⟩ | ⟨er, S1, h1, rfl⟩
  · refine ⟨S, HB, Fr, ft, p0, _, st, h1, fun x H1 HB1 ft1 F1 s1 st1 hx => ?_⟩
    split at e2
    · cases e2
      cases hx.rp
      exact ⟨_, rfl, post H1 HB1 ft1 s1 st1⟩
    · cases e2
  · exact ⟨S, HB, Fr, ft, p0, _, st, h1, post⟩
def mSl (m : EM) (l u : OM) : EM := fun S => bnd (m S) fun d S1 => bnd (l S1) fun lo S2 => bnd (u S2) fun hi S3 => got (gSl d lo hi) S3
theorem pd_slice {lo hi : Option Expr} {l u : OM} {p2 : Pos} (he : PEd X W io e m) (hl : POd X W io lo l) (hu : POd X W io hi u) : PEd X W io (.Subscript e (.Slice lo hi none p2) pos) (mSl m l u) := by
  refine PE.imp (pe_slice (sl_list.or (sl_tupA.or sl_str)) he hl hu) fun σ H Q q => ?_
  refine seq_run q fun S HB H1 Fr ft p0 d v F z HB0 st s0 hd hk post => ?_
  have st1 := st.plus hd.rp.there hd.free
  have sp := same_plus (Fr := Fr) (H := H1) fun a ha => (hd.free a ha).2.1
  rcases bnd_some hk with ⟨o1, S2, h2, e3⟩ | ⟨er, S2, h2, rfl⟩
  · refine ⟨S, HB, _, ft, p0, _, st1, h2, fun H2 HB2 ft2 s2 st2 => ?_⟩
    rcases bnd_some e3 with ⟨o2, S3, h3, e4⟩ | ⟨er, S3, h3, rfl⟩
    · refine ⟨S2, HB2, _, ft2, p0, _, st2, h3, fun H3 HB3 ft3 s3 st3 => ?_⟩
      obtain ⟨z', h4, rfl⟩ := got_some e4
      have rd := hd.rp.mono (s2.trans s3) (plus_kept st3.fr hd.rp.there)
      exact sl_seqS HB3 H3 v d z' o1 o2 F Q st3.bs rd h4 (op_end (s0.trans (s2.trans s3)) sp st3 post)
    · exact ⟨S2, HB2, _, ft2, p0, _, st2, h3, XPost.aside post (s0.trans s2) sp⟩
  · exact ⟨S, HB, _, ft, p0, _, st1, h2, XPost.aside post s0 sp⟩

/-! ### built-in functions and types by values -/
def CallS (K : PySem.W.Frag) (mg : Str → Option Value) (r : List V → Hp → VK → Prop) (g : List D → Option D) : Prop :=
  ∀ (HB H : Hp) (xs : List V) (ds : List D) (z : D) (F : List Addr) (Q : VK), Same HB H → Rps K mg HB H xs ds F → g ds = some z →
    (∀ v HB' H' Fz, Ext HB H HB' H' → Rp K mg HB' H' v z Fz → Fz.Nodup → (∀ a ∈ Fz, H a = none ∧ HB' a = none) → Q v H') → r xs H Q
def CallD (X : Cx) (f : Value) (g : List D → Option D) : Prop := ∃ r, CallR X f r ∧ CallS X.K X.mg r g
theorem CallD.imp {f : Value} {g g' : List D → Option D} (h : CallD X f g) (k : ∀ d z, g' d = some z → g d = some z) : CallD X f g' := by
  obtain ⟨r, h1, h2⟩ := h
  exact ⟨r, h1, fun HB H x d z F Q s rx hz => h2 HB H x d z F Q s rx (k _ _ hz)⟩
def cOr (g g' : List D → Option D) : List D → Option D := fun d => match g d with
  | some z => some z
  | none => g' d
theorem CallD.or {f : Value} {g g' : List D → Option D} (h : CallD X f g) (h' : CallD X f g') : CallD X f (cOr g g') := by
  obtain ⟨r, h1, h2⟩ := h
  obtain ⟨r', h1', h2'⟩ := h'
  refine ⟨_, h1.or h1', fun HB H x d z F Q s rx hz hq => ?_⟩
  unfold cOr at hz
  split at hz
  · rename_i z' hz'
    cases hz
    exact .inl (h2 HB H x d _ F Q s rx hz' hq)
  · exact .inr (h2' HB H x d z F Q s rx hz hq)
def mCB (g : List D → Option D) (am : AM) : EM := fun S => bnd (am S) fun ds S1 => got (g ds) S1
theorem cb_run {r : List V → Hp → VK → Prop} {g : List D → Option D} (hs : CallS X.K X.mg r g) {σ : L2.St} {H : Hp} {Q : VK} (h : TEd X.K X.mg W io (mCB g am) σ H Q) : tCB r (TAd X.K X.mg W io am) σ H Q :=
  args_run h fun S HB H1 Fr ft p0 ds vs F z HB0 st s0 hd hk post => by
    obtain ⟨z', h1, rfl⟩ := got_some hk
    exact hs HB H1 vs ds z' F Q st.bs hd.rp h1 (op_end s0 (Same.refl _) st post)
theorem pd_callB {id : String} {x : Str} {p : Pos} {g : List D → Option D} (h : CallD X (.builtin id) g) (hm : X.mg x = none) (hv : bootBuiltins x = some (.builtin id)) (ha : PAd X W io (e :: es) am) (hg : Gl X x := by rfl) (hn : x ≠ "__name__" := by decide) (hdb : (x == ("__debug__" : Str)) = false := by decide)
    (he : starEach (e :: es) X.env = (false, eval e X.env) :: starEach es X.env := by rfl) (hpl : (backTo pos (starEach es X.env)).any (·.1) = false := by rfl) : PEd X W io (.Call (.Name x p) (e :: es) [] pos) (mCB g am) := by
  obtain ⟨r, h1, h2⟩ := h
  exact PE.imp (pe_callB h1 hg hm hv ha hn hdb he hpl) fun σ H Q q => cb_run h2 q
theorem pd_callTy {T : String} {x : Str} {p : Pos} {g : List D → Option D} (h : CallD X (.type T) g) (hm : X.mg x = none) (hv : bootBuiltins x = some (.type T)) (ha : PAd X W io (e :: es) am) (hg : Gl X x := by rfl) (hn : x ≠ "__name__" := by decide) (hdb : (x == ("__debug__" : Str)) = false := by decide)
    (he : starEach (e :: es) X.env = (false, eval e X.env) :: starEach es X.env := by rfl) (hpl : (backTo pos (starEach es X.env)).any (·.1) = false := by rfl) : PEd X W io (.Call (.Name x p) (e :: es) [] pos) (mCB g am) := by
  obtain ⟨r, h1, h2⟩ := h
  exact PE.imp (pe_callTy h1 hg hm hv ha hn hdb he hpl) fun σ H Q q => cb_run h2 q
end
end Fx

set_option maxHeartbeats 2000000
namespace Fx
open PySem PySem.Spec PyProof.Rows L2

/-! ### slots change -/
theorem keysK : ∀ ds : List (Key × D), (fzK ds).map (·.1) = ds.map (·.1)
  | [] => by simp [fzK]
  | (k, d) :: r => by simp only [fzK, List.map_cons, keysK r]
theorem keysT : ∀ ds : List (List Key × D), (fzT ds).map (·.1) = ds.map (·.1)
  | [] => by simp [fzT]
  | (k, d) :: r => by simp only [fzT, List.map_cons, keysT r]
theorem valsK : ∀ ds : List (Key × D), (fzK ds).map (·.2) = fzs (ds.map (·.2))
  | [] => by simp [fzK, fzs]
  | (k, d) :: r => by simp only [fzK, fzs, List.map_cons, valsK r]
theorem valsT : ∀ ds : List (List Key × D), (fzT ds).map (·.2) = fzs (ds.map (·.2))
  | [] => by simp [fzT, fzs]
  | (k, d) :: r => by simp only [fzT, fzs, List.map_cons, valsT r]
section
variable {K : PySem.W.Frag} {mg : Str → Option Value} {io : Bool} {S : Sl} {σ : L2.St} {HB H Fr : Hp} {ft : Nat → List Addr} {p0 : Option V} {v : V} {d : D} {F : List Addr}
theorem StF.has (st : StF K mg io S σ HB H Fr ft p0) {i : Nat} {a : Addr} (ha : a ∈ ft i) : ∃ d, S[i]? = some (some d) := by
  apply Classical.byContradiction
  intro q
  rw [st.emp i fun d h => q ⟨d, h⟩] at ha
  cases ha
theorem StF.own (st : StF K mg io S σ HB H Fr ft p0) {i : Nat} {a : Addr} (ha : a ∈ ft i) : ∃ o, H a = some o ∧ Mu o := by
  obtain ⟨d, hd⟩ := st.has ha
  obtain ⟨_, _, r⟩ := st.val i d hd
  exact r.there a ha
theorem set_get {α : Type} {l : List α} {i j : Nat} {x y : α} (h : (l.set i x)[j]? = some y) : (j = i ∧ i < l.length ∧ y = x) ∨ (j ≠ i ∧ l[j]? = some y) := by
  rw [List.getElem?_set] at h
  by_cases e : i = j
  · rw [if_pos e] at h
    split at h
    · cases h; exact .inl ⟨e.symm, by omega, rfl⟩
    · cases h
  · rw [if_neg e] at h
    exact .inr ⟨fun q => e q.symm, h⟩
theorem StF.put (st : StF K mg io S σ HB H Fr ft p0) (hd : Hand K mg HB H Fr ft v d F) {i : Nat} (hi : io = false ∨ i ≠ 0) : ∃ ft', StF K mg io (S.set i (some d)) (σ.set i (some v)) HB H Fr ft' p0 := by
  by_cases hl : i < S.length
  case neg =>
    have e1 : S.set i (some d) = S := List.set_eq_of_length_le (by omega)
    have e2 : σ.set i (some v) = σ := List.set_eq_of_length_le (by rw [← st.len]; omega)
    rw [e1, e2]
    exact ⟨ft, st⟩
  refine ⟨fun j => if j = i then F else ft j, ?_⟩
  constructor
  · rw [List.length_set, List.length_set, st.len]
  · exact st.bs
  · exact st.fr
  · exact st.dis
  · intro j e h
    rcases set_get h with ⟨rfl, h1, h2⟩ | ⟨h1, h2⟩
    · cases h2
      rw [if_pos rfl, List.getElem?_set_self (by rw [← st.len]; exact h1)]
      exact ⟨v, rfl, hd.rp⟩
    · rw [if_neg h1]
      obtain ⟨u, q1, q2⟩ := st.val j e h2
      exact ⟨u, by rw [List.getElem?_set_ne (fun q => h1 q.symm)]; exact q1, q2⟩
  · intro j h
    by_cases e : j = i
    · subst e
      exact absurd (List.getElem?_set_self (a := some d) hl) (h d)
    · rw [if_neg e]
      exact st.emp j fun d' q => h d' (by rw [List.getElem?_set_ne (fun q => e q.symm)]; exact q)
  · intro j a ha
    split at ha
    · exact ⟨(hd.free a ha).1, (hd.free a ha).2.1⟩
    · exact st.free j a ha
  · intro j
    split
    · exact hd.nd
    · exact st.nd j
  · intro j k a h1 h2
    split at h1 <;> split at h2
    · omega
    · exact absurd h2 ((hd.free a h1).2.2 k)
    · exact absurd h1 ((hd.free a h2).2.2 j)
    · exact st.sep j k a h1 h2
  · intro u hu
    obtain ⟨h1, h2⟩ := st.pin u hu
    refine ⟨h1, ?_⟩
    rcases hi with hi | hi
    · rw [hi] at h1; cases h1
    · rw [List.getElem?_set_ne hi]; exact h2
  · exact st.frm
/-- a slot is forgotten -/
theorem StF.drop (st : StF K mg io S σ HB H Fr ft p0) (i : Nat) : ∃ ft', StF K mg io (S.set i none) σ HB H Fr ft' p0 ∧ ∀ j, j ≠ i → ft' j = ft j := by
  refine ⟨fun j => if j = i then [] else ft j, ?_, fun j h => if_neg h⟩
  constructor
  · rw [List.length_set, st.len]
  · exact st.bs
  · exact st.fr
  · exact st.dis
  · intro j e h
    rcases set_get h with ⟨rfl, h1, h2⟩ | ⟨h1, h2⟩
    · cases h2
    · rw [if_neg h1]
      exact st.val j e h2
  · intro j h
    split
    · rfl
    · rename_i e
      exact st.emp j fun d' q => h d' (by rw [List.getElem?_set_ne (fun q => e q.symm)]; exact q)
  · intro j a ha
    split at ha
    · cases ha
    · exact st.free j a ha
  · intro j
    split
    · exact List.nodup_nil
    · exact st.nd j
  · intro j k a h1 h2
    split at h1
    · cases h1
    · split at h2
      · cases h2
      · exact st.sep j k a h1 h2
  · exact st.pin
  · exact st.frm
/-- a slot's thing is taken in hand -/
theorem StF.take (st : StF K mg io S σ HB H Fr ft p0) {i : Nat} (h : S[i]? = some (some d)) : ∃ v ft', σ[i]? = some (some v) ∧ StF K mg io (S.set i none) σ HB H Fr ft' p0 ∧ Hand K mg HB H Fr ft' v d (ft i) ∧ ∀ j a, a ∈ ft' j → j ≠ i ∧ a ∈ ft j := by
  obtain ⟨v, h1, r⟩ := st.val i d h
  refine ⟨v, fun j => if j = i then [] else ft j, h1, ?_, ?_, fun j a ha => ?_⟩
  · obtain ⟨ft', s1, e⟩ := st.drop i
    have e2 : ft' = fun j => if j = i then [] else ft j := by
      funext j
      by_cases hj : j = i
      · subst hj
        rw [if_pos rfl]
        exact s1.emp j fun d q => by
          rw [List.getElem?_set] at q
          split at q
          · split at q <;> cases q
          · exact absurd rfl ‹_›
      · rw [if_neg hj]; exact e j hj
    rw [← e2]; exact s1
  · refine ⟨r, st.nd i, fun a ha => ⟨(st.free i a ha).1, (st.free i a ha).2, fun j hj => ?_⟩⟩
    split at hj
    · cases hj
    · rename_i e
      exact e (st.sep j i a hj ha)
  · dsimp only at ha
    split at ha
    · cases ha
    · rename_i e
      exact ⟨e, ha⟩
mutual
theorem Rp.frz {HB' : Hp} (s : Same HB HB') : ∀ {v : V} {d : D} {F : List Addr}, Rp K mg HB H v d F → (∀ a ∈ F, HB' a = H a) → Rp K mg HB' H v (fz d) []
  | _, _, _, .non, _ => by simp only [fz]; exact .non
  | _, _, _, .bl b, _ => by simp only [fz]; exact .bl b
  | _, _, _, .int i, _ => by simp only [fz]; exact .int i
  | _, _, _, .str x, _ => by simp only [fz]; exact .str x
  | _, _, _, .ty x, _ => by simp only [fz]; exact .ty x
  | _, _, _, .fn h, _ => by simp only [fz]; exact .fn h
  | _, _, _, .tup q h r, k => by simp only [fz]; exact .tup (q.imp id (s _ _)) (same_seqT s h) (Rps.frz s r k)
  | _, _, _, .lst h r, k => by simp only [fz]; exact .lst (s _ _ h) (Rps.frz s r fun _ z => nomatch z)
  | _, _, _, .fix h r, k => by simp only [fz]; exact .fix (s.seq h) (Rps.frz s r fun _ z => nomatch z)
  | _, _, _, .own h r, k => by simp only [fz]; exact .lst ((k _ List.mem_cons_self).trans h) (Rps.frz s r fun a z => k a (List.mem_cons_of_mem _ z))
  | _, _, _, .dic h q r, k => by simp only [fz]; exact .dic (s _ _ h) (q.trans (keysK _).symm) (by rw [valsK]; exact Rps.frz s r fun _ z => nomatch z)
  | _, _, _, .dicO h q r, k => by simp only [fz]; exact .dic ((k _ List.mem_cons_self).trans h) (q.trans (keysK _).symm) (by rw [valsK]; exact Rps.frz s r fun a z => k a (List.mem_cons_of_mem _ z))
  | _, _, _, .dit h q r, k => by simp only [fz]; exact .dit (s _ _ h) (q.trans (keysT _).symm) (by rw [valsT]; exact Rps.frz s r fun _ z => nomatch z)
  | _, _, _, .ditO h q r, k => by simp only [fz]; exact .dit ((k _ List.mem_cons_self).trans h) (q.trans (keysT _).symm) (by rw [valsT]; exact Rps.frz s r fun a z => k a (List.mem_cons_of_mem _ z))
theorem Rps.frz {HB' : Hp} (s : Same HB HB') : ∀ {vs : List V} {ds : List D} {F : List Addr}, Rps K mg HB H vs ds F → (∀ a ∈ F, HB' a = H a) → Rps K mg HB' H vs (fzs ds) []
  | _, _, _, .nil, _ => by simp only [fzs]; exact .nil
  | _, _, _, .cons h r, k => by
    simp only [fzs]
    have := Rps.cons (Rp.frz s h fun a z => k a (List.mem_append_left _ z)) (Rps.frz s r fun a z => k a (List.mem_append_right _ z))
    exact this
end
mutual
theorem noOwn_of_fz : ∀ d : D, noOwn (fz d) = true
  | .non => by simp [fz, noOwn]
  | .bl _ => by simp [fz, noOwn]
  | .int _ => by simp [fz, noOwn]
  | .str _ => by simp [fz, noOwn]
  | .fn _ => by simp [fz, noOwn]
  | .ty _ => by simp [fz, noOwn]
  | .tup _ ds => by simp only [fz, noOwn_tup]; exact noOwns_of_fz ds
  | .lst o ds => by
    simp only [fz, noOwn_lst, noOwns_of_fz ds, Bool.and_true, decide_eq_true_eq]
    split
    · decide
    · assumption
  | .dic o ds => by
    rw [fz, noOwn_dic, valsK, noOwnK_of_fz ds, Bool.and_true, decide_eq_true_eq]
    split
    · decide
    · assumption
  | .dit o ds => by
    rw [fz, noOwn_dit, valsT, noOwnT_of_fz ds, Bool.and_true, decide_eq_true_eq]
    split
    · decide
    · assumption
theorem noOwns_of_fz : ∀ ds : List D, noOwns (fzs ds) = true
  | [] => by simp [fzs, noOwns]
  | d :: ds => by simp only [fzs, noOwns, noOwn_of_fz d, noOwns_of_fz ds, Bool.and_self]
theorem noOwnK_of_fz : ∀ ds : List (Key × D), noOwns (fzs (ds.map (·.2))) = true
  | [] => by simp [fzs, noOwns]
  | (k, d) :: ds => by simp only [List.map_cons, fzs, noOwns, noOwn_of_fz d, noOwnK_of_fz ds, Bool.and_self]
theorem noOwnT_of_fz : ∀ ds : List (List Key × D), noOwns (fzs (ds.map (·.2))) = true
  | [] => by simp [fzs, noOwns]
  | (k, d) :: ds => by simp only [List.map_cons, fzs, noOwns, noOwn_of_fz d, noOwnT_of_fz ds, Bool.and_self]
end
theorem StF.give (st : StF K mg io S σ HB H Fr ft p0) {vs : List V} {ds : List D} (hd : Hands K mg HB H Fr ft vs ds F) :
    Same HB (Fx.plus HB F H) ∧ StF K mg io S σ (Fx.plus HB F H) H Fr ft p0 ∧ Rps K mg (Fx.plus HB F H) H vs (fzs ds) [] := by
  have s : Same HB (Fx.plus HB F H) := same_plus fun a ha => (hd.free a ha).1
  have sub : Same (Fx.plus HB F H) H := fun a o e => by
    by_cases ha : a ∈ F
    · rwa [plus_in ha] at e
    · rw [plus_out ha] at e; exact st.bs a o e
  refine ⟨s, ?_, hd.rp.frz s fun a ha => plus_in ha⟩
  exact {
    len := st.len
    bs := sub
    fr := st.fr
    dis := fun a o e => by
      have n : a ∉ F := fun z => by rw [(hd.free a z).2.1] at e; cases e
      rw [plus_out n]; exact st.dis a o e
    val := fun i d h => by
      obtain ⟨v, h1, r⟩ := st.val i d h
      exact ⟨v, h1, r.mono s fun _ _ => rfl⟩
    emp := st.emp
    free := fun i a ha => ⟨by
      have n : a ∉ F := fun z => (hd.free a z).2.2 i ha
      rw [plus_out n]; exact (st.free i a ha).1, (st.free i a ha).2⟩
    nd := st.nd
    sep := st.sep
    pin := st.pin
    frm := st.frm }
theorem StF.give1 (st : StF K mg io S σ HB H Fr ft p0) (hd : Hand K mg HB H Fr ft v d F) :
    ∃ HB', Same HB HB' ∧ StF K mg io S σ HB' H Fr ft p0 ∧ Rp K mg HB' H v (fz d) [] := by
  obtain ⟨h1, h2, h3⟩ := st.give hd.one
  refine ⟨_, h1, h2, ?_⟩
  generalize hF : ([] : List Addr) = G at h3
  cases h3 with
  | @cons _ _ _ _ F1 G1 h r =>
    obtain ⟨rfl, rfl⟩ : F1 = [] ∧ G1 = [] := List.append_eq_nil_iff.mp hF.symm
    exact h
/-- one's own thing at slot i is changed -/
theorem StF.chg (st : StF K mg io S σ HB H Fr ft p0) {i : Nat} {p : Addr} {o o' : HO} {d' : D} {G G' : List Addr} (h : S[i]? = some (some d)) (hv : σ[i]? = some (some (.ref p))) (hf : ft i = p :: G)
    (m' : Mu o') (r : Rp K mg HB (upd H p o') (.ref p) d' (p :: G')) (nd : (p :: G').Nodup) (free : ∀ a ∈ G', HB a = none ∧ Fr a = none ∧ ∀ j, j ≠ i → a ∉ ft j) :
    StF K mg io (S.set i (some d')) σ HB (upd H p o') Fr (fun j => if j = i then p :: G' else ft j) p0 := by
  have hp : p ∈ ft i := by rw [hf]; exact List.mem_cons_self
  have ne : ∀ a u, HB a = some u → a ≠ p := fun a u e z => by rw [z, (st.free i p hp).1] at e; cases e
  constructor
  · rw [List.length_set, st.len]
  · exact fun a u e => by rw [upd_ne (ne a u e)]; exact st.bs a u e
  · exact fun a u e => by
      have : a ≠ p := fun z => by rw [z, (st.free i p hp).2] at e; cases e
      rw [upd_ne this]; exact st.fr a u e
  · exact st.dis
  · intro j e q
    rcases set_get q with ⟨rfl, _, h2⟩ | ⟨h1, h2⟩
    · cases h2
      rw [if_pos rfl]
      exact ⟨_, hv, r⟩
    · rw [if_neg h1]
      obtain ⟨u, q1, q2⟩ := st.val j e h2
      exact ⟨u, q1, q2.mono (Same.refl _) fun a ha => upd_ne fun z => h1 (st.sep j i a ha (z ▸ hp))⟩
  · intro j q
    by_cases e : j = i
    · subst e
      have hl : j < S.length := by
        have := (List.getElem?_eq_some_iff.mp h).1
        exact this
      exact absurd (List.getElem?_set_self (a := some d') hl) (q d')
    · rw [if_neg e]
      exact st.emp j fun d' q' => q d' (by rw [List.getElem?_set_ne (fun z => e z.symm)]; exact q')
  · intro j a ha
    split at ha
    · rcases List.mem_cons.mp ha with rfl | ha
      · exact st.free i _ hp
      · exact ⟨(free a ha).1, (free a ha).2.1⟩
    · exact st.free j a ha
  · intro j
    split
    · exact nd
    · exact st.nd j
  · intro j k a h1 h2
    split at h1 <;> split at h2
    · omega
    · rename_i e1 e2
      rcases List.mem_cons.mp h1 with rfl | h1
      · exact absurd (st.sep i k _ hp h2) (fun z => e2 z.symm)
      · exact absurd h2 ((free a h1).2.2 k e2)
    · rename_i e1 e2
      rcases List.mem_cons.mp h2 with rfl | h2
      · exact absurd (st.sep i j _ hp h1) (fun z => e1 z.symm)
      · exact absurd h1 ((free a h2).2.2 j e1)
    · exact st.sep j k a h1 h2
  · exact st.pin
  · exact st.frm
end
end Fx

set_option maxHeartbeats 2000000
namespace Fx
open PySem PySem.Spec PyProof.Rows L2

/-! ### statements -/
inductive SR where
  | nx | bk | ct | ret (d : D) | err (e : Er)
abbrev SM := Sl → Option (SR × Sl)
section
variable (K : PySem.W.Frag) (mg : Str → Option Value) (W : WX) (io : Bool)
def SPost (HB Fr : Hp) (p0 : Option V) (E : Ends) : SR × Sl → Prop
  | (.nx, S') => ∀ σ' H' HB' ft', Same HB HB' → StF K mg io S' σ' HB' H' Fr ft' p0 → E.nx σ' H'
  | (.bk, S') => ∀ σ' H' HB' ft', Same HB HB' → StF K mg io S' σ' HB' H' Fr ft' p0 → E.bk σ' H'
  | (.ct, S') => ∀ σ' H' HB' ft', Same HB HB' → StF K mg io S' σ' HB' H' Fr ft' p0 → E.ct σ' H'
  | (.ret d, S') => ∀ v σ' H' HB' ft' F, Same HB HB' → StF K mg io S' σ' HB' H' Fr ft' p0 → Hand K mg HB' H' Fr ft' v d F → E.rt v H'
  | (.err e, S') => ∀ σ', XPost K mg W io S' σ' HB Fr p0 e
def TSd (m : SM) : TS := fun E σ H => ∃ S HB Fr ft p0 r, StF K mg io S σ HB H Fr ft p0 ∧ m S = some r ∧ SPost K mg W io HB Fr p0 E r
end
abbrev PSd (X : Cx) (W : WX) (io : Bool) (st : Stmt) (m : SM) : Prop := PS X st (TSd X.K X.mg W io m)
abbrev PSsd (X : Cx) (W : WX) (io : Bool) (st : List Stmt) (m : SM) : Prop := PSs X st (TSd X.K X.mg W io m)
theorem PS.imp {X : Cx} {e : Stmt} {t t' : TS} (h : PS X e t) (k : ∀ E σ H, t' E σ H → t E σ H) : PS X e t' := ⟨fun pins s σ H E I q => h.run pins s σ H E I (k _ _ _ q)⟩
theorem PSs.imp {X : Cx} {e : List Stmt} {t t' : TS} (h : PSs X e t) (k : ∀ E σ H, t' E σ H → t E σ H) : PSs X e t' := ⟨fun pins s σ H E I q => h.run pins s σ H E I (k _ _ _ q)⟩
section
variable {X : Cx} {W : WX} {io : Bool} {a b c e : Expr} {es : List Expr} {ma mb m : EM} {pos : Pos} {s1 s2 : SM} {st : Stmt} {rest : List Stmt}
theorem SPost.on {K : PySem.W.Frag} {mg : Str → Option Value} {HB0 HB Fr Fr' : Hp} {p0 : Option V} {E : Ends} {z : SR × Sl} (s : Same HB0 HB) (f : Same Fr Fr') (h : SPost K mg W io HB0 Fr p0 E z) : SPost K mg W io HB Fr' p0 E z := by
  obtain ⟨r, S⟩ := z
  cases r with
  | nx => exact fun σ' H' HB' ft' s' st => h σ' H' HB' ft' (s.trans s') (st.less f)
  | bk => exact fun σ' H' HB' ft' s' st => h σ' H' HB' ft' (s.trans s') (st.less f)
  | ct => exact fun σ' H' HB' ft' s' st => h σ' H' HB' ft' (s.trans s') (st.less f)
  | ret d => exact fun v σ' H' HB' ft' F s' st hd => h v σ' H' HB' ft' F (s.trans s') (st.less f) ⟨hd.rp, hd.nd, fun a ha => ⟨(hd.free a ha).1, f.free (hd.free a ha).2.1, (hd.free a ha).2.2⟩⟩
  | err e => exact fun σ' => XPost.aside (h σ') s f
def sNx : SM := fun S => some (.nx, S)
def sSeq (a b : SM) : SM := fun S => match a S with
  | some (.nx, S1) => b S1
  | r => r
theorem pss_nilD : PSsd X W io [] sNx := PSs.imp pss_nil fun E σ H ⟨S, HB, Fr, ft, p0, z, st, e1, post⟩ => by
  cases e1
  exact post σ H HB ft (Same.refl _) st
theorem pss_consD (h1 : PSd X W io st s1) (h2 : PSsd X W io rest s2) : PSsd X W io (st :: rest) (sSeq s1 s2) := PSs.imp (pss_cons h1 h2) fun E σ H ⟨S, HB, Fr, ft, p0, z, st, e1, post⟩ => by
  show TSd X.K X.mg W io s1 { E with nx := TSd X.K X.mg W io s2 E } σ H
  unfold sSeq at e1
  split at e1
  · rename_i S1 h
    exact ⟨S, HB, Fr, ft, p0, _, st, h, fun σ' H' HB' ft' s' st' => ⟨S1, HB', Fr, ft', p0, z, st', e1, post.on s' (Same.refl _)⟩⟩
  · rename_i h
    refine ⟨S, HB, Fr, ft, p0, z, st, e1, ?_⟩
    obtain ⟨r, S'⟩ := z
    cases r with
    | nx => exact absurd e1 (h S')
    | _ => exact post
theorem pss_oneD (h1 : PSd X W io st s1) : PSsd X W io [st] s1 := pss_one h1
/-- an expression, then what is done with its value -/
def andThen (m : EM) (k : D → Sl → Option (SR × Sl)) : SM := fun S => match m S with
  | some (.ok d, S1) => k d S1
  | some (.error e, S1) => some (.err e, S1)
  | none => none
theorem then_run {k : D → Sl → Option (SR × Sl)} {E : Ends} {σ : L2.St} {H : Hp} {R : VK} (h : TSd X.K X.mg W io (andThen m k) E σ H)
    (fin : ∀ S HB H1 Fr ft p0 d v F z HB0, StF X.K X.mg io S σ HB H1 Fr ft p0 → Same HB0 HB → Hand X.K X.mg HB H1 Fr ft v d F → k d S = some z → SPost X.K X.mg W io HB0 Fr p0 E z → R v H1) : TEd X.K X.mg W io m σ H R := by
  obtain ⟨S, HB, Fr, ft, p0, z, st, e1, post⟩ := h
  unfold andThen at e1
  split at e1
  · rename_i d S1 h1
    exact ⟨S, HB, Fr, ft, p0, _, st, h1, fun x H1 HB1 ft1 F1 s1 st1 hx => fin S1 HB1 H1 Fr ft1 p0 d x F1 z HB st1 s1 hx e1 post⟩
  · rename_i er S1 h1
    cases e1
    exact ⟨S, HB, Fr, ft, p0, _, st, h1, post σ⟩
  · cases e1
def sRet (m : EM) : SM := andThen m fun d S => some (.ret d, S)
theorem ps_retD (h : PEd X W io e m) : PSd X W io (.Return (some e) pos) (sRet m) := PS.imp (ps_ret h) fun E σ H q => then_run q fun S HB H1 Fr ft p0 d v F z HB0 st s0 hd hk post => by
  cases hk
  exact post v σ H1 HB ft F s0 st hd
def sRetN : SM := fun S => some (.ret .non, S)
theorem ps_retND : PSd X W io (.Return none pos) sRetN := PS.imp ps_retN fun E σ H ⟨S, HB, Fr, ft, p0, z, st, e1, post⟩ => by
  cases e1
  exact post .non σ H HB ft [] (Same.refl _) st ⟨.non, List.nodup_nil, fun _ z => nomatch z⟩
def sEx (m : EM) : SM := andThen m fun _ S => some (.nx, S)
theorem ps_exprD (h : PEd X W io e m) (hs : swapsWith e none pos.line X.env = pure false := by rfl) : PSd X W io (.Expr e pos) (sEx m) := PS.imp (ps_expr h hs) fun E σ H q => then_run q fun S HB H1 Fr ft p0 d v F z HB0 st s0 hd hk post => by
  cases hk
  exact post σ H1 HB ft s0 st
theorem ps_passD : PSd X W io (.Pass pos) sNx := PS.imp ps_pass fun E σ H ⟨S, HB, Fr, ft, p0, z, st, e1, post⟩ => by
  cases e1
  exact post σ H HB ft (Same.refl _) st
def sBk : SM := fun S => some (.bk, S)
def sCt : SM := fun S => some (.ct, S)
theorem ps_breakD : PSd X W io (.Break pos) sBk := PS.imp ps_break fun E σ H ⟨S, HB, Fr, ft, p0, z, st, e1, post⟩ => by
  cases e1
  exact post σ H HB ft (Same.refl _) st
theorem ps_continueD : PSd X W io (.Continue pos) sCt := PS.imp ps_continue fun E σ H ⟨S, HB, Fr, ft, p0, z, st, e1, post⟩ => by
  cases e1
  exact post σ H HB ft (Same.refl _) st
def sIf (t : BM) (a b : SM) : SM := fun S => match t S with
  | some (.ok true, S1) => a S1
  | some (.ok false, S1) => b S1
  | some (.error e, S1) => some (.err e, S1)
  | none => none
theorem ps_ifD {t : BM} {x y : List Stmt} (hc : PTd X W io c t) (ha : PSsd X W io x s1) (hb : PSsd X W io y s2) : PSd X W io (.If c x y pos) (sIf t s1 s2) := PS.imp (ps_if hc ha hb) fun E σ H ⟨S, HB, Fr, ft, p0, z, st, e1, post⟩ => by
  show TTd X.K X.mg W io t σ H fun b H1 => if b = true then TSd X.K X.mg W io s1 E σ H1 else TSd X.K X.mg W io s2 E σ H1
  unfold sIf at e1
  split at e1
  · rename_i S1 h1
    exact ⟨S, HB, Fr, ft, p0, _, st, h1, fun H1 HB1 ft1 s1 st1 => iteT ⟨S1, HB1, Fr, ft1, p0, z, st1, e1, post.on s1 (Same.refl _)⟩⟩
  · rename_i S1 h1
    exact ⟨S, HB, Fr, ft, p0, _, st, h1, fun H1 HB1 ft1 s1 st1 => iteF ⟨S1, HB1, Fr, ft1, p0, z, st1, e1, post.on s1 (Same.refl _)⟩⟩
  · rename_i er S1 h1
    cases e1
    exact ⟨S, HB, Fr, ft, p0, _, st, h1, post σ⟩
  · cases e1

/-! ### targets -/
abbrev GM := D → Sl → Option Sl
section
variable (K : PySem.W.Frag) (mg : Str → Option Value) (io : Bool)
def TGd (vs : List Nat) (g : GM) : TG := fun v σ H Q => ∃ S HB Fr ft p0 d F S', StF K mg io S σ HB H Fr ft p0 ∧ Hand K mg HB H Fr ft v d F ∧ g d S = some S' ∧
  ∀ σ' H' HB' ft', Same HB HB' → StF K mg io S' σ' HB' H' Fr ft' p0 → σ'.length = σ.length → (∀ j, j ∉ vs → σ'[j]? = σ[j]?) → Q σ' H'
def TGsd (vs : List Nat) (g : List D → Sl → Option Sl) : TGs := fun xs σ H Q => ∃ S HB Fr ft p0 ds F S', StF K mg io S σ HB H Fr ft p0 ∧ Hands K mg HB H Fr ft xs ds F ∧ g ds S = some S' ∧
  ∀ σ' H' HB' ft', Same HB HB' → StF K mg io S' σ' HB' H' Fr ft' p0 → σ'.length = σ.length → (∀ j, j ∉ vs → σ'[j]? = σ[j]?) → Q σ' H'
end
abbrev PGd (X : Cx) (io : Bool) (vs : List Nat) (e : Expr) (g : GM) : Prop := PG X e (TGd X.K X.mg io vs g)
abbrev PGsd (X : Cx) (io : Bool) (vs : List Nat) (e : List Expr) (g : List D → Sl → Option Sl) : Prop := PGs X e (TGsd X.K X.mg io vs g)
theorem PG.imp {X : Cx} {e : Expr} {t t' : TG} (h : PG X e t) (k : ∀ v σ H Q, t' v σ H Q → t v σ H Q) : PG X e t' := ⟨fun pins s σ H v u Q I r q => h.run pins s σ H v u Q I r (k _ _ _ _ q)⟩
theorem PGs.imp {X : Cx} {e : List Expr} {t t' : TGs} (h : PGs X e t) (k : ∀ v σ H Q, t' v σ H Q → t v σ H Q) : PGs X e t' := ⟨fun pins s σ H v u Q I r q => h.run pins s σ H v u Q I r (k _ _ _ _ q)⟩
def gNm (i : Nat) : GM := fun d S => some (S.set i (some d))
theorem pg_nameD {i : Nat} {x : Str} (hN : X.N.Nodup) (hi : X.N[i]? = some x := by rfl) (hx : Loc X.env.scope x := by first | exact Or.inl rfl | exact Or.inr rfl) (h0 : io = false ∨ i ≠ 0 := by first | exact Or.inl rfl | exact Or.inr (by decide))
    (hf : X.fn x = true ∨ X.env.scope.names.lookup x = some .local := by first | exact .inl rfl | exact .inr rfl) : PGd X io [i] (.Name x pos) (gNm i) := PG.imp (pg_name hN hi hx hf) fun v σ H Q ⟨S, HB, Fr, ft, p0, d, F, S', st, hd, hk, post⟩ => by
  cases hk
  obtain ⟨ft', st'⟩ := st.put hd h0
  exact post _ H HB ft' (Same.refl _) st' (by rw [List.length_set]) fun j hj => List.getElem?_set_ne fun z => hj (by simp [z])
def gsNil : List D → Sl → Option Sl := fun ds S => match ds with
  | [] => some S
  | _ => none
def gsCons (g : GM) (r : List D → Sl → Option Sl) : List D → Sl → Option Sl := fun ds S => match ds with
  | d :: ds => (g d S).bind fun S1 => r ds S1
  | _ => none
theorem pgs_nilD : PGsd X io [] [] gsNil := PGs.imp pgs_nil fun v σ H Q ⟨S, HB, Fr, ft, p0, ds, F, S', st, hd, hk, post⟩ => by
  unfold gsNil at hk
  split at hk
  · cases hk
    have e : v = [] := List.eq_nil_of_length_eq_zero hd.rp.length
    exact ⟨e, post σ H HB ft (Same.refl _) st rfl fun _ _ => rfl⟩
  · cases hk
theorem pgs_consD {vs ws : List Nat} {g : GM} {r : List D → Sl → Option Sl} (h1 : PGd X io vs e g) (h2 : PGsd X io ws es r) (hs : (assignEach (e :: es) X.env).map (·.2) = assign e X.env :: (assignEach es X.env).map (·.2) := by rfl) : PGsd X io (vs ++ ws) (e :: es) (gsCons g r) :=
  PGs.imp (pgs_cons h1 h2 hs) fun v σ H Q ⟨S, HB, Fr, ft, p0, ds, F, S', st, hd, hk, post⟩ => by
  unfold gsCons at hk
  split at hk
  · rename_i d ds
    obtain ⟨S1, k1, k2⟩ := Option.bind_eq_some_iff.mp hk
    obtain ⟨rp, nd, free⟩ := hd
    cases rp with
    | @cons x xs _ _ F1 G1 hx hxs =>
      obtain ⟨n1, n2, n3⟩ := List.nodup_append.mp nd
      have fr2 : ∀ a ∈ G1, HB a = none ∧ Fr a = none ∧ ∀ i, a ∉ ft i := fun a ha => free a (List.mem_append_right _ ha)
      have sp := same_plus (Fr := Fr) (H := H) fun a ha => (fr2 a ha).2.1
      refine ⟨x, xs, rfl, S, HB, Fx.plus Fr G1 H, ft, p0, d, F1, S1, st.plus hxs.there fr2, ⟨hx, n1, fun a ha => ⟨(free a (List.mem_append_left _ ha)).1, ?_, (free a (List.mem_append_left _ ha)).2.2⟩⟩, k1, fun σ2 H2 HB2 ft2 s2 st2 l2 o2 => ?_⟩
      · rw [plus_out fun z => n3 a ha a z rfl]; exact (free a (List.mem_append_left _ ha)).2.1
      · refine ⟨S1, HB2, Fr, ft2, p0, ds, G1, S', st2.less sp, ⟨hxs.mono s2 (plus_kept st2.fr hxs.there), n2, fun a ha => ?_⟩, k2, fun σ3 H3 HB3 ft3 s3 st3 l3 o3 => post σ3 H3 HB3 ft3 (s2.trans s3) st3 (l3.trans l2) fun j hj => ?_⟩
        · obtain ⟨o, q, m⟩ := hxs.there a ha
          have pl : Fx.plus Fr G1 H a = some o := by rw [plus_in ha, q]
          exact ⟨st2.dis a o pl, (fr2 a ha).2.1, fun i hi => by
            have := (st2.free i a hi).2
            rw [pl] at this; cases this⟩
        · rw [o3 j fun z => hj (List.mem_append_right _ z), o2 j fun z => hj (List.mem_append_left _ z)]
  · cases hk
def gTp (r : List D → Sl → Option Sl) : GM := fun d S => match d with
  | .tup _ ds => r ds S
  | _ => none
theorem pg_tupD {vs : List Nat} {k n : Nat} {r : List D → Sl → Option Sl} (hc : X.calm = true) (hn : ∀ ds S S', r ds S = some S' → ds.length = n) (h : PGsd X io vs es r) (t : PGs X es (TGsd X.K X.mg io vs r) → PG X (.Tuple es k pos) (gTup X.K n (TGsd X.K X.mg io vs r))) : PGd X io vs (.Tuple es k pos) (gTp r) :=
  PG.imp (t h) fun v σ H Q ⟨S, HB, Fr, ft, p0, d, F, S', st, hd, hk, post⟩ => by
  unfold gTp at hk
  split at hk
  · rename_i ds
    obtain ⟨a, xs, rfl, h1, h2⟩ := hd.rp.tupS st.bs
    exact ⟨a, xs, rfl, h1, by rw [h2.length]; exact hn _ _ _ hk, S, HB, Fr, ft, p0, ds, F, S', st, ⟨h2, hd.nd, hd.free⟩, hk, post⟩
  · cases hk
def sAs (m : EM) (g : GM) : SM := andThen m fun d S => (g d S).map fun S' => (.nx, S')
theorem asg_run {vs : List Nat} {g : GM} {E : Ends} {σ : L2.St} {H : Hp} (h : TSd X.K X.mg W io (sAs m g) E σ H) : TEd X.K X.mg W io m σ H fun x H1 => TGd X.K X.mg io vs g x σ H1 E.nx := then_run h fun S HB H1 Fr ft p0 d v F z HB0 st s0 hd hk post => by
  obtain ⟨S', h1, rfl⟩ := Option.map_eq_some_iff.mp hk
  exact ⟨S, HB, Fr, ft, p0, d, F, S', st, hd, h1, fun σ' H' HB' ft' s' st' _ _ => post σ' H' HB' ft' (s0.trans s') st'⟩
/-- name = value -/
theorem ps_setD {i : Nat} {x : Str} {pos' : Pos} (hN : X.N.Nodup) (he : PEd X W io e m) (hi : X.N[i]? = some x := by rfl) (hx : Loc X.env.scope x := by first | exact Or.inl rfl | exact Or.inr rfl) (h0 : io = false ∨ i ≠ 0 := by first | exact Or.inl rfl | exact Or.inr (by decide))
    (hs : swapsWith e (some (.Name x pos')) pos.line X.env = pure false := by rfl) (hf : X.fn x = true ∨ X.env.scope.names.lookup x = some .local := by first | exact .inl rfl | exact .inr rfl) : PSd X W io (.Assign [.Name x pos'] e pos) (sAs m (gNm i)) :=
  PS.imp (ps_set hN hi hx he hs hf) fun E σ H q => then_run q fun S HB H1 Fr ft p0 d v F z HB0 st s0 hd hk post => by
  cases hk
  obtain ⟨ft', st'⟩ := st.put hd h0
  exact post _ H1 HB ft' s0 st'
/-- target = value -/
theorem ps_asgD {tg : Expr} {vs : List Nat} {g : GM} (he : PEd X W io e m) (hg : PGd X io vs tg g) (hs : swapsWithSole [tg] e pos.line X.env = pure false := by rfl) (hw : swappedStores [tg] e X.env = pure none := by rfl)
    (h1 : (assignEach [tg] X.env).map (·.2) = [assign tg X.env] := by rfl) : PSd X W io (.Assign [tg] e pos) (sAs m g) := PS.imp (ps_asg he hg hs hw h1) fun E σ H q => asg_run q
def sPar (i j : Nat) (am : AM) : SM := fun S => match am S with
  | some (.ok [d, e], S1) => some (.nx, (S1.set i (some d)).set j (some e))
  | some (.error e, S1) => some (.err e, S1)
  | _ => none
/-- a, b = x, y -/
theorem ps_parD {i j : Nat} {x y : Str} {am : AM} {px py pt : Pos} {kt k2 : Nat} {pt2 : Pos} (hc : X.calm = true) (hN : X.N.Nodup) (ha : PAd X W io [a, b] am) (hi : X.N[i]? = some x := by rfl) (hj : X.N[j]? = some y := by rfl) (hij : i ≠ j := by decide)
    (hx : X.env.scope.names.lookup x = some .local := by rfl) (hy : X.env.scope.names.lookup y = some .local := by rfl) (h0 : io = false ∨ (i ≠ 0 ∧ j ≠ 0) := by first | exact Or.inl rfl | exact Or.inr ⟨by decide, by decide⟩)
    (hw : swappedStores [.Tuple [.Name x px, .Name y py] kt pt] (.Tuple [a, b] k2 pt2) X.env = pure (some [x, y]) := by rfl)
    (hs : swapsWithSole [.Tuple [.Name x px, .Name y py] kt pt] (.Tuple [a, b] k2 pt2) pos.line X.env = pure false := by rfl) : PSd X W io (.Assign [.Tuple [.Name x px, .Name y py] kt pt] (.Tuple [a, b] k2 pt2) pos) (sPar i j am) :=
  PS.imp (ps_par hc hN hi hj hij hx hy ha hw hs) fun E σ H ⟨S, HB, Fr, ft, p0, z, st, e1, post⟩ => by
  show TAd X.K X.mg W io am σ H _
  unfold sPar at e1
  split at e1
  · rename_i d e S1 h1
    cases e1
    refine ⟨S, HB, Fr, ft, p0, _, st, h1, fun vs H1 HB1 ft1 F1 s1 st1 hx => ?_⟩
    obtain ⟨rp, nd, free⟩ := hx
    cases rp with
    | @cons v _ _ _ Fa G1 r1 rp2 =>
      cases rp2 with
      | @cons w _ _ _ Fb G2 r2 rp3 =>
        cases rp3
        rw [List.append_nil] at nd free
        obtain ⟨n1, n2, n3⟩ := List.nodup_append.mp nd
        have fr2 : ∀ a ∈ Fb, HB1 a = none ∧ Fr a = none ∧ ∀ i, a ∉ ft1 i := fun a ha => free a (List.mem_append_right _ ha)
        have sp := same_plus (Fr := Fr) (H := H1) fun a ha => (fr2 a ha).2.1
        have h0i : io = false ∨ i ≠ 0 := h0.imp id (·.1)
        have h0j : io = false ∨ j ≠ 0 := h0.imp id (·.2)
        have hda : Hand X.K X.mg HB1 H1 (Fx.plus Fr Fb H1) ft1 v d Fa := ⟨r1, n1, fun a ha => ⟨(free a (List.mem_append_left _ ha)).1, by
          rw [plus_out fun z => n3 a ha a z rfl]; exact (free a (List.mem_append_left _ ha)).2.1, (free a (List.mem_append_left _ ha)).2.2⟩⟩
        obtain ⟨ft2, st2⟩ := (st1.plus r2.there fr2).put hda h0i
        have hdb : Hand X.K X.mg HB1 H1 Fr ft2 w e Fb := ⟨r2, n2, fun a ha => by
          obtain ⟨o, q, m⟩ := r2.there a ha
          have pl : Fx.plus Fr Fb H1 a = some o := by rw [plus_in ha, q]
          exact ⟨st2.dis a o pl, (fr2 a ha).2.1, fun i hi => by
            have := (st2.free i a hi).2
            rw [pl] at this; cases this⟩⟩
        obtain ⟨ft3, st3⟩ := (st2.less sp).put hdb h0j
        exact ⟨v, w, rfl, post _ H1 HB1 ft3 s1 st3⟩
  · rename_i er S1 h1
    cases e1
    exact ⟨S, HB, Fr, ft, p0, _, st, h1, post σ⟩
  · cases e1

/-! ### while -/
def whileN (t : BM) (b : SM) : Nat → SM
  | 0 => fun _ => none
  | n + 1 => fun S => match t S with
    | some (.ok true, S1) => (match b S1 with
      | some (.nx, S2) => whileN t b n S2
      | some (.ct, S2) => whileN t b n S2
      | some (.bk, S2) => some (.nx, S2)
      | r => r)
    | some (.ok false, S1) => some (.nx, S1)
    | some (.error e, S1) => some (.err e, S1)
    | none => none
open Classical in
noncomputable def sWh (t : BM) (b : SM) : SM := fun S => if h : ∃ n r, whileN t b n S = some r then some (Classical.choose (Classical.choose_spec h)) else none
theorem whileN_succ {t : BM} {b : SM} {n : Nat} {S : Sl} : whileN t b (n + 1) S = (match t S with
    | some (.ok true, S1) => (match b S1 with
      | some (.nx, S2) => whileN t b n S2
      | some (.ct, S2) => whileN t b n S2
      | some (.bk, S2) => some (.nx, S2)
      | r => r)
    | some (.ok false, S1) => some (.nx, S1)
    | some (.error e, S1) => some (.err e, S1)
    | none => none) := rfl
theorem whileN_more {t : BM} {b : SM} : ∀ {n : Nat} {S : Sl} {r : SR × Sl} (k : Nat), whileN t b n S = some r → whileN t b (n + k) S = some r
  | 0, _, _, _, h => by cases h
  | n + 1, S, r, k, h => by
    rw [show n + 1 + k = (n + k) + 1 by omega, whileN_succ]
    rw [whileN_succ] at h
    cases h1 : t S with
    | none => rw [h1] at h; cases h
    | some q =>
      obtain ⟨x, S1⟩ := q
      rw [h1] at h
      cases x with
      | error e => exact h
      | ok c =>
        cases c with
        | false => exact h
        | true =>
          have h : (match b S1 with
            | some (.nx, S2) => whileN t b n S2
            | some (.ct, S2) => whileN t b n S2
            | some (.bk, S2) => some (.nx, S2)
            | r => r) = some r := h
          show (match b S1 with
            | some (.nx, S2) => whileN t b (n + k) S2
            | some (.ct, S2) => whileN t b (n + k) S2
            | some (.bk, S2) => some (.nx, S2)
            | r => r) = some r
          cases h2 : b S1 with
          | none => rw [h2] at h; exact h
          | some q =>
            obtain ⟨y, S2⟩ := q
            rw [h2] at h
            cases y with
            | nx => exact whileN_more k h
            | ct => exact whileN_more k h
            | bk => exact h
            | ret d => exact h
            | err e => exact h
theorem sWh_of {t : BM} {b : SM} {n : Nat} {S : Sl} {r : SR × Sl} (h : whileN t b n S = some r) : sWh t b S = some r := by
  have hx : ∃ n r, whileN t b n S = some r := ⟨n, r, h⟩
  unfold sWh
  rw [dif_pos hx]
  have h2 := Classical.choose_spec (Classical.choose_spec hx)
  have a := whileN_more (Classical.choose hx) h
  have b := whileN_more n h2
  rw [Nat.add_comm] at b
  rw [a] at b
  exact b.symm
theorem sWh_some {t : BM} {b : SM} {S : Sl} {r : SR × Sl} (h : sWh t b S = some r) : ∃ n, whileN t b n S = some r := by
  unfold sWh at h
  split at h
  · rename_i hx
    have h2 := Classical.choose_spec (Classical.choose_spec hx)
    rw [Option.some.inj h] at h2
    exact ⟨_, h2⟩
  · cases h
theorem ps_whileD {t : BM} {body : List Stmt} (hp : PassesOwn (model X.prog X.w) X.A X.env X.xe) (hc : PTd X W io c t) (hb : PSsd X W io body s1) : PSd X W io (.While c body [] pos) (sWh t s1) := PS.imp (ps_while hp hc hb) fun E σ H ⟨S, HB, Fr, ft, p0, z, st, e1, post⟩ => by
  obtain ⟨n, e1⟩ := sWh_some e1
  refine ⟨fun m σ H => ∃ S HB' ft, Same HB HB' ∧ StF X.K X.mg io S σ HB' H Fr ft p0 ∧ whileN t s1 m S = some z, ⟨n, S, HB, ft, Same.refl _, st, e1⟩, ?_⟩
  rintro m σ H ⟨S, HB1, ft, s0, st, e1⟩
  show TTd X.K X.mg W io t σ H _
  cases m with
  | zero => cases e1
  | succ m =>
    unfold whileN at e1
    split at e1
    · rename_i S1 h1
      refine ⟨S, HB1, Fr, ft, p0, _, st, h1, fun H1 HB2 ft1 s2 st1 => iteT ⟨fun σ' H' => ∃ S HB' ft, Same HB HB' ∧ StF X.K X.mg io S σ' HB' H' Fr ft p0 ∧ whileN t s1 m S = some z, fun σ' H' q => ⟨m, Nat.lt_succ_self m, q⟩, ?_⟩⟩
      show TSd X.K X.mg W io s1 _ σ H1
      split at e1
      · rename_i S2 h2
        exact ⟨S1, HB2, Fr, ft1, p0, _, st1, h2, fun σ' H' HB' ft' s' st' => ⟨S2, HB', ft', s0.trans (s2.trans s'), st', e1⟩⟩
      · rename_i S2 h2
        exact ⟨S1, HB2, Fr, ft1, p0, _, st1, h2, fun σ' H' HB' ft' s' st' => ⟨S2, HB', ft', s0.trans (s2.trans s'), st', e1⟩⟩
      · rename_i S2 h2
        cases e1
        exact ⟨S1, HB2, Fr, ft1, p0, _, st1, h2, fun σ' H' HB' ft' s' st' => post σ' H' HB' ft' (s0.trans (s2.trans s')) st'⟩
      · rename_i h2 h3 h4
        refine ⟨S1, HB2, Fr, ft1, p0, z, st1, e1, ?_⟩
        have post' := post.on (s0.trans s2) (Same.refl _)
        obtain ⟨r, S2⟩ := z
        cases r with
        | nx => exact absurd e1 (h2 S2)
        | ct => exact absurd e1 (h3 S2)
        | bk => exact absurd e1 (h4 S2)
        | ret d => exact post'
        | err e => exact post'
    · rename_i S1 h1
      cases e1
      exact ⟨S, HB1, Fr, ft, p0, _, st, h1, fun H1 HB2 ft1 s2 st1 => iteF (post σ H1 HB2 ft1 (s0.trans s2) st1)⟩
    · rename_i er S1 h1
      cases e1
      exact ⟨S, HB1, Fr, ft, p0, _, st, h1, XPost.aside (post σ) s0 (Same.refl _)⟩
    · cases e1
end
end Fx

set_option maxHeartbeats 2000000
namespace Fx
open PySem PySem.Spec PyProof.Rows L2

/-! ### what is gone through -/
/-- J goes through ds while what is frozen, and what is kept aside, stands -/
structure Wk (K : PySem.W.Frag) (mg : Str → Option Value) (J : It) (ds : List D) (HB Fr : Hp) : Prop where
  go : ∀ i H HBi, i < ds.length → Same HB HBi → Same HBi H → Same Fr H → J.go i H
  stop : ∀ i H HBi, ds.length ≤ i → Same HB HBi → Same HBi H → Same Fr H → J.stop i H
  yld : ∀ i H HBi x H', i < ds.length → Same HB HBi → Same HBi H → Same Fr H → J.yld i H x H' → ∃ HB' d, ds[i]? = some d ∧ Ext HBi H HB' H' ∧ Rp K mg HB' H' x d []
def TId (K : PySem.W.Frag) (mg : Str → Option Value) (W : WX) (io : Bool) (m : AM) : TI := fun σ H R => ∃ S HB Fr ft p0 r, StF K mg io S σ HB H Fr ft p0 ∧ m S = some r ∧ match r with
  | (.ok ds, S') => ∀ J H' HB' ft' Fr', Same HB HB' → Same Fr Fr' → StF K mg io S' σ HB' H' Fr' ft' p0 → Wk K mg J ds HB' Fr' → R J H'
  | (.error e, S') => XPost K mg W io S' σ HB Fr p0 e
abbrev PId (X : Cx) (W : WX) (io : Bool) (tg e : Expr) (m : AM) : Prop := PI X tg e (TId X.K X.mg W io m)
theorem PI.imp {X : Cx} {tg e : Expr} {t t' : TI} (h : PI X tg e t) (k : ∀ σ H Q, t' σ H Q → t σ H Q) : PI X tg e t' := ⟨fun pins s σ H Q I q => h.run pins s σ H Q I (k _ _ _ q)⟩
theorem PI.or {X : Cx} {tg e : Expr} {t t' : TI} (h : PI X tg e t) (h' : PI X tg e t') : PI X tg e (fun σ H R => t σ H R ∨ t' σ H R) := ⟨fun pins s σ H R I q => by
  rcases q with q | q
  · exact h.run pins s σ H R I q
  · exact h'.run pins s σ H R I q⟩
section
variable {X : Cx} {W : WX} {io : Bool} {tg a b c e : Expr} {es : List Expr} {ma mb m : EM} {am : AM} {pos : Pos} {s1 s2 : SM}
theorem Rps.atN {K : PySem.W.Frag} {mg : Str → Option Value} {HB H : Hp} : ∀ {vs : List V} {ds : List D} {F : List Addr} {i : Nat} {d : D}, Rps K mg HB H vs ds F → F = [] → ds[i]? = some d → ∃ v, vs[i]? = some v ∧ Rp K mg HB H v d []
  | _, _, _, _, _, .nil, _, h => by simp at h
  | _, _, _, 0, _, .cons h r, hF, e => by
    obtain ⟨rfl, rfl⟩ := List.append_eq_nil_iff.mp hF
    simp at e; subst e; exact ⟨_, rfl, h⟩
  | _, _, _, i + 1, _, .cons h r, hF, e => by
    obtain ⟨h1, h2⟩ := List.append_eq_nil_iff.mp hF
    obtain ⟨v, h3, h4⟩ := Rps.atN (i := i) r h2 (by simpa using e)
    exact ⟨v, by simpa using h3, h4⟩
theorem wk_seq {K : PySem.W.Frag} {mg : Str → Option Value} {HB H1 : Hp} {xs : List V} {ds : List D} (r : Rps K mg HB H1 xs ds []) {i : Nat} (hi : i < ds.length) {H HBi : Hp} (s1 : Same HB HBi) (s2 : Same HBi H) {v : V} (q : xs[i]? = some v) :
    ∃ HB' d, ds[i]? = some d ∧ Ext HBi H HB' H ∧ Rp K mg HB' H v d [] := by
  obtain ⟨v', h1, h2⟩ := r.atN (i := i) (d := ds[i]) rfl (by simp [hi])
  rw [q] at h1; cases h1
  exact ⟨HBi, ds[i], by simp [hi], Ext.refl s2, h2.mono s1 fun _ z => nomatch z⟩
theorem wk_list {K : PySem.W.Frag} {mg : Str → Option Value} {HB Fr H1 : Hp} {p : Addr} {xs : List V} {ds : List D} (h : ∀ H HBi, Same HB HBi → Same HBi H → Same Fr H → SqL K H p xs) (r : Rps K mg HB H1 xs ds []) : Wk K mg (Itl K p) ds HB Fr where
  go := fun i H HBi hi s1 s2 s3 => ⟨xs, xs[i]'(by rw [r.length]; exact hi), h H HBi s1 s2 s3, by simp⟩
  stop := fun i H HBi hi s1 s2 s3 => ⟨xs, h H HBi s1 s2 s3, by rw [r.length]; exact hi⟩
  yld := fun i H HBi x H' hi s1 s2 s3 y => by
    obtain ⟨rfl, y⟩ := y
    exact wk_seq r hi s1 s2 (y xs (h _ HBi s1 s2 s3))
theorem wk_tup {K : PySem.W.Frag} {mg : Str → Option Value} {HB Fr H1 : Hp} {p : Addr} {xs : List V} {ds : List D} (h : SqT K HB p xs) (r : Rps K mg HB H1 xs ds []) : Wk K mg (Itt K p) ds HB Fr where
  go := fun i H HBi hi s1 s2 s3 => ⟨xs, xs[i]'(by rw [r.length]; exact hi), same_seqT (s1.trans s2) h, by simp⟩
  stop := fun i H HBi hi s1 s2 s3 => ⟨xs, same_seqT (s1.trans s2) h, by rw [r.length]; exact hi⟩
  yld := fun i H HBi x H' hi s1 s2 s3 y => by
    obtain ⟨rfl, y⟩ := y
    exact wk_seq r hi s1 s2 (y xs (same_seqT (s1.trans s2) h))
def signs (s : Str) : List D := s.cps.toList.map fun c => .str ⟨#[c]⟩
theorem wk_str {K : PySem.W.Frag} {mg : Str → Option Value} {HB Fr : Hp} {s : Str} : Wk K mg (Its s) (signs s) HB Fr where
  go := fun i H HBi hi s1 s2 s3 => by
    have : i < s.cps.size := by simpa [signs] using hi
    exact this
  stop := fun i H HBi hi s1 s2 s3 => by
    have : s.cps.size ≤ i := by simpa [signs] using hi
    exact this
  yld := fun i H HBi x H' hi s1 s2 s3 y => by
    obtain ⟨rfl, c, h1, rfl⟩ := y
    refine ⟨HBi, .str ⟨#[c]⟩, ?_, Ext.refl s2, .str _⟩
    unfold signs
    rw [List.getElem?_map, Array.getElem?_toList, h1]
    rfl
def rangeD (lo c : Int) (n : Nat) : List D := (List.range n).map fun (i : Nat) => .int (lo + (i : Int) * c)
theorem wk_rng {K : PySem.W.Frag} {mg : Str → Option Value} {HB Fr : Hp} {lo : Int} {n : Nat} : Wk K mg (Itr lo n) (rangeD lo 1 n) HB Fr where
  go := fun i H HBi hi s1 s2 s3 => by
    have : i < n := by simpa [rangeD] using hi
    exact this
  stop := fun i H HBi hi s1 s2 s3 => by
    have : n ≤ i := by simpa [rangeD] using hi
    exact this
  yld := fun i H HBi x H' hi s1 s2 s3 y => by
    obtain ⟨rfl, rfl⟩ := y
    have h : i < n := by simpa [rangeD] using hi
    exact ⟨HBi, .int (lo + i), by simp [rangeD, h], Ext.refl s2, .int _⟩
theorem wk_rngc {K : PySem.W.Frag} {mg : Str → Option Value} {HB Fr : Hp} {lo c : Int} {n : Nat} : Wk K mg (Itc lo c n) (rangeD lo c n) HB Fr where
  go := fun i H HBi hi s1 s2 s3 => by
    have : i < n := by simpa [rangeD] using hi
    exact this
  stop := fun i H HBi hi s1 s2 s3 => by
    have : n ≤ i := by simpa [rangeD] using hi
    exact this
  yld := fun i H HBi x H' hi s1 s2 s3 y => by
    obtain ⟨rfl, rfl⟩ := y
    have h : i < n := by simpa [rangeD] using hi
    exact ⟨HBi, .int (lo + i * c), by simp [rangeD, h], Ext.refl s2, .int _⟩
/-- the items of a value that may be gone through -/
def itemsD : D → Option (List D)
  | .lst _ ds => if noOwns ds = true then some ds else none
  | .tup _ ds => if noOwns ds = true then some ds else none
  | .str s => some (signs s)
  | _ => none
def iVal (m : EM) : AM := fun S => bnd (m S) fun d S1 => got (itemsD d) S1
theorem itE_run {k : D → Sl → Option (Except Er (List D) × Sl)} {σ : L2.St} {H : Hp} {R : It → Hp → Prop} {Q : VK} (h : TId X.K X.mg W io (fun S => bnd (m S) k) σ H R)
    (fin : ∀ S HB H1 Fr ft p0 d v F z, StF X.K X.mg io S σ HB H1 Fr ft p0 → Hand X.K X.mg HB H1 Fr ft v d F → k d S = some z →
      (match z with
        | (.ok ds, S') => ∀ J H' HB' ft' Fr', Same HB HB' → Same Fr Fr' → StF X.K X.mg io S' σ HB' H' Fr' ft' p0 → Wk X.K X.mg J ds HB' Fr' → R J H'
        | (.error e, S') => XPost X.K X.mg W io S' σ HB Fr p0 e) → Q v H1) : TEd X.K X.mg W io m σ H Q := by
  obtain ⟨S, HB, Fr, ft, p0, z, st, e1, post⟩ := h
  rcases bnd_some e1 with ⟨d, S1, h1, e2⟩ | ⟨er, S1, h1, rfl⟩
  · refine ⟨S, HB, Fr, ft, p0, _, st, h1, fun x H1 HB1 ft1 F1 s1 st1 hx => fin S1 HB1 H1 Fr ft1 p0 d x F1 z st1 hx e2 ?_⟩
    obtain ⟨r, S'⟩ := z
    cases r with
    | ok ds => exact fun J H' HB' ft' Fr' s' f' st' w => post J H' HB' ft' Fr' (s1.trans s') f' st' w
    | error e => exact XPost.aside post s1 (Same.refl _)
  · exact ⟨S, HB, Fr, ft, p0, _, st, h1, post⟩
theorem pi_valD (h : PEd X W io e m) : PId X W io tg e (iVal m) := by
  refine Fx.PI.imp (Fx.PI.or (pi_list h) (Fx.PI.or (pi_tup h) (pi_str h))) fun σ H R q => ?_
  have q2 := q
  obtain ⟨S, HB, Fr, ft, p0, z, st, e1, post⟩ := q2
  rcases bnd_some e1 with ⟨d, S1, h1, e2⟩ | ⟨er, S1, h1, rfl⟩
  · obtain ⟨ds, h2, rfl⟩ := got_some e2
    unfold itemsD at h2
    split at h2
    · split at h2
      · rename_i o ds0 hn
        cases h2
        refine .inl ⟨S, HB, Fr, ft, p0, _, st, h1, fun x H1 HB1 ft1 F1 s1 st1 hx => ?_⟩
        obtain ⟨rp, nd, free⟩ := hx
        cases rp with
        | lst h r => exact ⟨_, rfl, ⟨_, SqL.of (st1.bs _ _ h)⟩, post _ H1 HB1 ft1 Fr s1 (Same.refl _) st1 (wk_list (fun H HBi q1 q2 q3 => SqL.of (q2 _ _ (q1 _ _ h))) r)⟩
        | fix h r => exact ⟨_, rfl, ⟨_, st1.bs.seq h⟩, post _ H1 HB1 ft1 Fr s1 (Same.refl _) st1 (wk_list (fun H HBi q1 q2 q3 => (q1.trans q2).seq h) r)⟩
        | @own a xs _ G h r =>
          have e := r.none hn
          subst e
          have st2 := st1.plus (F := [a]) (fun b hb => by
            have : b = a := by simpa using hb
            subst this
            exact ⟨_, h, True.intro⟩) free
          have sp := same_plus (Fr := Fr) (H := H1) (F := [a]) fun b hb => (free b hb).2.1
          exact ⟨_, rfl, ⟨_, SqL.of h⟩, post _ H1 HB1 ft1 _ s1 sp st2 (wk_list (fun H HBi q1 q2 q3 => SqL.of (q3 a _ (by rw [plus_in (by simp)]; exact h))) r)⟩
      · cases h2
    · split at h2
      · rename_i ds0 hn
        cases h2
        refine .inr (.inl ⟨S, HB, Fr, ft, p0, _, st, h1, fun x H1 HB1 ft1 F1 s1 st1 hx => ?_⟩)
        obtain ⟨rp, nd, free⟩ := hx
        cases rp with
        | tup _ h r =>
          have e := r.none hn
          subst e
          exact ⟨_, rfl, ⟨_, same_seqT st1.bs h⟩, post _ H1 HB1 ft1 Fr s1 (Same.refl _) st1 (wk_tup h r)⟩
      · cases h2
    · cases h2
      refine .inr (.inr ⟨S, HB, Fr, ft, p0, _, st, h1, fun x H1 HB1 ft1 F1 s1 st1 hx => ?_⟩)
      cases hx.rp
      exact ⟨_, rfl, post _ H1 HB1 ft1 Fr s1 (Same.refl _) st1 wk_str⟩
    · cases h2
  · exact .inl ⟨S, HB, Fr, ft, p0, _, st, h1, post⟩
def rngD1 : List D → Option (List D)
  | [.int j] => if -(2 ^ 62) ≤ j ∧ j < 2 ^ 62 then some (rangeD 0 1 j.toNat) else none
  | _ => none
def rngD2 : List D → Option (List D)
  | [.int i, .int j] => if -(2 ^ 62) ≤ i ∧ i < 2 ^ 62 ∧ -(2 ^ 62) ≤ j ∧ j < 2 ^ 62 then some (rangeD i 1 (j - i).toNat) else none
  | _ => none
def rngD3 : List D → Option (List D)
  | [.int i, .int j, .int (-1)] => if -(2 ^ 62) ≤ i ∧ i < 2 ^ 62 ∧ -(2 ^ 62) ≤ j ∧ j < 2 ^ 62 then some (rangeD i (-1) (i - j).toNat) else none
  | _ => none
def iRng (f : List D → Option (List D)) (am : AM) : AM := fun S => bnd (am S) fun ds S1 => got (f ds) S1
theorem itA_run {k : List D → Sl → Option (Except Er (List D) × Sl)} {σ : L2.St} {H : Hp} {R : It → Hp → Prop} {Q : List V → Hp → Prop} (h : TId X.K X.mg W io (fun S => bnd (am S) k) σ H R)
    (fin : ∀ S HB H1 Fr ft p0 ds vs F z, StF X.K X.mg io S σ HB H1 Fr ft p0 → Hands X.K X.mg HB H1 Fr ft vs ds F → k ds S = some z →
      (match z with
        | (.ok ds, S') => ∀ J H' HB' ft' Fr', Same HB HB' → Same Fr Fr' → StF X.K X.mg io S' σ HB' H' Fr' ft' p0 → Wk X.K X.mg J ds HB' Fr' → R J H'
        | (.error e, S') => XPost X.K X.mg W io S' σ HB Fr p0 e) → Q vs H1) : TAd X.K X.mg W io am σ H Q := by
  obtain ⟨S, HB, Fr, ft, p0, z, st, e1, post⟩ := h
  rcases bnd_some e1 with ⟨d, S1, h1, e2⟩ | ⟨er, S1, h1, rfl⟩
  · refine ⟨S, HB, Fr, ft, p0, _, st, h1, fun x H1 HB1 ft1 F1 s1 st1 hx => fin S1 HB1 H1 Fr ft1 p0 d x F1 z st1 hx e2 ?_⟩
    obtain ⟨r, S'⟩ := z
    cases r with
    | ok ds => exact fun J H' HB' ft' Fr' s' f' st' w => post J H' HB' ft' Fr' (s1.trans s') f' st' w
    | error e => exact XPost.aside post s1 (Same.refl _)
  · exact ⟨S, HB, Fr, ft, p0, _, st, h1, post⟩
theorem pi_rng1D {p : Pos} (hm : X.mg "range" = none) (ha : PAd X W io [a] am) (hg : Gl X "range" := by rfl) (hs : starEach [a] X.env = [(false, eval a X.env)] := by rfl) : PId X W io tg (.Call (.Name "range" p) [a] [] pos) (iRng rngD1 am) := Fx.PI.imp (pi_range1 hg hm ha hs) fun σ H R q =>
  itA_run q fun S HB H1 Fr ft p0 ds vs F z st hd hk post => by
    obtain ⟨es, h2, rfl⟩ := got_some hk
    unfold rngD1 at h2
    split at h2
    · split at h2
      · rename_i hc
        cases h2
        obtain ⟨rp, _, _⟩ := hd
        cases rp with
        | cons r1 r2 =>
          cases r1
          cases r2
          exact ⟨_, rfl, hc.1, hc.2, post _ H1 HB ft Fr (Same.refl _) (Same.refl _) st wk_rng⟩
      · cases h2
    · cases h2
theorem pi_rng2D {p : Pos} (hm : X.mg "range" = none) (ha : PAd X W io [a, b] am) (hg : Gl X "range" := by rfl) (hs : starEach [a, b] X.env = [(false, eval a X.env), (false, eval b X.env)] := by rfl) (hs2 : starEach [b] X.env = [(false, eval b X.env)] := by rfl) : PId X W io tg (.Call (.Name "range" p) [a, b] [] pos) (iRng rngD2 am) := Fx.PI.imp (pi_range2 hg hm ha hs hs2) fun σ H R q =>
  itA_run q fun S HB H1 Fr ft p0 ds vs F z st hd hk post => by
    obtain ⟨es, h2, rfl⟩ := got_some hk
    unfold rngD2 at h2
    split at h2
    · split at h2
      · rename_i hc
        cases h2
        obtain ⟨rp, _, _⟩ := hd
        cases rp with
        | cons r1 r2 =>
          cases r1
          cases r2 with
          | cons r3 r4 =>
            cases r3
            cases r4
            exact ⟨_, _, rfl, hc, post _ H1 HB ft Fr (Same.refl _) (Same.refl _) st wk_rng⟩
      · cases h2
    · cases h2
theorem pi_rng3D {p : Pos} (hm : X.mg "range" = none) (ha : PAd X W io [a, b, c] am) (hg : Gl X "range" := by rfl) (hs : starEach [a, b, c] X.env = (false, eval a X.env) :: starEach [b, c] X.env := by rfl) (hpl : (backTo pos (starEach [b, c] X.env)).any (·.1) = false := by rfl) : PId X W io tg (.Call (.Name "range" p) [a, b, c] [] pos) (iRng rngD3 am) := Fx.PI.imp (pi_range3 hg hm ha hs hpl) fun σ H R q =>
  itA_run q fun S HB H1 Fr ft p0 ds vs F z st hd hk post => by
    obtain ⟨es, h2, rfl⟩ := got_some hk
    unfold rngD3 at h2
    split at h2
    · split at h2
      · rename_i hc
        cases h2
        obtain ⟨rp, _, _⟩ := hd
        cases rp with
        | cons r1 r2 =>
          cases r1
          cases r2 with
          | cons r3 r4 =>
            cases r3
            cases r4 with
            | cons r5 r6 =>
              cases r5
              cases r6
              exact ⟨_, _, _, _, rfl, RgC.neg hc.1 hc.2.1 hc.2.2.1 hc.2.2.2, post _ H1 HB ft Fr (Same.refl _) (Same.refl _) st wk_rngc⟩
      · cases h2
    · cases h2

/-! ### for -/
def forL (g : GM) (b : SM) : List D → SM
  | [] => sNx
  | d :: ds => fun S => match g d S with
    | none => none
    | some S1 => match b S1 with
      | some (.nx, S2) => forL g b ds S2
      | some (.ct, S2) => forL g b ds S2
      | some (.bk, S2) => some (.nx, S2)
      | r => r
def sFor (am : AM) (g : GM) (b : SM) : SM := fun S => match am S with
  | some (.ok ds, S1) => forL g b ds S1
  | some (.error e, S1) => some (.err e, S1)
  | none => none
theorem drop_get {α : Type} {l : List α} {i : Nat} {d : α} (h : l[i]? = some d) : l.drop i = d :: l.drop (i + 1) := by
  obtain ⟨hi, e⟩ := List.getElem?_eq_some_iff.mp h
  rw [List.drop_eq_getElem_cons hi, e]
theorem ps_forD {vs : List Nat} {g : GM} {body : List Stmt} (hp : PassesOwn (model X.prog X.w) X.A X.env X.xe) (hc : X.calm = true) (hi : PId X W io tg e am) (hg : PGd X io vs tg g) (hb : PSsd X W io body s1)
    (hs : ∀ x, foldedSetIterable e X.env x = pure x := by intro _; rfl) : PSd X W io (.For tg e body [] pos) (sFor am g s1) := PS.imp (ps_for hp hc hi hg hb hs) fun E σ H ⟨S, HB, Fr, ft, p0, z, st, e1, post⟩ => by
  show TId X.K X.mg W io am σ H _
  unfold sFor at e1
  split at e1
  · rename_i ds S1 h1
    refine ⟨S, HB, Fr, ft, p0, _, st, h1, fun J H1 HB1 ft1 Fr1 q1 f1 st1 wk => ?_⟩
    have post := post.on q1 f1
    refine ⟨fun i m σ H => ∃ S HB' ft, m = ds.length - i ∧ i ≤ ds.length ∧ Same HB1 HB' ∧ StF X.K X.mg io S σ HB' H Fr1 ft p0 ∧ forL g s1 (ds.drop i) S = some z, ⟨_, S1, HB1, ft1, rfl, Nat.zero_le _, Same.refl _, st1, e1⟩, ?_⟩
    rintro i m σ H ⟨S, HB2, ft2, rfl, hi, s2, st2, e2⟩
    by_cases hlt : i < ds.length
    · refine .inr ⟨wk.go i H HB2 hlt s2 st2.bs st2.fr, fun σ' H' => ∃ S HB' ft, Same HB1 HB' ∧ StF X.K X.mg io S σ' HB' H' Fr1 ft p0 ∧ forL g s1 (ds.drop (i + 1)) S = some z, fun σ' H' ⟨S', HB', ft', a1, a2, a3⟩ => ⟨ds.length - (i + 1), by omega, S', HB', ft', rfl, hlt, a1, a2, a3⟩, fun x H' y => ?_⟩
      obtain ⟨HB3, d, hd, ext, rp⟩ := wk.yld i H HB2 x H' hlt s2 st2.bs st2.fr y
      rw [drop_get hd] at e2
      unfold forL at e2
      split at e2
      · cases e2
      · rename_i S3 h3
        refine ⟨S, HB3, Fr1, ft2, p0, d, [], S3, st2.ext ext, ⟨rp, List.nodup_nil, fun _ z => nomatch z⟩, h3, fun σ4 H4 HB4 ft4 s4 st4 _ _ => ?_⟩
        have s14 := s2.trans (ext.bs.trans s4)
        show TSd X.K X.mg W io s1 _ σ4 H4
        split at e2
        · rename_i S5 h5
          exact ⟨S3, HB4, Fr1, ft4, p0, _, st4, h5, fun σ' H' HB' ft' s' st' => ⟨S5, HB', ft', s14.trans s', st', e2⟩⟩
        · rename_i S5 h5
          exact ⟨S3, HB4, Fr1, ft4, p0, _, st4, h5, fun σ' H' HB' ft' s' st' => ⟨S5, HB', ft', s14.trans s', st', e2⟩⟩
        · rename_i S5 h5
          cases e2
          exact ⟨S3, HB4, Fr1, ft4, p0, _, st4, h5, fun σ' H' HB' ft' s' st' => post σ' H' HB' ft' (s14.trans s') st'⟩
        · rename_i n1 n2 n3
          refine ⟨S3, HB4, Fr1, ft4, p0, z, st4, e2, ?_⟩
          have post' := post.on s14 (Same.refl _)
          obtain ⟨r, S5⟩ := z
          cases r with
          | nx => exact absurd e2 (n1 S5)
          | ct => exact absurd e2 (n2 S5)
          | bk => exact absurd e2 (n3 S5)
          | ret d => exact post'
          | err e => exact post'
    · have hge : ds.length ≤ i := by omega
      rw [List.drop_eq_nil_of_le hge] at e2
      cases e2
      exact .inl ⟨wk.stop i H HB2 hge s2 st2.bs st2.fr, post σ H HB2 ft2 s2 st2⟩
  · rename_i er S1 h1
    cases e1
    exact ⟨S, HB, Fr, ft, p0, _, st, h1, post σ⟩
  · cases e1
end
end Fx

set_option maxHeartbeats 2000000
namespace Fx
open PySem PySem.Spec PyProof.Rows L2

/-! ### list comprehensions -/
def wipeS (S : Sl) : List Nat → Sl
  | [] => S
  | v :: vs => (wipeS S vs).set v none
def backS (S0 S : Sl) : List Nat → Sl
  | [] => S
  | v :: vs => (backS S0 S vs).set v (S0[v]?.join)
def lcL (vs : List Nat) (g : GM) (t : BM) (m : EM) : List D → List D → Sl → Option (List D × Sl)
  | [], acc => fun S => some (acc, S)
  | d :: ds, acc => fun S => match g d S with
    | none => none
    | some S1 => match t S1 with
      | some (.ok true, S2) => (match m S2 with
        | some (.ok y, S3) => if acc.length < 1000000 then lcL vs g t m ds (acc ++ [y]) (wipeS S3 vs) else none
        | _ => none)
      | some (.ok false, S2) => lcL vs g t m ds acc (wipeS S2 vs)
      | _ => none
def calmS (S : Sl) (vs : List Nat) : Bool := vs.all fun v => match S[v]? with
  | some (some d) => noOwn d
  | _ => true
def mLc (vs : List Nat) (am : AM) (g : GM) (t : BM) (m : EM) : EM := fun S => bnd (am S) fun ds S1 =>
  if calmS S1 vs = true then (match lcL vs g t m ds [] (wipeS S1 vs) with
    | some (acc, S2) => some (.ok (.lst .own acc), backS S1 S2 vs)
    | none => none) else none
def tYesD : BM := fun S => some (.ok true, S)
theorem ite_sub {α : Type} {c : Prop} [Decidable c] {l : List α} {a : α} (h : a ∈ (if c then [] else l)) : a ∈ l := by
  split at h
  · cases h
  · exact h
section
variable {K : PySem.W.Frag} {mg : Str → Option Value} {io : Bool} {S : Sl} {σ : L2.St} {HB H Fr : Hp} {ft : Nat → List Addr} {p0 : Option V} {v : V} {d : D} {F : List Addr}
theorem StF.clr1 (st : StF K mg io S σ HB H Fr ft p0) (i : Nat) (h0 : io = false ∨ i ≠ 0) : ∃ ft', StF K mg io (S.set i none) (σ.set i none) HB H Fr ft' p0 ∧ ∀ j, ∀ a ∈ ft' j, a ∈ ft j := by
  refine ⟨fun j => if j = i then [] else ft j, ?_, fun j a ha => ite_sub ha⟩
  constructor
  · rw [List.length_set, List.length_set, st.len]
  · exact st.bs
  · exact st.fr
  · exact st.dis
  · intro j e h
    rcases set_get h with ⟨rfl, h1, h2⟩ | ⟨h1, h2⟩
    · cases h2
    · rw [if_neg h1]
      obtain ⟨u, q1, q2⟩ := st.val j e h2
      exact ⟨u, by rw [List.getElem?_set_ne (fun q => h1 q.symm)]; exact q1, q2⟩
  · intro j h
    split
    · rfl
    · rename_i e
      exact st.emp j fun d' q => h d' (by rw [List.getElem?_set_ne (fun q => e q.symm)]; exact q)
  · intro j a ha
    split at ha
    · cases ha
    · exact st.free j a ha
  · intro j
    split
    · exact List.nodup_nil
    · exact st.nd j
  · intro j k a h1 h2
    split at h1
    · cases h1
    · split at h2
      · cases h2
      · exact st.sep j k a h1 h2
  · intro u hu
    obtain ⟨h1, h2⟩ := st.pin u hu
    refine ⟨h1, ?_⟩
    rcases h0 with hi | hi
    · rw [hi] at h1; cases h1
    · rw [List.getElem?_set_ne hi]; exact h2
  · exact st.frm
theorem StF.clr (st : StF K mg io S σ HB H Fr ft p0) : ∀ (vs : List Nat), (io = false ∨ 0 ∉ vs) → ∃ ft', StF K mg io (wipeS S vs) (wipe σ vs) HB H Fr ft' p0 ∧ ∀ j, ∀ a ∈ ft' j, a ∈ ft j
  | [], _ => ⟨ft, st, fun _ _ h => h⟩
  | v :: vs, h0 => by
    obtain ⟨ft1, st1, q1⟩ := st.clr vs (h0.imp id fun h z => h (List.mem_cons_of_mem _ z))
    obtain ⟨ft2, st2, q2⟩ := st1.clr1 v (h0.imp id fun h z => h (by rw [z]; exact List.mem_cons_self))
    exact ⟨ft2, st2, fun j a ha => q1 j a (q2 j a ha)⟩
/-- a thing that nobody here knows is written -/
theorem StF.write {p : Addr} {o : HO} (st : StF K mg io S σ HB H Fr ft p0) (h1 : HB p = none) (h2 : Fr p = none) (h3 : ∀ i, p ∉ ft i) : StF K mg io S σ HB (upd H p o) Fr ft p0 where
  len := st.len
  bs := fun a u e => by
    rw [upd_ne fun z => by rw [z, h1] at e; cases e]; exact st.bs a u e
  fr := fun a u e => by
    rw [upd_ne fun z => by rw [z, h2] at e; cases e]; exact st.fr a u e
  dis := st.dis
  val := fun i d h => by
    obtain ⟨v, q1, q2⟩ := st.val i d h
    exact ⟨v, q1, q2.mono (Same.refl _) fun a ha => upd_ne fun z => h3 i (z ▸ ha)⟩
  emp := st.emp
  free := st.free
  nd := st.nd
  sep := st.sep
  pin := st.pin
  frm := st.frm
theorem backS_in {S0 S : Sl} : ∀ {vs : List Nat} {i : Nat} {d : D}, (backS S0 S vs)[i]? = some (some d) → (i ∈ vs ∧ S0[i]? = some (some d)) ∨ (i ∉ vs ∧ S[i]? = some (some d))
  | [], i, d, h => .inr ⟨by simp, h⟩
  | v :: vs, i, d, h => by
    unfold backS at h
    rcases set_get h with ⟨rfl, _, h2⟩ | ⟨h1, h2⟩
    · refine .inl ⟨List.mem_cons_self, ?_⟩
      cases e : S0[i]? with
      | none => rw [e] at h2; cases h2
      | some o => rw [e] at h2; exact congrArg some h2.symm
    · rcases backS_in h2 with ⟨q1, q2⟩ | ⟨q1, q2⟩
      · exact .inl ⟨List.mem_cons_of_mem _ q1, q2⟩
      · exact .inr ⟨fun z => (List.mem_cons.mp z).elim h1 q1, q2⟩
theorem backS_out {S0 S : Sl} : ∀ {vs : List Nat} {i : Nat}, i ∉ vs → (backS S0 S vs)[i]? = S[i]?
  | [], i, h => rfl
  | v :: vs, i, h => by
    unfold backS
    rw [List.getElem?_set_ne fun z => h (by rw [z]; exact List.mem_cons_self)]
    exact backS_out fun z => h (List.mem_cons_of_mem _ z)
theorem backS_len {S0 S : Sl} : ∀ {vs : List Nat}, (backS S0 S vs).length = S.length
  | [] => rfl
  | v :: vs => by unfold backS; rw [List.length_set, backS_len]
theorem wipe_in {σ : L2.St} {i : Nat} : ∀ {vs : List Nat}, i ∈ vs → (wipe σ vs)[i]? = if i < σ.length then some none else none
  | v :: vs, h => by
    unfold wipe
    by_cases e : v = i
    · subst e
      rw [List.getElem?_set, if_pos rfl, wipe_length]
    · rw [List.getElem?_set_ne e]
      exact wipe_in ((List.mem_cons.mp h).resolve_left fun z => e z.symm)
theorem wipe_eq {σ σ' : L2.St} {vs : List Nat} (hl : σ'.length = σ.length) (h : ∀ j, j ∉ vs → σ'[j]? = σ[j]?) : wipe σ' vs = wipe σ vs := by
  apply List.ext_getElem?
  intro i
  by_cases hi : i ∈ vs
  · rw [wipe_in hi, wipe_in hi, hl]
  · rw [wipe_out hi, wipe_out hi, h i hi]
/-- the def's own slots are back -/
theorem StF.back {S1 S2 : Sl} {σ : L2.St} {HB1 H1 Fr1 : Hp} {ft1 : Nat → List Addr} {vs : List Nat} (st1 : StF K mg io S1 σ HB1 H1 Fr1 ft1 p0) (hc : calmS S1 vs = true) (st : StF K mg io S2 (wipe σ vs) HB H Fr ft p0) (s : Same HB1 HB) : ∃ ft', StF K mg io (backS S1 S2 vs) σ HB H Fr ft' p0 ∧ ∀ j, ∀ a ∈ ft' j, a ∈ ft j := by
  refine ⟨fun j => if j ∈ vs then [] else ft j, ?_, fun j a ha => ite_sub ha⟩
  constructor
  · rw [backS_len, st.len, wipe_length]
  · exact st.bs
  · exact st.fr
  · exact st.dis
  · intro i d h
    rcases backS_in h with ⟨q1, q2⟩ | ⟨q1, q2⟩
    · rw [if_pos q1]
      obtain ⟨u, e1, e2⟩ := st1.val i d q2
      have hn : noOwn d = true := by
        have := List.all_eq_true.mp hc i q1
        rw [q2] at this
        exact this
      rw [e2.none hn] at e2
      exact ⟨u, e1, e2.mono s fun _ z => nomatch z⟩
    · rw [if_neg q1]
      obtain ⟨u, e1, e2⟩ := st.val i d q2
      exact ⟨u, by rw [← wipe_out q1]; exact e1, e2⟩
  · intro i h
    split
    · rfl
    · rename_i e
      exact st.emp i fun d q => h d (by rw [backS_out e]; exact q)
  · intro j a ha
    split at ha
    · cases ha
    · exact st.free j a ha
  · intro j
    split
    · exact List.nodup_nil
    · exact st.nd j
  · intro j k a h1 h2
    split at h1
    · cases h1
    · split at h2
      · cases h2
      · exact st.sep j k a h1 h2
  · intro u hu
    exact ⟨(st.pin u hu).1, (st1.pin u hu).2⟩
  · exact st.frm
end
abbrev WF : WX := fun _ _ _ _ => False
section
variable {X : Cx} {W : WX} {io : Bool} {tg a b c e elt : Expr} {es : List Expr} {ma mb m : EM} {am : AM} {pos : Pos} {s1 s2 : SM}
theorem lc_run {vs ws : List Nat} {g : GM} {t : BM} {tt : TT} (hw : ∀ j ∈ ws, j ∈ vs) (h0 : io = false ∨ 0 ∉ vs) (htt : ∀ σ H Q, TTd X.K X.mg WF io t σ H Q → tt σ H Q) {σ : L2.St} {H : Hp} {Q : VK} (h : TEd X.K X.mg W io (mLc vs am g t m) σ H Q) :
    tLc (TId X.K X.mg W io am) (TGd X.K X.mg io ws g) tt (TEd X.K X.mg WF io m) vs σ H Q := by
  obtain ⟨S, HB, Fr, ft, p0, z, st, e1, post⟩ := h
  rcases bnd_some e1 with ⟨ds, S1, h1, e2⟩ | ⟨er, S1, h1, rfl⟩
  case inr => exact ⟨S, HB, Fr, ft, p0, _, st, h1, post⟩
  refine ⟨S, HB, Fr, ft, p0, _, st, h1, fun J H1 HB1 ft1 Fr1 q1 f1 st1 wk D hD => ?_⟩
  split at e2
  case isFalse => cases e2
  rename_i hcalm
  split at e2
  case h_2 => cases e2
  rename_i acc0 S20 hlc
  cases e2
  have freeD : HB1 D = none ∧ Fr1 D = none ∧ ∀ i, D ∉ ft1 i := ⟨st1.bs.free hD, st1.fr.free hD, fun i hi => by
    obtain ⟨o, q, _⟩ := st1.own hi
    rw [hD] at q; cases q⟩
  obtain ⟨ftw, stw, ftw1⟩ := st1.clr vs h0
  have stw0 := stw.write (o := .lst []) freeD.1 freeD.2.1 fun i hi => freeD.2.2 i (ftw1 i D hi)
  refine ⟨fun i m' H => ∃ S HB' ft ds' F acc, m' = ds.length - i ∧ i ≤ ds.length ∧ Same HB1 HB' ∧ StF X.K X.mg io S (wipe σ vs) HB' H Fr1 ft p0 ∧ H D = some (.lst acc) ∧ Rps X.K X.mg HB' H acc ds' F ∧ (D :: F).Nodup ∧ (∀ a ∈ D :: F, HB' a = none ∧ Fr1 a = none ∧ ∀ i, a ∉ ft i) ∧ lcL vs g t m (ds.drop i) ds' S = some (acc0, S20),
    ⟨_, wipeS S1 vs, HB1, ftw, [], [], [], rfl, Nat.zero_le _, Same.refl _, stw0, upd_same, .nil, by simp, fun a ha => ?_, hlc⟩, ?_⟩
  · have : a = D := by simpa using ha
    subst this
    exact ⟨freeD.1, freeD.2.1, fun i hi => freeD.2.2 i (ftw1 i _ hi)⟩
  rintro i m' H ⟨S, HB2, ft2, ds', F, acc, rfl, hi, s2, st2, hDl, rp, nd, free, e2⟩
  by_cases hlt : i < ds.length
  · have thD : ∀ a ∈ D :: F, ∃ o, H a = some o ∧ Mu o := fun a ha => by
      rcases List.mem_cons.mp ha with rfl | ha
      · exact ⟨_, hDl, True.intro⟩
      · exact rp.there a ha
    have sp := same_plus (Fr := Fr1) (H := H) fun a ha => (free a ha).2.1
    have st3 := st2.plus thD free
    refine .inr ⟨wk.go i H HB2 hlt s2 st2.bs st2.fr, fun H' => ∃ S HB' ft ds' F acc, Same HB1 HB' ∧ StF X.K X.mg io S (wipe σ vs) HB' H' Fr1 ft p0 ∧ H' D = some (.lst acc) ∧ Rps X.K X.mg HB' H' acc ds' F ∧ (D :: F).Nodup ∧ (∀ a ∈ D :: F, HB' a = none ∧ Fr1 a = none ∧ ∀ i, a ∉ ft i) ∧ lcL vs g t m (ds.drop (i + 1)) ds' S = some (acc0, S20),
      fun H' ⟨S', HB', ft', dsx, Fx', accx, a1, a2, a3, a4, a5, a6, a7⟩ => ⟨ds.length - (i + 1), by omega, S', HB', ft', dsx, Fx', accx, rfl, hlt, a1, a2, a3, a4, a5, a6, a7⟩, fun x H' y => ?_⟩
    obtain ⟨HB3, d, hd, ext, rpx⟩ := wk.yld i H HB2 x H' hlt s2 st2.bs st2.fr y
    rw [drop_get hd] at e2
    unfold lcL at e2
    split at e2
    · cases e2
    rename_i S3 h3
    refine ⟨S, HB3, _, ft2, p0, d, [], S3, st3.ext ext, ⟨rpx, List.nodup_nil, fun _ z => nomatch z⟩, h3, fun σ4 H4 HB4 ft4 s4 st4 l4 o4 => ?_⟩
    have hwp : wipe σ4 vs = wipe σ vs := by
      have e : wipe σ4 vs = wipe (wipe σ vs) vs := wipe_eq l4 fun j hj => o4 j fun z => hj (hw j z)
      rw [e]
      exact wipe_eq (wipe_length _ _) fun j hj => wipe_out hj
    refine ⟨hwp, htt _ _ _ ?_⟩
    have s14 := s2.trans (ext.bs.trans s4)
    -- a turn's end
    have fin : ∀ {S5 : Sl} {HB5 H5 : Hp} {ft5 : Nat → List Addr}, Same HB4 HB5 → StF X.K X.mg io S5 σ4 HB5 H5 (Fx.plus Fr1 (D :: F) H) ft5 p0 → ∃ ft6, StF X.K X.mg io (wipeS S5 vs) (wipe σ vs) HB5 H5 Fr1 ft6 p0 ∧ (∀ j, ∀ a ∈ ft6 j, a ∈ ft5 j) ∧ H5 D = some (.lst acc) ∧ Rps X.K X.mg HB5 H5 acc ds' F ∧ ∀ a ∈ D :: F, HB5 a = none ∧ Fr1 a = none ∧ ∀ i, a ∉ ft5 i := fun {S5 HB5 H5 ft5} s5 st5 => by
      obtain ⟨ft6, st6, q6⟩ := (st5.less sp).clr vs h0
      rw [hwp] at st6
      have kept := plus_kept st5.fr thD
      refine ⟨ft6, st6, q6, by rw [kept D List.mem_cons_self]; exact hDl, rp.mono (ext.bs.trans (s4.trans s5)) fun a ha => kept a (List.mem_cons_of_mem _ ha), fun a ha => ?_⟩
      obtain ⟨o, q, _⟩ := thD a ha
      have pl : Fx.plus Fr1 (D :: F) H a = some o := by rw [plus_in ha, q]
      exact ⟨st5.dis a o pl, (free a ha).2.1, fun i hi => by
        have := (st5.free i a hi).2
        rw [pl] at this; cases this⟩
    split at e2
    · rename_i S5 h5
      refine ⟨S3, HB4, _, ft4, p0, _, st4, h5, fun H5 HB5 ft5 s5 st5 => iteT ?_⟩
      split at e2
      · rename_i yd S6 h6
        split at e2
        · rename_i hlen
          refine ⟨S5, HB5, _, ft5, p0, _, st5, h6, fun yv H6 HB6 ft6 Fy s6 st6 hy => ?_⟩
          obtain ⟨ft7, st7, q7, d7, r7, fr7⟩ := fin (s5.trans s6) st6
          have plN : ∀ a ∈ Fy, a ∉ D :: F := fun a ha z => by
            have := (hy.free a ha).2.1
            rw [plus_in z] at this
            obtain ⟨o, q, _⟩ := thD a z
            rw [q] at this; cases this
          have hDy : D ∉ Fy := fun z => plN D z List.mem_cons_self
          have hDF : D ∉ F := (List.nodup_cons.mp nd).1
          refine ⟨acc, d7, ?_, wipeS S6 vs, HB6, ft7, ds' ++ [yd], F ++ Fy, acc ++ [yv], s14.trans (s5.trans s6), st7.write (fr7 D List.mem_cons_self).1 (fr7 D List.mem_cons_self).2.1 fun i hi => (fr7 D List.mem_cons_self).2.2 i (q7 i D hi), upd_same, ?_, ?_, ?_, e2⟩
          · have := line_of (n := acc.length + 1) (by rw [r7.length]; omega)
            omega
          · refine (r7.append hy.one.rp).mono (Same.refl _) fun a ha => upd_ne fun z => ?_
            subst z
            exact (List.mem_append.mp ha).elim hDF hDy
          · rw [← List.cons_append]
            exact List.nodup_append.mpr ⟨nd, hy.nd, fun a ha b hb z => plN b hb (z ▸ ha)⟩
          · intro a ha
            rw [← List.cons_append] at ha
            rcases List.mem_append.mp ha with ha | ha
            · exact ⟨(fr7 a ha).1, (fr7 a ha).2.1, fun i hi => (fr7 a ha).2.2 i (q7 i a hi)⟩
            · exact ⟨(hy.free a ha).1, sp.free (hy.free a ha).2.1, fun i hi => (hy.free a ha).2.2 i (q7 i a hi)⟩
        · cases e2
      · cases e2
    · rename_i S5 h5
      refine ⟨S3, HB4, _, ft4, p0, _, st4, h5, fun H5 HB5 ft5 s5 st5 => iteF ?_⟩
      obtain ⟨ft7, st7, q7, d7, r7, fr7⟩ := fin s5 st5
      exact ⟨wipeS S5 vs, HB5, ft7, ds', F, acc, s14.trans s5, st7, d7, r7, nd, fun a ha => ⟨(fr7 a ha).1, (fr7 a ha).2.1, fun i hi => (fr7 a ha).2.2 i (q7 i a hi)⟩, e2⟩
    · cases e2
  · have hge : ds.length ≤ i := by omega
    rw [List.drop_eq_nil_of_le hge] at e2
    cases e2
    obtain ⟨ft3, st3, q3⟩ := st1.back hcalm st2 s2
    exact .inl ⟨wk.stop i H HB2 hge s2 st2.bs st2.fr, post _ H HB2 ft3 (D :: F) (q1.trans s2) (st3.less f1) ⟨.own hDl rp, nd, fun a ha => ⟨(free a ha).1, f1.free (free a ha).2.1, fun i hi => (free a ha).2.2 i (q3 i a hi)⟩⟩⟩
abbrev PTsd (X : Cx) (W : WX) (io : Bool) (ifs : List Expr) (t : BM) : Prop := ∃ tt, PTs X ifs tt ∧ ∀ σ H Q, TTd X.K X.mg W io t σ H Q → tt σ H Q
theorem pts_nilD : PTsd X W io [] tYesD := ⟨_, pts_nil, fun σ H Q ⟨S, HB, Fr, ft, p0, z, st, e1, post⟩ => by
  cases e1
  exact post H HB ft (Same.refl _) st⟩
theorem pts_oneD {t : BM} (h : PTd X W io c t) : PTsd X W io [c] t := ⟨_, pts_one h, fun _ _ _ q => q⟩
theorem pe_lcD {vs ws : List Nat} {g : GM} {t : BM} {ifs : List Expr} {scope : Scope} {own : List (Str × Nat)} (hc : X.calm = true) (hN : X.N.Nodup) (hi : PId X W io tg e am) (ok : BlkOk X.N X.env.scope scope own) (hvs : own.map (·.2) = vs) (hw : ∀ j ∈ ws, j ∈ vs) (h0 : io = false ∨ 0 ∉ vs)
    (hg : ∀ (s : Shared) (H : Hp) (C : Addr) (cl : List (Str × Addr)) (fp : List Addr), PGd (X.blk s H scope (compEnvC scope cl C X.env) fp) io ws tg g)
    (ht : ∃ tt, (∀ (s : Shared) (H : Hp) (C : Addr) (cl : List (Str × Addr)) (fp : List Addr), PTs (X.blk s H scope (compEnvC scope cl C X.env) fp) ifs tt) ∧ ∀ σ H Q, TTd X.K X.mg WF io t σ H Q → tt σ H Q)
    (he : ∀ (s : Shared) (H : Hp) (C : Addr) (cl : List (Str × Addr)) (fp : List Addr), PEd (X.blk s H scope (compEnvC scope cl C X.env) fp) WF io elt m) (hs : ∀ x, foldedSetIterable e X.env x = pure x := by intro _; rfl) :
    PEd X W io (.ListComp elt [⟨tg, e, ifs, 0⟩] scope pos) (mLc vs am g t m) := by
  obtain ⟨tt, ht, htt⟩ := ht
  subst hvs
  exact PE.imp (pe_lc hc hN hi ok hg ht he hs) fun σ H Q q => lc_run hw h0 htt q
theorem ps_setLcD {i : Nat} {y : Str} {py spos : Pos} {vs ws : List Nat} {g : GM} {t : BM} {ifs : List Expr} {scope : Scope} {own : List (Str × Nat)} (hc : X.calm = true) (hN : X.N.Nodup) (hi : PId X W io tg e am) (ok : BlkOk X.N X.env.scope scope own) (hvs : own.map (·.2) = vs) (hw : ∀ j ∈ ws, j ∈ vs) (h0 : io = false ∨ 0 ∉ vs)
    (hg : ∀ (s : Shared) (H : Hp) (C : Addr) (cl : List (Str × Addr)) (fp : List Addr), PGd (X.blk s H scope (compEnvC scope cl C X.env) fp) io ws tg g)
    (ht : ∃ tt, (∀ (s : Shared) (H : Hp) (C : Addr) (cl : List (Str × Addr)) (fp : List Addr), PTs (X.blk s H scope (compEnvC scope cl C X.env) fp) ifs tt) ∧ ∀ σ H Q, TTd X.K X.mg WF io t σ H Q → tt σ H Q)
    (he : ∀ (s : Shared) (H : Hp) (C : Addr) (cl : List (Str × Addr)) (fp : List Addr), PEd (X.blk s H scope (compEnvC scope cl C X.env) fp) WF io elt m) (hy : X.N[i]? = some y := by rfl) (hyl : X.env.scope.names.lookup y = some .local := by rfl) (hi0 : io = false ∨ i ≠ 0 := by first | exact Or.inl rfl | exact Or.inr (by decide))
    (hsw : swapsWith (.ListComp elt [⟨tg, e, ifs, 0⟩] scope pos) (some (.Name y py)) spos.line X.env = pure true := by rfl) (hs : ∀ x, foldedSetIterable e X.env x = pure x := by intro _; rfl) :
    PSd X W io (.Assign [.Name y py] (.ListComp elt [⟨tg, e, ifs, 0⟩] scope pos) spos) (sAs (mLc vs am g t m) (gNm i)) := by
  obtain ⟨tt, ht, htt⟩ := ht
  subst hvs
  exact PS.imp (ps_setLc hc hN hy hyl hsw hi ok hg ht he hs) fun E σ H q => lc_run hw h0 htt (then_run q fun S HB H1 Fr ft p0 d v F z HB0 st s0 hd hk post => by
    cases hk
    obtain ⟨ft', st'⟩ := st.put hd hi0
    exact post _ H1 HB ft' s0 st')
end
end Fx

set_option maxHeartbeats 2000000
namespace Fx
open PySem PySem.Spec PyProof.Rows L2

/-! ### a def as a function of data -/
abbrev FM := List D → Option (Except Er D × Option D)
def finS (io : Bool) (S : Sl) : Option (Option D) := if io = true then (match S[0]? with
  | some (some d) => some (some d)
  | _ => none) else some none
def fnM (n : Nat) (io : Bool) (b : SM) : FM := fun ds => match b (ds.map some ++ List.replicate (n - ds.length) none) with
  | some (.ret d, S) => (finS io S).map fun o => (.ok d, o)
  | some (.nx, S) => (finS io S).map fun o => (.ok .non, o)
  | some (.err e, S) => (finS io S).map fun o => (.error e, o)
  | _ => none
section
variable (K : PySem.W.Frag) (mg : Str → Option Value)
def BoxAt (HB H : Hp) (vs : List V) (G : List Addr) : Option D → Prop
  | none => G = []
  | some d => ∃ v, vs.head? = some v ∧ Rp K mg HB H v d G
/-- the heaps behind a call -/
structure Aft (HB Fr HB' H' : Hp) : Prop where
  bs : Same HB HB'
  sub : Same HB' H'
  fr : Same Fr H'
  dis : ∀ a o, Fr a = some o → HB' a = none
def FPost (HB Fr : Hp) (vs : List V) (Q : VK) (E : XK) : Except Er D × Option D → Prop
  | (.ok d, o) => ∀ v H' HB' F G, Aft HB Fr HB' H' → Rp K mg HB' H' v d F → BoxAt K mg HB' H' vs G o → (F ++ G).Nodup → (∀ a ∈ F ++ G, HB' a = none ∧ Fr a = none) → Q v H'
  | (.error e, o) => ∀ c dx H' HB' G, Aft HB Fr HB' H' → BoxAt K mg HB' H' vs G o → G.Nodup → (∀ a ∈ G, HB' a = none ∧ Fr a = none) → ErrAt K mg HB' H' Fr c dx e → E c (some dx) H'
def SpD (n : Nat) (f : FM) : Sp := fun vs H Q E => ∃ HB Fr ds F r, (∀ a o, Fr a = some o → Mu o) ∧ Aft HB Fr HB H ∧ Rps K mg HB H vs ds F ∧ F.Nodup ∧ (∀ a ∈ F, HB a = none ∧ Fr a = none) ∧ ds.length = n ∧ f ds = some r ∧ FPost K mg HB Fr vs Q E r
end
section
variable {K : PySem.W.Frag} {mg : Str → Option Value} {io : Bool} {S : Sl} {σ : L2.St} {HB H Fr : Hp} {ft : Nat → List Addr} {p0 : Option V} {v : V} {d : D} {F : List Addr}
theorem SpD.len {n : Nat} {f : FM} {vs : List V} {Q : VK} {E : XK} (h : SpD K mg n f vs H Q E) : vs.length = n := by
  obtain ⟨HB, Fr, ds, F, r, _, a, rp, _, _, hl, _⟩ := h
  rw [rp.length, hl]
/-- what each owns -/
theorem Rps.parts : ∀ {vs : List V} {ds : List D} {F : List Addr}, Rps K mg HB H vs ds F → ∃ ft : Nat → List Addr, (∀ i d, ds[i]? = some d → ∃ v, vs[i]? = some v ∧ Rp K mg HB H v d (ft i)) ∧ (∀ i, ds.length ≤ i → ft i = []) ∧ (∀ i a, a ∈ ft i → a ∈ F) ∧
    (F.Nodup → (∀ i, (ft i).Nodup) ∧ ∀ i j a, a ∈ ft i → a ∈ ft j → i = j)
  | _, _, _, .nil => ⟨fun _ => [], fun i d h => by simp at h, fun _ _ => rfl, fun _ _ h => (nomatch h), fun _ => ⟨fun _ => List.nodup_nil, fun _ _ _ h => (nomatch h)⟩⟩
  | _, _, _, .cons (v := v) (d := d) (ds := ds) (F := F) (G := G) h r => by
    obtain ⟨ft, h1, h2, h3, h4⟩ := r.parts
    refine ⟨fun i => match i with | 0 => F | i + 1 => ft i, fun i e q => ?_, fun i hi => ?_, fun i a ha => ?_, fun nd => ?_⟩
    · cases i with
      | zero => simp at q; subst q; exact ⟨v, rfl, h⟩
      | succ i =>
        obtain ⟨u, e1, e2⟩ := h1 i e (by simpa using q)
        exact ⟨u, by simpa using e1, e2⟩
    · cases i with
      | zero => simp at hi
      | succ i => exact h2 i (by simpa using hi)
    · cases i with
      | zero => exact List.mem_append_left _ ha
      | succ i => exact List.mem_append_right _ (h3 i a ha)
    · obtain ⟨n1, n2, n3⟩ := List.nodup_append.mp nd
      obtain ⟨m1, m2⟩ := h4 n2
      refine ⟨fun i => ?_, fun i j a hi hj => ?_⟩
      · cases i with
        | zero => exact n1
        | succ i => exact m1 i
      · cases i with
        | zero =>
          cases j with
          | zero => rfl
          | succ j => exact absurd rfl (n3 a hi a (h3 j a hj))
        | succ i =>
          cases j with
          | zero => exact absurd rfl (n3 a hj a (h3 i a hi))
          | succ j => rw [m2 i j a hi hj]
theorem start_get {N : List Str} {vs : List V} {ds : List D} {i : Nat} {d : D} (h : (ds.map some ++ List.replicate (N.length - ds.length) none)[i]? = some (some d)) : ds[i]? = some d := by
  by_cases hi : i < ds.length
  · rw [List.getElem?_append_left (by simpa using hi), List.getElem?_map] at h
    cases e : ds[i]? with
    | none => rw [e] at h; cases h
    | some x => rw [e] at h; cases h; rfl
  · rw [List.getElem?_append_right (by simpa using hi), List.getElem?_replicate] at h
    split at h <;> cases h
theorem start_val {N : List Str} {vs : List V} {i : Nat} {v : V} (h : vs[i]? = some v) : (L2.start N vs)[i]? = some (some v) := by
  have hi : i < vs.length := (List.getElem?_eq_some_iff.mp h).1
  unfold L2.start
  rw [List.getElem?_append_left (by simpa using hi), List.getElem?_map, h]
  rfl
theorem StF.begin {N : List Str} {vs : List V} {ds : List D} (frm : ∀ a o, Fr a = some o → Mu o) (a : Aft HB Fr HB H) (r : Rps K mg HB H vs ds F) (nd : F.Nodup) (free : ∀ a ∈ F, HB a = none ∧ Fr a = none) (h0 : io = true → 0 < ds.length) :
    ∃ ft, StF K mg io (ds.map some ++ List.replicate (N.length - ds.length) none) (L2.start N vs) HB H Fr ft (if io = true then vs.head? else none) := by
  obtain ⟨ft, h1, h2, h3, h4⟩ := r.parts
  obtain ⟨m1, m2⟩ := h4 nd
  refine ⟨ft, ?_⟩
  constructor
  · unfold L2.start
    simp only [List.length_append, List.length_map, List.length_replicate, r.length]
  · exact a.sub
  · exact a.fr
  · exact a.dis
  · intro i d h
    obtain ⟨v, e1, e2⟩ := h1 i d (start_get (vs := vs) h)
    exact ⟨v, start_val e1, e2⟩
  · intro i h
    apply h2
    apply Nat.le_of_not_lt
    intro hi
    apply h ds[i]
    rw [List.getElem?_append_left (by simpa using hi), List.getElem?_map, List.getElem?_eq_getElem hi]
    rfl
  · intro i a ha
    exact free a (h3 i a ha)
  · exact m1
  · exact m2
  · intro v hv
    split at hv
    · rename_i hio
      refine ⟨hio, start_val ?_⟩
      rwa [List.head?_eq_getElem?] at hv
    · cases hv
  · exact frm
/-- a box's end -/
theorem StF.box {vs : List V} {o : Option D} {σ' : L2.St} (st : StF K mg io S σ' HB H Fr ft (if io = true then vs.head? else none)) (h0 : io = true → 0 < vs.length) (h : finS io S = some o) :
    ∃ G, BoxAt K mg HB H vs G o ∧ G.Nodup ∧ ∀ a ∈ G, HB a = none ∧ Fr a = none ∧ ∃ i, a ∈ ft i := by
  unfold finS at h
  split at h
  · rename_i hio
    split at h
    · rename_i d hd
      cases h
      obtain ⟨v, e1, e2⟩ := st.val 0 d hd
      have hv : ∃ u, vs.head? = some u := by
        cases vs with
        | nil => exact absurd (h0 hio) (by simp)
        | cons u us => exact ⟨u, rfl⟩
      obtain ⟨u, hu⟩ := hv
      obtain ⟨_, e3⟩ := st.pin u (by rw [if_pos hio]; exact hu)
      rw [e1] at e3
      cases e3
      exact ⟨ft 0, ⟨v, hu, e2⟩, st.nd 0, fun a ha => ⟨(st.free 0 a ha).1, (st.free 0 a ha).2, 0, ha⟩⟩
    · cases h
  · cases h
    exact ⟨[], rfl, List.nodup_nil, fun _ z => nomatch z⟩
end
section
variable {P : Program} {w : World} {K : PySem.W.Frag} {mg : Str → Option Value} {base : Heap}
theorem okD {x qual : Str} {params : Arguments} {body : List Stmt} {scope : Scope} {dvs : List V} {kws : List (Str × V)} {f : Addr} {fd : FuncData} {N ps : List Str} {k : Nat} {io : Bool} {b : SM} (F : FunD K x qual params body scope dvs kws f fd) (Sc : FnScope N ps scope) (h0 : io = true → 0 < ps.length)
    (hbody : ∀ (cdv : Value) (A : Around) (outer : List Env) (s : Shared) (H : Hp) (E : XK), Room k (A.deeper (envOfC qual scope s.heap.objs.size f cdv)) →
      PSsd (cxOf (L2.CX P w) P w K mg base N qual scope f cdv A outer s H E) (fun c d _ H' => E c d H') io body b) : FnOk P w K mg base (L2.CX P w) (k + 1) f fd ps (SpD K mg ps.length (fnM N.length io b)) := by
  refine F.ok Sc (fun vs H Q E h => h.len) fun cdv A outer s H vs Q E hr h => ⟨_, hbody cdv A outer s H E hr, ?_⟩
  obtain ⟨HB, Fr, ds, F, r, frm, a, rp, nd, free, hl, hf, post⟩ := h
  have h0d : io = true → 0 < ds.length := fun e => by rw [hl]; exact h0 e
  obtain ⟨ft, st⟩ := StF.begin (N := N) frm a rp nd free h0d
  have h0v : io = true → 0 < vs.length := fun e => by rw [rp.length]; exact h0d e
  unfold fnM at hf
  have fin : ∀ {S : Sl} {o : Option D} {d : D} {v : V} {σ' : L2.St} {H' HB' : Hp} {ft' : Nat → List Addr} {F' : List Addr}, FPost K mg HB Fr vs Q E (.ok d, o) → finS io S = some o → Same HB HB' → StF K mg io S σ' HB' H' Fr ft' (if io = true then vs.head? else none) → Hand K mg HB' H' Fr ft' v d F' → Q v H' := fun {S o d v σ' H' HB' ft' F'} post ho s' st' hd => by
    obtain ⟨G, g1, g2, g3⟩ := st'.box h0v ho
    refine post v H' HB' F' G ⟨s', st'.bs, st'.fr, st'.dis⟩ hd.rp g1 (List.nodup_append.mpr ⟨hd.nd, g2, fun a ha b hb e => ?_⟩) fun a ha => ?_
    · subst e
      obtain ⟨i, hi⟩ := (g3 a hb).2.2
      exact (hd.free a ha).2.2 i hi
    · rcases List.mem_append.mp ha with ha | ha
      · exact ⟨(hd.free a ha).1, (hd.free a ha).2.1⟩
      · exact ⟨(g3 a ha).1, (g3 a ha).2.1⟩
  split at hf
  · rename_i d S hb
    obtain ⟨o, ho, rfl⟩ := Option.map_eq_some_iff.mp hf
    exact ⟨_, HB, Fr, ft, _, _, st, hb, fun v σ' H' HB' ft' F' s' st' hd => fin post ho s' st' hd⟩
  · rename_i S hb
    obtain ⟨o, ho, rfl⟩ := Option.map_eq_some_iff.mp hf
    exact ⟨_, HB, Fr, ft, _, _, st, hb, fun σ' H' HB' ft' s' st' => fin post ho s' st' ⟨.non, List.nodup_nil, fun _ z => nomatch z⟩⟩
  · rename_i e S hb
    obtain ⟨o, ho, rfl⟩ := Option.map_eq_some_iff.mp hf
    refine ⟨_, HB, Fr, ft, _, _, st, hb, fun σ' c dx H' HB' ft' s' st' er => ?_⟩
    obtain ⟨G, g1, g2, g3⟩ := st'.box h0v ho
    exact post c dx H' HB' G ⟨s', st'.bs, st'.fr, st'.dis⟩ g1 g2 (fun a ha => ⟨(g3 a ha).1, (g3 a ha).2.1⟩) er
  · cases hf
/-- a promise by an equal function -/
theorem okD_imp {f : Addr} {fd : FuncData} {ps : List Str} {k n : Nat} {g g' : FM} (F : FnOk P w K mg base (L2.CX P w) k f fd ps (SpD K mg n g)) (h : ∀ ds r, g' ds = some r → g ds = some r) : FnOk P w K mg base (L2.CX P w) k f fd ps (SpD K mg n g') :=
  F.imp fun vs H Q E ⟨HB, Fr, ds, F, r, frm, a, rp, nd, free, hl, hf, post⟩ => ⟨HB, Fr, ds, F, r, frm, a, rp, nd, free, hl, h _ _ hf, post⟩
end

/-! ### calls -/
def mCall (f : FM) (am : AM) : EM := fun S => bnd (am S) fun ds S1 => match f ds with
  | some (r, none) => some (r, S1)
  | _ => none
def mCallI (i : Nat) (f : FM) (am : AM) : EM := fun S => if (S[i]?.join).isSome = true then bnd (am S) fun ds S1 => match S1[i]? with
  | some (some d0) => (match f (d0 :: ds) with
    | some (r, some d1) => some (r, S1.set i (some d1))
    | _ => none)
  | _ => none else none
open Classical in
noncomputable def plusS (Fr : Hp) (ft : Nat → List Addr) (H : Hp) : Hp := fun a => if ∃ i, a ∈ ft i then H a else Fr a
theorem plusS_in {Fr H : Hp} {ft : Nat → List Addr} {a : Addr} {i : Nat} (h : a ∈ ft i) : plusS Fr ft H a = H a := if_pos ⟨i, h⟩
theorem plusS_out {Fr H : Hp} {ft : Nat → List Addr} {a : Addr} (h : ∀ i, a ∉ ft i) : plusS Fr ft H a = Fr a := if_neg fun ⟨i, z⟩ => h i z
section
variable {K : PySem.W.Frag} {mg : Str → Option Value} {io : Bool} {S : Sl} {σ : L2.St} {HB H Fr HB' H' : Hp} {ft : Nat → List Addr} {p0 : Option V} {v : V} {vs : List V} {d : D} {ds : List D} {F G : List Addr}
theorem StF.sub (st : StF K mg io S σ HB H Fr ft p0) : Same Fr (plusS Fr ft H) := fun a o e => by
  rw [plusS_out fun i hi => by rw [(st.free i a hi).2] at e; cases e]; exact e
theorem StF.aft (st : StF K mg io S σ HB H Fr ft p0) : Aft HB (plusS Fr ft H) HB H where
  bs := Same.refl _
  sub := st.bs
  fr := fun a o e => by
    by_cases h : ∃ i, a ∈ ft i
    · obtain ⟨i, hi⟩ := h
      rwa [plusS_in hi] at e
    · rw [plusS_out fun i hi => h ⟨i, hi⟩] at e
      exact st.fr a o e
  dis := fun a o e => by
    by_cases h : ∃ i, a ∈ ft i
    · obtain ⟨i, hi⟩ := h
      exact (st.free i a hi).1
    · rw [plusS_out fun i hi => h ⟨i, hi⟩] at e
      exact st.dis a o e
theorem StF.mus (st : StF K mg io S σ HB H Fr ft p0) : ∀ a o, plusS Fr ft H a = some o → Mu o := fun a o e => by
  by_cases h : ∃ i, a ∈ ft i
  · obtain ⟨i, hi⟩ := h
    rw [plusS_in hi] at e
    obtain ⟨o', q, m⟩ := st.own hi
    rw [q] at e; cases e; exact m
  · rw [plusS_out fun i hi => h ⟨i, hi⟩] at e
    exact st.frm a o e
theorem StF.called (st : StF K mg io S σ HB H Fr ft p0) (a : Aft HB (plusS Fr ft H) HB' H') : StF K mg io S σ HB' H' Fr ft p0 where
  len := st.len
  bs := a.sub
  fr := fun b o e => a.fr b o (st.sub b o e)
  dis := fun b o e => a.dis b o (st.sub b o e)
  val := fun i d h => by
    obtain ⟨v, q1, q2⟩ := st.val i d h
    refine ⟨v, q1, q2.mono a.bs fun b hb => ?_⟩
    obtain ⟨o, q, _⟩ := q2.there b hb
    rw [q]
    exact a.fr b o (by rw [plusS_in hb]; exact q)
  emp := st.emp
  free := fun i b hb => by
    obtain ⟨o, q, _⟩ := st.own hb
    exact ⟨a.dis b o (by rw [plusS_in hb]; exact q), (st.free i b hb).2⟩
  nd := st.nd
  sep := st.sep
  pin := st.pin
  frm := st.frm
theorem StF.apart (st : StF K mg io S σ HB H Fr ft p0) {a : Addr} (h : plusS Fr ft H a = none) : Fr a = none ∧ ∀ i, a ∉ ft i := ⟨st.sub.free h, fun i hi => by
  obtain ⟨o, q, _⟩ := st.own hi
  rw [plusS_in hi, q] at h
  cases h⟩
/-- a thing comes back to its slot -/
theorem StF.restore {i : Nat} {S : Sl} (st : StF K mg io S σ HB H Fr ft p0) (hi : S[i]? = some none) (hv : σ[i]? = some (some v)) (rp : Rp K mg HB H v d G) (nd : G.Nodup) (free : ∀ a ∈ G, HB a = none ∧ Fr a = none ∧ ∀ j, a ∉ ft j) :
    StF K mg io (S.set i (some d)) σ HB H Fr (fun j => if j = i then G else ft j) p0 := by
  have hl : i < S.length := (List.getElem?_eq_some_iff.mp hi).1
  constructor
  · rw [List.length_set, st.len]
  · exact st.bs
  · exact st.fr
  · exact st.dis
  · intro j e h
    rcases set_get h with ⟨rfl, _, h2⟩ | ⟨h1, h2⟩
    · cases h2
      rw [if_pos rfl]
      exact ⟨v, hv, rp⟩
    · rw [if_neg h1]
      exact st.val j e h2
  · intro j h
    by_cases e : j = i
    · subst e
      exact absurd (List.getElem?_set_self (a := some d) hl) (h d)
    · rw [if_neg e]
      exact st.emp j fun d' q => h d' (by rw [List.getElem?_set_ne (fun q => e q.symm)]; exact q)
  · intro j a ha
    split at ha
    · exact ⟨(free a ha).1, (free a ha).2.1⟩
    · exact st.free j a ha
  · intro j
    split
    · exact nd
    · exact st.nd j
  · intro j k a h1 h2
    split at h1 <;> split at h2
    · omega
    · exact absurd h2 ((free a h1).2.2 k)
    · exact absurd h1 ((free a h2).2.2 j)
    · exact st.sep j k a h1 h2
  · exact st.pin
  · exact st.frm
end
section
variable {X : Cx} {W : WX} {io : Bool} {a b c e : Expr} {es : List Expr} {ma mb m : EM} {am : AM} {pos : Pos} {k n : Nat} {f : Addr} {fd : FuncData} {ps : List Str} {g : FM} {x : Str} {p : Pos}
/-- arguments, then what is done with them, errors too -/
theorem callD_run {σ : L2.St} {H : Hp} {Q : VK} (h : TEd X.K X.mg W io (mCall g am) σ H Q) (hn : ∀ S ds S', am S = some (.ok ds, S') → ds.length = n) : TAd X.K X.mg W io am σ H fun vs H1 => SpD X.K X.mg n g (vs ++ []) H1 Q (WE W σ) := by
  obtain ⟨S, HB, Fr, ft, p0, z, st, e1, post⟩ := h
  rcases bnd_some e1 with ⟨ds, S1, h1, e2⟩ | ⟨er, S1, h1, rfl⟩
  case inr => exact ⟨S, HB, Fr, ft, p0, _, st, h1, post⟩
  refine ⟨S, HB, Fr, ft, p0, _, st, h1, fun vs H1 HB1 ft1 F1 s1 st1 hx => ?_⟩
  split at e2
  · rename_i r hg
    cases e2
    rw [List.append_nil]
    have fr : ∀ a ∈ F1, HB1 a = none ∧ plusS Fr ft1 H1 a = none := fun a ha => ⟨(hx.free a ha).1, by rw [plusS_out (hx.free a ha).2.2]; exact (hx.free a ha).2.1⟩
    refine ⟨HB1, plusS Fr ft1 H1, ds, F1, _, st1.mus, st1.aft, hx.rp, hx.nd, fr, hn _ _ _ h1, hg, ?_⟩
    cases r with
    | ok d =>
      refine fun v H' HB' F G a rp bx nd free => ?_
      refine post v H' HB' ft1 F (s1.trans a.bs) (st1.called a) ⟨rp, (List.nodup_append.mp nd).1, fun b hb => ?_⟩
      obtain ⟨q1, q2⟩ := free b (List.mem_append_left _ hb)
      exact ⟨q1, st1.apart q2⟩
    | error er => exact fun c dx H' HB' G a bx nd free ex => post c dx H' HB' ft1 (s1.trans a.bs) (st1.called a) (ex.less st1.sub)
  · cases e2
theorem pd_call (F : FnOk X.prog X.w X.K X.mg X.base (L2.CX X.prog X.w) k f fd ps (SpD X.K X.mg n g)) (hr : Room k X.A) (tk : Takes X W) (hm : X.mg x = some (.ref f)) (hk : PySem.W.keepIn X.K (.ref f) = true) (hb : Binds X.K fd ps [])
    (ha : PAd X W io (e :: es) am) (hn : ∀ S ds S', am S = some (.ok ds, S') → ds.length = n) (hg : Gl X x := by rfl) (hdb : (x == ("__debug__" : Str)) = false := by decide) (he : starEach (e :: es) X.env = (false, eval e X.env) :: starEach es X.env := by rfl) (hpl : (backTo pos (starEach es X.env)).any (·.1) = false := by rfl) :
    PEd X W io (.Call (.Name x p) (e :: es) [] pos) (mCall g am) := PE.imp (pe_callSD F hr hg hm hk hb .nil (fun σ => passAt tk σ) ha hdb he hpl) fun σ H Q q => callD_run q hn
theorem callI_run {i : Nat} {σ : L2.St} {H : Hp} {Q : VK} (h : TEd X.K X.mg W io (mCallI i g am) σ H Q) (hn : ∀ S ds S', am S = some (.ok ds, S') → ds.length + 1 = n) : tCons (tVar i) (TAd X.K X.mg W io am) σ H fun vs H1 => SpD X.K X.mg n g (vs ++ []) H1 Q (WE W σ) := by
  obtain ⟨S, HB, Fr, ft, p0, z, st, e1, post⟩ := h
  unfold mCallI at e1
  split at e1
  case isFalse => cases e1
  rename_i hs0
  obtain ⟨v0, hv0⟩ : ∃ v, σ[i]? = some (some v) := by
    obtain ⟨d, hd⟩ := Option.isSome_iff_exists.mp hs0
    obtain ⟨v, q, _⟩ := st.val i d (Option.join_eq_some_iff.mp hd)
    exact ⟨v, q⟩
  refine ⟨v0, hv0, ?_⟩
  rcases bnd_some e1 with ⟨ds, S1, h1, e2⟩ | ⟨er, S1, h1, rfl⟩
  case inr => exact ⟨S, HB, Fr, ft, p0, _, st, h1, post⟩
  refine ⟨S, HB, Fr, ft, p0, _, st, h1, fun vs H1 HB1 ft1 F1 s1 st1 hx => ?_⟩
  split at e2
  case h_2 => cases e2
  rename_i d0 hd0
  split at e2
  case h_2 => cases e2
  rename_i r d1 hg
  cases e2
  rw [List.append_nil]
  obtain ⟨v0', ft2, hv0', st2, hd, sub2⟩ := st1.take hd0
  rw [hv0] at hv0'
  cases hv0'
  have fr : ∀ a ∈ ft1 i ++ F1, HB1 a = none ∧ plusS Fr ft2 H1 a = none := fun a ha => by
    rcases List.mem_append.mp ha with ha | ha
    · exact ⟨(hd.free a ha).1, by rw [plusS_out (hd.free a ha).2.2]; exact (hd.free a ha).2.1⟩
    · exact ⟨(hx.free a ha).1, by rw [plusS_out fun j hj => (hx.free a ha).2.2 j (sub2 j a hj).2]; exact (hx.free a ha).2.1⟩
  have fn : ∀ a ∈ ft1 i, a ∉ F1 := fun a h1 h2 => (hx.free a h2).2.2 i h1
  have hl : i < S1.length := (List.getElem?_eq_some_iff.mp hd0).1
  have hset : (S1.set i none)[i]? = some none := List.getElem?_set_self hl
  have back : ∀ {HB' H' : Hp} {G : List Addr}, Aft HB1 (plusS Fr ft2 H1) HB' H' → BoxAt X.K X.mg HB' H' (v0 :: vs) G (some d1) → G.Nodup → (∀ a ∈ G, HB' a = none ∧ plusS Fr ft2 H1 a = none) → StF X.K X.mg io (S1.set i (some d1)) σ HB' H' Fr (fun j => if j = i then G else ft2 j) p0 := fun {HB' H' G} a bx nd free => by
    obtain ⟨v, hv, rp⟩ := bx
    cases hv
    have := (st2.called a).restore hset hv0 rp nd fun b hb => ⟨(free b hb).1, st2.apart (free b hb).2⟩
    rwa [List.set_set] at this
  refine ⟨HB1, plusS Fr ft2 H1, d0 :: ds, ft1 i ++ F1, _, st2.mus, st2.aft, .cons hd.rp hx.rp, List.nodup_append.mpr ⟨hd.nd, hx.nd, fun a h1 b h2 e => fn a h1 (e ▸ h2)⟩, fr, hn _ _ _ h1, hg, ?_⟩
  cases r with
  | ok d =>
    refine fun v H' HB' F G a rp bx nd free => ?_
    obtain ⟨n1, n2, n3⟩ := List.nodup_append.mp nd
    refine post v H' HB' _ F (s1.trans a.bs) (back a bx n2 fun b hb => free b (List.mem_append_right _ hb)) ⟨rp, n1, fun b hb => ?_⟩
    obtain ⟨q1, q2⟩ := free b (List.mem_append_left _ hb)
    obtain ⟨q3, q4⟩ := st2.apart q2
    refine ⟨q1, q3, fun j hj => ?_⟩
    split at hj
    · exact n3 b hb b hj rfl
    · exact q4 j hj
  | error er => exact fun c dx H' HB' G a bx nd free ex => post c dx H' HB' _ (s1.trans a.bs) (back a bx nd free) (ex.less st2.sub)
theorem pd_callI {i : Nat} {y : Str} {py : Pos} (F : FnOk X.prog X.w X.K X.mg X.base (L2.CX X.prog X.w) k f fd ps (SpD X.K X.mg n g)) (hr : Room k X.A) (tk : Takes X W) (hm : X.mg x = some (.ref f)) (hk : PySem.W.keepIn X.K (.ref f) = true) (hb : Binds X.K fd ps [])
    (ha : PAd X W io es am) (hn : ∀ S ds S', am S = some (.ok ds, S') → ds.length + 1 = n) (hN : X.N[i]? = some y := by rfl) (hv : Vis X.env.scope y := by first | exact Or.inl rfl | exact Or.inr (Or.inl rfl) | exact Or.inr (Or.inr rfl))
    (hdy : (y == ("__debug__" : Str)) = false := by decide) (hcd : (y == ("__classdict__" : Str)) = false := by decide)
    (hg : Gl X x := by rfl) (hdb : (x == ("__debug__" : Str)) = false := by decide) (he : starEach (.Name y py :: es) X.env = (false, eval (.Name y py) X.env) :: starEach es X.env := by rfl) (hpl : (backTo pos (starEach es X.env)).any (·.1) = false := by rfl) :
    PEd X W io (.Call (.Name x p) (.Name y py :: es) [] pos) (mCallI i g am) := PE.imp (pe_callSD F hr hg hm hk hb .nil (fun σ => passAt tk σ) (pa_cons (pe_var hN hv hdy hcd) ha he) hdb he hpl) fun σ H Q q => callI_run q hn
end
end Fx

set_option maxHeartbeats 2000000
namespace Fx
open PySem PySem.Spec PyProof.Rows L2

/-! ### never reached -/
def mNo : EM := fun _ => none
def sNo : SM := fun _ => none
theorem pd_no {X : Cx} {W : WX} {io : Bool} {e : Expr} : PEd X W io e mNo := ⟨fun pins s σ H Q I ⟨S, HB, Fr, ft, p0, r, st, h, _⟩ => by cases h⟩
theorem ps_noD {X : Cx} {W : WX} {io : Bool} {e : Stmt} : PSd X W io e sNo := ⟨fun pins s σ H Q I ⟨S, HB, Fr, ft, p0, r, st, h, _⟩ => by cases h⟩
theorem pss_noD {X : Cx} {W : WX} {io : Bool} {e : List Stmt} : PSsd X W io e sNo := ⟨fun pins s σ H Q I ⟨S, HB, Fr, ft, p0, r, st, h, _⟩ => by cases h⟩

/-! ### a name's value: what is one's own is given away for reading, or moved -/
def mV (i : Nat) : EM := fun S => match S[i]? with
  | some (some d) => if noOwn d = true then some (.ok d, S) else some (.ok (fz d), S.set i (some (fz d)))
  | _ => none
def mMv (i : Nat) : EM := fun S => match S[i]? with
  | some (some d) => if noOwn d = true then some (.ok d, S) else some (.ok d, S.set i none)
  | _ => none
section
variable {X : Cx} {W : WX} {io : Bool} {a b c e : Expr} {es : List Expr} {ma mb m : EM} {am : AM} {pos : Pos} {i j : Nat}
theorem pd_ofV (hv : PE X e (tVar i)) : PEd X W io e (mV i) := PE.imp hv fun σ H Q ⟨S, HB, Fr, ft, p0, z, st, e1, post⟩ => by
  unfold mV at e1
  split at e1
  case h_2 => cases e1
  rename_i d hd
  split at e1
  · rename_i hn
    cases e1
    obtain ⟨v, h1, r⟩ := st.val i d hd
    rw [r.none hn] at r
    exact ⟨v, h1, post v H HB ft [] (Same.refl _) st ⟨r, List.nodup_nil, fun _ z => nomatch z⟩⟩
  · cases e1
    obtain ⟨v, ft2, hv, st2, hh, sub2⟩ := st.take hd
    obtain ⟨HB', s', st3, rp⟩ := st2.give1 hh
    have hl : i < S.length := (List.getElem?_eq_some_iff.mp hd).1
    have st4 := st3.restore (List.getElem?_set_self hl) hv rp List.nodup_nil fun _ z => nomatch z
    rw [List.set_set] at st4
    exact ⟨v, hv, post v H HB' _ [] s' st4 ⟨rp, List.nodup_nil, fun _ z => nomatch z⟩⟩
theorem pd_ofMv (hv : PE X e (tVar i)) : PEd X W io e (mMv i) := PE.imp hv fun σ H Q ⟨S, HB, Fr, ft, p0, z, st, e1, post⟩ => by
  unfold mMv at e1
  split at e1
  case h_2 => cases e1
  rename_i d hd
  split at e1
  · rename_i hn
    cases e1
    obtain ⟨v, h1, r⟩ := st.val i d hd
    rw [r.none hn] at r
    exact ⟨v, h1, post v H HB ft [] (Same.refl _) st ⟨r, List.nodup_nil, fun _ z => nomatch z⟩⟩
  · cases e1
    obtain ⟨v, ft2, hv, st2, hh, sub2⟩ := st.take hd
    exact ⟨v, hv, post v H HB ft2 (ft i) (Same.refl _) st2 hh⟩
/-- what is made is given away for reading -/
def mFz (m : EM) : EM := fun S => bnd (m S) fun d S1 => some (.ok (fz d), S1)
theorem pd_fz (h : PEd X W io e m) : PEd X W io e (mFz m) := PE.imp h fun σ H Q q => seq_run q fun S HB H1 Fr ft p0 d v F z HB0 st s0 hd hk post => by
  cases hk
  obtain ⟨HB', s', st', rp⟩ := st.give1 hd
  exact post v H1 HB' ft [] (s0.trans s') st' ⟨rp, List.nodup_nil, fun _ z => nomatch z⟩

/-! ### operands: an expression, or a name that is looked at where it stands -/
inductive Od where
  | ev (m : EM) | sl (i : Nat)
def rd (i : Nat) (k : D → Sl → Option (Except Er D × Sl)) : EM := fun S => match S[i]? with
  | some (some d) => k d S
  | _ => none
def mOp2 (g : D → D → Option D) : Od → Od → EM
  | .ev a, .ev b => mOp g a b
  | .ev a, .sl j => fun S => bnd (a S) fun d S1 => rd j (fun e S2 => got (g d e) S2) S1
  | .sl i, .ev b => fun S => rd i (fun _ S0 => bnd (b S0) fun e S1 => rd i (fun d S2 => got (g d e) S2) S1) S
  | .sl i, .sl j => fun S => rd i (fun d S0 => rd j (fun e S2 => got (g d e) S2) S0) S
def tOd (K : PySem.W.Frag) (mg : Str → Option Value) (W : WX) (io : Bool) : Od → TE
  | .ev m => TEd K mg W io m
  | .sl i => tVar i
abbrev PEo (X : Cx) (W : WX) (io : Bool) (e : Expr) (o : Od) : Prop := PE X e (tOd X.K X.mg W io o)
theorem rd_some {i : Nat} {k : D → Sl → Option (Except Er D × Sl)} {S : Sl} {z : Except Er D × Sl} (h : rd i k S = some z) : ∃ d, S[i]? = some (some d) ∧ k d S = some z := by
  unfold rd at h
  split at h
  · exact ⟨_, by assumption, h⟩
  · cases h
variable {o1 o2 : Od} {g : D → D → Option D} {r : R2}
theorem op2_run (hs : OpS X.K X.mg r g) {σ : L2.St} {H : Hp} {Q : VK} (h : TEd X.K X.mg W io (mOp2 g o1 o2) σ H Q) : tOp r (tOd X.K X.mg W io o1) (tOd X.K X.mg W io o2) σ H Q := by
  cases o1 with
  | ev a =>
    cases o2 with
    | ev b => exact op_run hs h
    | sl j =>
      refine seq_run h fun S HB H1 Fr ft p0 d v F z HB0 st s0 hd hk post => ?_
      obtain ⟨e, h1, h2⟩ := rd_some hk
      obtain ⟨z', h3, rfl⟩ := got_some h2
      obtain ⟨u, h4, ru⟩ := st.val j e h1
      exact ⟨u, h4, hs HB H1 v u d e z' F _ Q st.bs hd.rp ru h3 (op_end s0 (Same.refl _) st post)⟩
  | sl i =>
    cases o2 with
    | ev b =>
      obtain ⟨S, HB, Fr, ft, p0, z, st, e1, post⟩ := h
      simp only [mOp2] at e1
      obtain ⟨d0, h0, e2⟩ := rd_some e1
      obtain ⟨v, hv, _⟩ := st.val i d0 h0
      refine ⟨v, hv, ?_⟩
      refine seq_run (R := fun y H2 => r v y H2 Q) ⟨S, HB, Fr, ft, p0, z, st, e2, post⟩ fun S1 HB1 H1 Fr1 ft1 p1 e u F z HB0 st1 s0 hd hk post => ?_
      obtain ⟨d, h1, h2⟩ := rd_some hk
      obtain ⟨z', h3, rfl⟩ := got_some h2
      obtain ⟨v', h4, rv⟩ := st1.val i d h1
      rw [hv] at h4
      cases h4
      exact hs HB1 H1 v u d e z' _ F Q st1.bs rv hd.rp h3 (op_end s0 (Same.refl _) st1 post)
    | sl j =>
      obtain ⟨S, HB, Fr, ft, p0, z, st, e1, post⟩ := h
      obtain ⟨d, h1, e2⟩ := rd_some e1
      obtain ⟨e, h2, e3⟩ := rd_some e2
      obtain ⟨z', h3, rfl⟩ := got_some e3
      obtain ⟨v, hv, rv⟩ := st.val i d h1
      obtain ⟨u, hu, ru⟩ := st.val j e h2
      exact ⟨v, hv, u, hu, hs HB H v u d e z' _ _ Q st.bs rv ru h3 (op_end (Same.refl _) (Same.refl _) st post)⟩
theorem po_ev (h : PEd X W io e m) : PEo X W io e (.ev m) := h
theorem po_sl (h : PE X e (tVar i)) : PEo X W io e (.sl i) := h
theorem pd_op2 {op : Operator} (h : OpD X (binaryOp op) g) (ha : PEo X W io a o1) (hb : PEo X W io b o2) : PEd X W io (.BinOp a op b pos) (mOp2 g o1 o2) := by
  obtain ⟨r, h1, h2⟩ := h
  exact PE.imp (pe_op h1 ha hb) fun σ H Q q => op2_run h2 q
theorem pd_cmp2 {op : CmpOp} (h : OpD X (compareOp op) g) (ha : PEo X W io a o1) (hb : PEo X W io b o2) (hm : behindInMarks op b = false) : PEd X W io (.Compare a [op] [b] pos) (mOp2 g o1 o2) := by
  obtain ⟨r, h1, h2⟩ := h
  exact PE.imp (pe_cmpR h1 ha hb hm) fun σ H Q q => op2_run h2 q
theorem pt_cmp2 {op : CmpOp} (h : OpD X (compareOp op) g) (ha : PEo X W io a o1) (hb : PEo X W io b o2) (hm : behindInMarks op b = false) : PTd X W io (.Compare a [op] [b] pos) (tVal (mOp2 g o1 o2)) := by
  obtain ⟨r, h1, h2⟩ := h
  exact PT.imp (pt_cmpR h1 ha hb hm) fun σ H Q q => op2_run h2 (asB_run q)
theorem pd_ix2 (h : IxD X g) (ha : PEo X W io a o1) (hb : PEo X W io b o2) (hs : PlainIx b := by exact fun _ _ => rfl) : PEd X W io (.Subscript a b pos) (mOp2 g o1 o2) := by
  obtain ⟨r, h1, h2⟩ := h
  exact PE.imp (pe_ix h1 ha hb hs) fun σ H Q q => op2_run h2 q
/-- a test by a name's value -/
def tTru2 : Od → BM
  | .ev m => tTru m
  | .sl i => fun S => match S[i]? with
    | some (some d) => got (truD d) S
    | _ => none
theorem pt_tru2 (h : PEo X W io e o1) (he : ∀ whole, isTrue e X.env whole = (do let v ← whole; standAt e.pos; holding [v] (truthy v)) := by intro _; rfl) : PTd X W io e (tTru2 o1) := by
  cases o1 with
  | ev m => exact pt_truD h he
  | sl i =>
    refine PT.imp (pt_truth h he) fun σ H Q ⟨S, HB, Fr, ft, p0, z, st, e1, post⟩ => ?_
    simp only [tTru2] at e1
    split at e1
    · rename_i d hd
      obtain ⟨b, h1, rfl⟩ := got_some e1
      obtain ⟨v, hv, rv⟩ := st.val i d hd
      exact ⟨v, hv, b, tru_rp st.bs rv h1, post H HB ft (Same.refl _) st⟩
    · cases e1

/-! ### a built-in of a name's value -/
def mCBV (i : Nat) (g : List D → Option D) (am : AM) : EM := fun S => rd i (fun _ S0 => bnd (am S0) fun ds S1 => rd i (fun d S2 => got (g (d :: ds)) S2) S1) S
theorem cbV_run {r : List V → Hp → VK → Prop} {g : List D → Option D} (hs : CallS X.K X.mg r g) {σ : L2.St} {H : Hp} {Q : VK} (h : TEd X.K X.mg W io (mCBV i g am) σ H Q) : tCB r (tCons (tVar i) (TAd X.K X.mg W io am)) σ H Q := by
  obtain ⟨S, HB, Fr, ft, p0, z, st, e1, post⟩ := h
  obtain ⟨d0, h0, e2⟩ := rd_some e1
  obtain ⟨v, hv, _⟩ := st.val i d0 h0
  refine ⟨v, hv, ?_⟩
  refine args_run (R := fun vs H1 => r (v :: vs) H1 Q) ⟨S, HB, Fr, ft, p0, z, st, e2, post⟩ fun S1 HB1 H1 Fr1 ft1 p1 ds vs F z HB0 st1 s0 hd hk post => ?_
  obtain ⟨d, h1, h2⟩ := rd_some hk
  obtain ⟨z', h3, rfl⟩ := got_some h2
  obtain ⟨v', h4, rv⟩ := st1.val i d h1
  rw [hv] at h4
  cases h4
  exact hs HB1 H1 (v :: vs) (d :: ds) z' _ Q st1.bs (.cons rv hd.rp) h3 (op_end s0 (Same.refl _) st1 post)
theorem pd_callBV {id : String} {x : Str} {p : Pos} {g : List D → Option D} (h : CallD X (.builtin id) g) (hm : X.mg x = none) (hv : bootBuiltins x = some (.builtin id)) (hn' : PE X e (tVar i)) (ha : PAd X W io es am) (hg : Gl X x := by rfl) (hn : x ≠ "__name__" := by decide) (hdb : (x == ("__debug__" : Str)) = false := by decide)
    (he : starEach (e :: es) X.env = (false, eval e X.env) :: starEach es X.env := by rfl) (hpl : (backTo pos (starEach es X.env)).any (·.1) = false := by rfl) : PEd X W io (.Call (.Name x p) (e :: es) [] pos) (mCBV i g am) := by
  obtain ⟨r, h1, h2⟩ := h
  exact PE.imp (pe_callB h1 hg hm hv (pa_cons hn' ha he) hn hdb he hpl) fun σ H Q q => cbV_run h2 q
theorem pd_callTyV {T : String} {x : Str} {p : Pos} {g : List D → Option D} (h : CallD X (.type T) g) (hm : X.mg x = none) (hv : bootBuiltins x = some (.type T)) (hn' : PE X e (tVar i)) (ha : PAd X W io es am) (hg : Gl X x := by rfl) (hn : x ≠ "__name__" := by decide) (hdb : (x == ("__debug__" : Str)) = false := by decide)
    (he : starEach (e :: es) X.env = (false, eval e X.env) :: starEach es X.env := by rfl) (hpl : (backTo pos (starEach es X.env)).any (·.1) = false := by rfl) : PEd X W io (.Call (.Name x p) (e :: es) [] pos) (mCBV i g am) := by
  obtain ⟨r, h1, h2⟩ := h
  exact PE.imp (pe_callTy h1 hg hm hv (pa_cons hn' ha he) hn hdb he hpl) fun σ H Q q => cbV_run h2 q
end
end Fx

set_option maxHeartbeats 2000000
namespace Fx
open PySem PySem.Spec PyProof.Rows L2

/-! ### one's own list is changed -/
section
variable {K : PySem.W.Frag} {mg : Str → Option Value} {io : Bool} {S : Sl} {σ : L2.St} {HB H Fr : Hp} {ft : Nat → List Addr} {p0 : Option V} {i : Nat} {ds : List D} {kvs : List (List Key × D)} {kks : List (Key × D)}
theorem StF.seeL (st : StF K mg io S σ HB H Fr ft p0) (h : S[i]? = some (some (.lst .own ds))) (hn : noOwns ds = true) : ∃ p xs, σ[i]? = some (some (.ref p)) ∧ H p = some (.lst xs) ∧ Rps K mg HB H xs ds [] ∧
    ∀ H' HB' xs' ds', Ext HB H HB' H' → Rps K mg HB' H' xs' ds' [] → ∃ ft', StF K mg io (S.set i (some (.lst .own ds'))) σ HB' (upd H' p (.lst xs')) Fr ft' p0 := by
  obtain ⟨v, hv, r⟩ := st.val i _ h
  generalize hF : ft i = F at r
  cases r with
  | @own p xs _ G hp r =>
    have e := r.none hn
    subst e
    refine ⟨p, xs, hv, hp, r, fun H' HB' xs' ds' x r' => ?_⟩
    have st' := st.ext x
    exact ⟨_, st'.chg (o := .lst []) (G' := []) h hv hF True.intro (.own upd_same (r'.mono (Same.refl _) fun _ z => nomatch z)) (List.nodup_cons.mpr ⟨by simp, List.nodup_nil⟩) fun _ z => nomatch z⟩
theorem StF.seeT (st : StF K mg io S σ HB H Fr ft p0) (h : S[i]? = some (some (.dit .own kvs))) (hn : noOwnT kvs = true) : ∃ p xs, σ[i]? = some (some (.ref p)) ∧ H p = some (.dT xs) ∧ xs.map (·.1) = kvs.map (·.1) ∧ Rps K mg HB H (xs.map (·.2)) (kvs.map (·.2)) [] ∧
    ∀ H' HB' xs' kvs', Ext HB H HB' H' → xs'.map (·.1) = kvs'.map (·.1) → Rps K mg HB' H' (xs'.map (·.2)) (kvs'.map (·.2)) [] → ∃ ft', StF K mg io (S.set i (some (.dit .own kvs'))) σ HB' (upd H' p (.dT xs')) Fr ft' p0 := by
  obtain ⟨v, hv, r⟩ := st.val i _ h
  generalize hF : ft i = F at r
  cases r with
  | @ditO p xs _ G hp hk r =>
    have e := r.none (by rw [← noOwnT_eq]; exact hn)
    subst e
    refine ⟨p, xs, hv, hp, hk, r, fun H' HB' xs' ds' x hk' r' => ?_⟩
    have st' := st.ext x
    exact ⟨_, st'.chg (o := .lst []) (G' := []) h hv hF True.intro (.ditO upd_same hk' (r'.mono (Same.refl _) fun _ z => nomatch z)) (List.nodup_cons.mpr ⟨by simp, List.nodup_nil⟩) fun _ z => nomatch z⟩
theorem Rps.setN : ∀ {vs : List V} {ds : List D} {F : List Addr} {v : V} {d : D} (j : Nat), Rps K mg HB H vs ds F → F = [] → Rp K mg HB H v d [] → Rps K mg HB H (vs.set j v) (ds.set j d) []
  | _, _, _, _, _, _, .nil, _, _ => .nil
  | _, _, _, v, d, 0, .cons h r, hF, q => by
    obtain ⟨rfl, rfl⟩ := List.append_eq_nil_iff.mp hF
    exact Rps.cons q r
  | _, _, _, _, _, j + 1, .cons h r, hF, q => by
    obtain ⟨rfl, rfl⟩ := List.append_eq_nil_iff.mp hF
    exact Rps.cons h (r.setN j rfl q)
theorem Rps.dropLastN : ∀ {vs : List V} {ds : List D} {F : List Addr}, Rps K mg HB H vs ds F → F = [] → Rps K mg HB H vs.dropLast ds.dropLast []
  | _, _, _, .nil, _ => .nil
  | _, _, _, .cons h .nil, _ => .nil
  | _, _, _, .cons h (.cons h2 r2), hF => by
    obtain ⟨rfl, h3⟩ := List.append_eq_nil_iff.mp hF
    have ih := (Rps.cons h2 r2).dropLastN h3
    exact Rps.cons h ih
theorem Rps.one {v : V} {d : D} (q : Rp K mg HB H v d []) : Rps K mg HB H [v] [d] [] := Rps.cons q .nil
end
/-- the slot i's own list: what becomes of it, and the answer -/
def mMut (i : Nat) (f : List D → List D → Option (List D × D)) (am : AM) : EM := fun S => match S[i]? with
  | some (some (.lst .own _)) => bnd (am S) fun as S1 => (match S1[i]? with
    | some (some (.lst .own ds)) => if noOwns ds = true ∧ noOwns as = true then (match f ds as with
      | some (ds', z) => some (.ok z, S1.set i (some (.lst .own ds')))
      | none => none) else none
    | _ => none)
  | _ => none
/-- a method of lists, by values -/
def MutS (K : PySem.W.Frag) (mg : Str → Option Value) (r : V → List V → Hp → VK → Prop) (f : List D → List D → Option (List D × D)) : Prop :=
  ∀ (HB H : Hp) (p : Addr) (xs as : List V) (ds es ds' : List D) (z : D) (Q : VK), Same HB H → H p = some (.lst xs) → Rps K mg HB H xs ds [] → Rps K mg HB H as es [] → f ds es = some (ds', z) →
    (∀ v xs', Rp K mg HB H v z [] → Rps K mg HB H xs' ds' [] → Q v (upd H p (.lst xs'))) → r (.ref p) as H Q
section
variable {X : Cx} {W : WX} {io : Bool} {a b c e : Expr} {es : List Expr} {ma mb m : EM} {am : AM} {pos : Pos} {i j : Nat} {r : V → List V → Hp → VK → Prop} {f : List D → List D → Option (List D × D)}
theorem mut_run (hs : MutS X.K X.mg r f) {σ : L2.St} {H : Hp} {Q : VK} (h : TEd X.K X.mg W io (mMut i f am) σ H Q) : ∃ v, σ[i]? = some (some v) ∧ tyV X.K "list" v H ∧ TAd X.K X.mg W io am σ H fun xs H2 => r v xs H2 Q := by
  obtain ⟨S, HB, Fr, ft, p0, z, st, e1, post⟩ := h
  unfold mMut at e1
  split at e1
  case h_2 => cases e1
  rename_i ds0 h0
  obtain ⟨v, hv, r0⟩ := st.val i _ h0
  refine ⟨v, hv, ?_, ?_⟩
  · generalize hF : ft i = F at r0
    cases r0 with
    | own hp _ => exact .inl ⟨rfl, _, SqL.of hp⟩
  refine args_run (R := fun xs H2 => r v xs H2 Q) ⟨S, HB, Fr, ft, p0, z, st, e1, post⟩ fun S1 HB1 H1 Fr1 ft1 p1 as xs F z HB0 st1 s0 hd hk post => ?_
  split at hk
  case h_2 => cases hk
  rename_i ds h1
  split at hk
  case isFalse => cases hk
  rename_i hn
  split at hk
  case h_2 => cases hk
  rename_i ds' zd hf
  cases hk
  obtain ⟨p, ys, hp, hH, rp, chg⟩ := st1.seeL h1 hn.1
  rw [hv] at hp
  cases hp
  have ra := hd.rp
  rw [ra.none hn.2] at ra
  refine hs HB1 H1 p ys xs ds as ds' zd Q st1.bs hH rp ra hf fun v xs' rv rx => ?_
  obtain ⟨ft', st'⟩ := chg H1 HB1 xs' ds' (Ext.refl st1.bs) rx
  exact post v _ HB1 ft' [] s0 st' ⟨rv.mono (Same.refl _) (fun _ z => (nomatch z)), List.nodup_nil, fun _ z => nomatch z⟩
theorem pd_mut0 {name : Str} {apos : Pos} {id : String} (pa : PlainAttrs "list") (slot : Slot "list" name id) (hty : typeOf (.builtin id) = pure (.type "method_descriptor")) (hm : MtR X id r) (hs : MutS X.K X.mg r f) (ho : PE X e (tVar i))
    (hbase : attributeBase e name X.env (eval e X.env) = eval e X.env := by rfl) (hline : (apos.endLine == pos.line) = true := by rfl) : PEd X W io (.Call (.Attribute e name apos) [] [] pos) (mMut i f aNil) :=
  PE.imp (pe_bm0 pa slot hty hm ho hbase hline) fun σ H Q q => by
    obtain ⟨v, hv, ht, S, HB, Fr, ft, p0, z, st, e1, post⟩ := mut_run hs q
    cases e1
    exact ⟨v, hv, ht, post [] H HB ft [] (Same.refl _) st { rp := .nil, nd := List.nodup_nil, free := fun _ z => nomatch z }⟩
theorem pd_mut {name : Str} {apos : Pos} {id : String} (pa : PlainAttrs "list") (slot : Slot "list" name id) (hty : typeOf (.builtin id) = pure (.type "method_descriptor")) (hm : MtR X id r) (hs : MutS X.K X.mg r f) (ho : PE X e (tVar i)) (ha : PAd X W io (a :: es) am)
    (hbase : attributeBase e name X.env (eval e X.env) = eval e X.env := by rfl)
    (hfew : ((backTo pos (starEach (a :: es) X.env)).all (fun x => !x.1) && (backToKw pos (keywordEach [] X.env)).all (fun x => x.1.isSome)
      && decide ((a :: es).length + ([] : List Keyword).length + (if ([] : List Keyword).isEmpty then 0 else 1) < 30)) = true := by rfl)
    (hline : (apos.endLine == pos.line) = true := by rfl) (hst : starEach (a :: es) X.env = (false, eval a X.env) :: starEach es X.env := by rfl) (hpl : (backTo pos (starEach es X.env)).any (·.1) = false := by rfl) : PEd X W io (.Call (.Attribute e name apos) (a :: es) [] pos) (mMut i f am) :=
  PE.imp (pe_bm pa slot hty hm ho ha hbase hfew hline hst hpl) fun σ H Q q => mut_run hs q
def fApp : List D → List D → Option (List D × D)
  | ds, [d] => if ds.length < 1000000 then some (ds ++ [d], .non) else none
  | _, _ => none
theorem ms_app : MutS X.K X.mg rAppend fApp := fun HB H p xs as ds es ds' z Q s hp r ra h q => by
  unfold fApp at h
  split at h
  · split at h
    · rename_i hl
      cases h
      cases as with
      | nil => cases ra
      | cons y ys =>
        generalize hF : ([] : List Addr) = F at ra
        cases ra with
        | cons h1 h2 =>
          obtain ⟨rfl, rfl⟩ := List.append_eq_nil_iff.mp hF.symm
          cases h2
          exact ⟨p, xs, y, rfl, rfl, hp, by have := line_of (n := xs.length + 1) (by rw [r.length]; omega); omega, q .non _ .non (r.append (Rps.one h1))⟩
    · cases h
  · cases h
def fPop : List D → List D → Option (List D × D)
  | ds, [] => match ds[ds.length - 1]? with
    | some d => some (ds.dropLast, d)
    | none => none
  | _, _ => none
theorem ms_pop : MutS X.K X.mg rPop fPop := fun HB H p xs as ds es ds' z Q s hp r ra h q => by
  unfold fPop at h
  split at h
  · split at h
    · rename_i d hd
      cases h
      cases ra
      obtain ⟨v, h1, h2⟩ := r.atN rfl hd
      rw [← r.length] at h1
      exact ⟨p, xs, v, rfl, rfl, hp, h1, q v _ h2 (r.dropLastN rfl)⟩
    · cases h
  · cases h
theorem pd_app {apos : Pos} (ho : PE X e (tVar i)) (ha : PAd X W io [a] am) (hbase : attributeBase e "append" X.env (eval e X.env) = eval e X.env := by rfl)
    (hfew : ((backTo pos (starEach [a] X.env)).all (fun x => !x.1) && (backToKw pos (keywordEach [] X.env)).all (fun x => x.1.isSome)
      && decide (([a] : List Expr).length + ([] : List Keyword).length + (if ([] : List Keyword).isEmpty then 0 else 1) < 30)) = true := by rfl)
    (hline : (apos.endLine == pos.line) = true := by rfl) (hst : starEach [a] X.env = (false, eval a X.env) :: starEach [] X.env := by rfl) : PEd X W io (.Call (.Attribute e "append" apos) [a] [] pos) (mMut i fApp am) :=
  pd_mut PySem.F.plainAttrs_list PySem.F.slot_list_append PySem.F.type_list_append mt_append ms_app ho ha hbase hfew hline hst rfl
theorem pd_pop {apos : Pos} (ho : PE X e (tVar i)) (hbase : attributeBase e "pop" X.env (eval e X.env) = eval e X.env := by rfl) (hline : (apos.endLine == pos.line) = true := by rfl) : PEd X W io (.Call (.Attribute e "pop" apos) [] [] pos) (mMut i fPop aNil) :=
  pd_mut0 PySem.F.plainAttrs_list PySem.F.slot_list_pop PySem.F.type_list_pop mt_pop ms_pop ho hbase hline
end
end Fx

set_option maxHeartbeats 2000000
namespace Fx
open PySem PySem.Spec PyProof.Rows L2

/-! ### dicts -/
section
variable {κ : Type} [DecidableEq κ]
def valD (kvs : List (κ × D)) (k : κ) : Option D := (kvs.find? fun kv => decide (kv.1 = k)).map (·.2)
def putD (kvs : List (κ × D)) (k : κ) (d : D) : List (κ × D) := if (kvs.any fun kv => decide (kv.1 = k)) = true then kvs.map (fun kv => if kv.1 = k then (kv.1, d) else kv) else kvs ++ [(k, d)]
variable {K : PySem.W.Frag} {mg : Str → Option Value} {HB H : Hp}
theorem val_rp : ∀ {xs : List (κ × V)} {kvs : List (κ × D)} {F : List Addr} (k : κ), xs.map (·.1) = kvs.map (·.1) → Rps K mg HB H (xs.map (·.2)) (kvs.map (·.2)) F → F = [] →
    match valD kvs k with
    | some d => ∃ v, L2.valV xs k = some v ∧ Rp K mg HB H v d []
    | none => L2.valV xs k = none
  | [], [], _, k, _, _, _ => by simp [valD, L2.valV]
  | [], _ :: _, _, _, h, _, _ => by simp at h
  | _ :: _, [], _, _, h, _, _ => by simp at h
  | (a, v) :: xs, (b, d) :: kvs, F, k, h, r, hF => by
    simp only [List.map_cons, List.cons.injEq] at h
    obtain ⟨rfl, h⟩ := h
    simp only [List.map_cons] at r
    cases r with
    | cons h1 h2 =>
      obtain ⟨rfl, rfl⟩ := List.append_eq_nil_iff.mp hF
      by_cases e : a = k
      · simp only [valD, List.find?_cons, e, decide_true, Option.map_some]
        exact ⟨v, by simp [L2.valV, List.find?_cons, e], h1⟩
      · have ih := val_rp k h h2 rfl
        have e1 : valD ((a, d) :: kvs) k = valD kvs k := by simp [valD, List.find?_cons, e]
        have e2 : L2.valV ((a, v) :: xs) k = L2.valV xs k := by simp [L2.valV, List.find?_cons, e]
        rw [e1, e2]
        exact ih
theorem any_keys {α β : Type} : ∀ {xs : List (κ × α)} {ys : List (κ × β)} (k : κ), xs.map (·.1) = ys.map (·.1) → (xs.any fun kv => decide (kv.1 = k)) = (ys.any fun kv => decide (kv.1 = k))
  | [], [], _, _ => rfl
  | [], _ :: _, _, h => by simp at h
  | _ :: _, [], _, h => by simp at h
  | (a, v) :: xs, (b, d) :: ys, k, h => by
    simp only [List.map_cons, List.cons.injEq] at h
    obtain ⟨rfl, h⟩ := h
    simp only [List.any_cons, any_keys k h]
theorem map_put {xs : List (κ × V)} {kvs : List (κ × D)} {v : V} {d : D} {k : κ} : xs.map (·.1) = kvs.map (·.1) →
    (xs.map fun kv => if kv.1 = k then (kv.1, v) else kv).map (·.1) = (kvs.map fun kv => if kv.1 = k then (kv.1, d) else kv).map (·.1) := fun h => by
  have e1 : (xs.map fun kv => if kv.1 = k then (kv.1, v) else kv).map (·.1) = xs.map (·.1) := by
    rw [List.map_map]
    apply List.map_congr_left
    intro a _
    show (if a.1 = k then (a.1, v) else a).1 = a.1
    split <;> rfl
  have e2 : (kvs.map fun kv => if kv.1 = k then (kv.1, d) else kv).map (·.1) = kvs.map (·.1) := by
    rw [List.map_map]
    apply List.map_congr_left
    intro a _
    show (if a.1 = k then (a.1, d) else a).1 = a.1
    split <;> rfl
  rw [e1, e2, h]
theorem rps_put : ∀ {xs : List (κ × V)} {kvs : List (κ × D)} {F : List Addr} {v : V} {d : D} (k : κ), xs.map (·.1) = kvs.map (·.1) → Rps K mg HB H (xs.map (·.2)) (kvs.map (·.2)) F → F = [] → Rp K mg HB H v d [] →
    Rps K mg HB H ((xs.map fun kv => if kv.1 = k then (kv.1, v) else kv).map (·.2)) ((kvs.map fun kv => if kv.1 = k then (kv.1, d) else kv).map (·.2)) []
  | [], [], _, _, _, k, _, _, _, _ => .nil
  | [], _ :: _, _, _, _, _, h, _, _, _ => by simp at h
  | _ :: _, [], _, _, _, _, h, _, _, _ => by simp at h
  | (a, v0) :: xs, (b, d0) :: kvs, F, v, d, k, h, r, hF, q => by
    simp only [List.map_cons, List.cons.injEq] at h
    obtain ⟨rfl, h⟩ := h
    simp only [List.map_cons] at r
    cases r with
    | cons h1 h2 =>
      obtain ⟨rfl, rfl⟩ := List.append_eq_nil_iff.mp hF
      have ih := rps_put k h h2 rfl q
      simp only [List.map_cons]
      by_cases e : a = k
      · simp only [e, if_true]
        exact Rps.cons q ih
      · simp only [e, if_false]
        exact Rps.cons h1 ih
theorem put_rp {xs : List (κ × V)} {kvs : List (κ × D)} {v : V} {d : D} (k : κ) (h : xs.map (·.1) = kvs.map (·.1)) (r : Rps K mg HB H (xs.map (·.2)) (kvs.map (·.2)) []) (q : Rp K mg HB H v d []) :
    (L2.putK xs k v).map (·.1) = (putD kvs k d).map (·.1) ∧ Rps K mg HB H ((L2.putK xs k v).map (·.2)) ((putD kvs k d).map (·.2)) [] := by
  unfold L2.putK putD
  rw [any_keys k h]
  split
  · exact ⟨map_put h, rps_put k h r rfl q⟩
  · refine ⟨?_, ?_⟩
    · rw [List.map_append, List.map_append, h]; rfl
    · rw [List.map_append, List.map_append]
      exact r.append (Rps.one q)
end
def keyD : D → Option Key
  | .int i => some (.inl i)
  | .str s => some (.inr s)
  | _ => none
def keysD : List D → Option (List Key)
  | [] => some []
  | d :: ds => match keyD d, keysD ds with
    | some k, some ks => some (k :: ks)
    | _, _ => none
section
variable {K : PySem.W.Frag} {mg : Str → Option Value} {HB H : Hp}
theorem key_rp {v : V} {d : D} {F : List Addr} {k : Key} (r : Rp K mg HB H v d F) (h : keyD d = some k) : v = kV k := by
  unfold keyD at h
  split at h
  · cases h; cases r; rfl
  · cases h; cases r; rfl
  · cases h
theorem keys_rp : ∀ {vs : List V} {ds : List D} {F : List Addr} {ks : List Key}, Rps K mg HB H vs ds F → keysD ds = some ks → vs = ks.map kV
  | _, _, _, _, .nil, h => by cases h; rfl
  | _, _, _, _, .cons h r, e => by
    unfold keysD at e
    split at e
    · rename_i k ks h1 h2
      cases e
      rw [key_rp h h1, keys_rp r h2]
      rfl
    · cases e
/-- a dict's place -/
theorem Rp.ditAt {v : V} {o : Ow} {kvs : List (List Key × D)} {F : List Addr} (s : Same HB H) (r : Rp K mg HB H v (.dit o kvs) F) : ∃ a xs G, v = .ref a ∧ H a = some (.dT xs) ∧ xs.map (·.1) = kvs.map (·.1) ∧ Rps K mg HB H (xs.map (·.2)) (kvs.map (·.2)) G := by
  cases r with
  | dit h q r => exact ⟨_, _, _, rfl, s _ _ h, q, r⟩
  | ditO h q r => exact ⟨_, _, _, rfl, h, q, r⟩
theorem Rp.dicAt {v : V} {o : Ow} {kvs : List (Key × D)} {F : List Addr} (s : Same HB H) (r : Rp K mg HB H v (.dic o kvs) F) : ∃ a xs G, v = .ref a ∧ H a = some (.dK xs) ∧ xs.map (·.1) = kvs.map (·.1) ∧ Rps K mg HB H (xs.map (·.2)) (kvs.map (·.2)) G := by
  cases r with
  | dic h q r => exact ⟨_, _, _, rfl, s _ _ h, q, r⟩
  | dicO h q r => exact ⟨_, _, _, rfl, h, q, r⟩
end
def tkey : D → Option (List Key)
  | .tup false ds => keysD ds
  | _ => none
theorem tkey_rp {K : PySem.W.Frag} {mg : Str → Option Value} {HB H : Hp} {u : V} {e : D} {G : List Addr} {ks : List Key} (r : Rp K mg HB H u e G) (h : tkey e = some ks) : ∃ b, u = .ref b ∧ HB b = some (.tup (ks.map kV)) := by
  unfold tkey at h
  split at h
  · rename_i ds
    generalize hT : D.tup false ds = t at r
    cases r <;> cases hT
    rename_i hsq hq hr
    rcases hq with hq | hq
    · cases hq
    have e2 := keys_rp hr h
    subst e2
    exact ⟨_, rfl, hq⟩
  · cases h
/-- what a dict holds at a key -/
def getD' : D → D → Option (Option D)
  | .dit _ kvs => fun e => if noOwnT kvs = true then (tkey e).map fun k => valD kvs k else none
  | .dic _ kvs => fun e => if noOwnK kvs = true then (keyD e).map fun k => valD kvs k else none
  | _ => fun _ => none
theorem getD_rp {K : PySem.W.Frag} {mg : Str → Option Value} {HB H : Hp} {v u : V} {d e : D} {F G : List Addr} {o : Option D} (s : Same HB H) (rd : Rp K mg HB H v d F) (re : Rp K mg HB H u e G) (h : getD' d e = some o) :
    ∃ a, v = .ref a ∧ match o with
      | some z => ∃ w, DGet H a u (some w) ∧ Rp K mg HB H w z []
      | none => DGet H a u none := by
  cases d with
  | dit o' kvs =>
    simp only [getD'] at h
    split at h
    · rename_i hn
      obtain ⟨ks, h1, h0⟩ := Option.map_eq_some_iff.mp h
      obtain ⟨a, xs, G1, rfl, h2, h3, h4⟩ := rd.ditAt s
      have eG := h4.none (by rw [← noOwnT_eq]; exact hn)
      have hv := val_rp ks h3 h4 eG
      obtain ⟨b, rfl, hq⟩ := tkey_rp re h1
      refine ⟨a, rfl, ?_⟩
      rw [h0] at hv
      cases o with
      | some z =>
        obtain ⟨w, h5, h6⟩ := hv
        exact ⟨w, by rw [← h5]; exact DGet.t h2 (s _ _ hq), h6⟩
      | none =>
        have hv : L2.valV xs ks = none := hv
        show DGet H a (.ref b) none
        rw [← hv]
        exact DGet.t h2 (s _ _ hq)
    · cases h
  | dic o' kvs =>
    simp only [getD'] at h
    split at h
    · rename_i hn
      obtain ⟨k, h1, h0⟩ := Option.map_eq_some_iff.mp h
      obtain ⟨a, xs, G1, rfl, h2, h3, h4⟩ := rd.dicAt s
      have eG := h4.none (by rw [← noOwnK_eq]; exact hn)
      have hv := val_rp k h3 h4 eG
      have e2 := key_rp re h1
      subst e2
      refine ⟨a, rfl, ?_⟩
      rw [h0] at hv
      cases o with
      | some z =>
        obtain ⟨w, h5, h6⟩ := hv
        exact ⟨w, by rw [← h5]; exact DGet.k h2, h6⟩
      | none =>
        have hv : L2.valV xs k = none := hv
        show DGet H a (kV k) none
        rw [← hv]
        exact DGet.k h2
    · cases h
  | _ => simp [getD'] at h
section
variable {X : Cx} {W : WX} {io : Bool} {a b c e : Expr} {es : List Expr} {ma mb m mi : EM} {am : AM} {pos : Pos} {i j : Nat}
def rIxDc : R2 := fun x y H Q => ∃ a v, x = .ref a ∧ DGet H a y (some v) ∧ Q v H
theorem ix_dc (hu : X.A.units + 1 < cLine) : IxR X rIxDc := by
  intro value slice pins s σ H x y v u Q I rx ry h hs
  obtain ⟨a, w, rfl, g, q⟩ := h
  cases rx
  exact tail_any (dict_typeIs I g) PySem.F.slot_dict_getitem.lookup (d_getItem hu I g ry fun w' s' I' r => ⟨w, H, I', r, q⟩) hs
def gDx : D → D → Option D := fun d e => match getD' d e with
  | some (some z) => some z
  | _ => none
theorem ix_dicD (hu : X.A.units + 1 < cLine) : IxD X gDx := by
  refine ⟨_, ix_dc hu, fun HB H x y d e z F G Q s rx ry hz hq => ?_⟩
  unfold gDx at hz
  split at hz
  · rename_i z' hg
    cases hz
    obtain ⟨a, rfl, w, h1, h2⟩ := getD_rp s rx ry hg
    exact ⟨a, w, rfl, h1, hq w HB H [] (Ext.refl s) h2 List.nodup_nil fun _ z => nomatch z⟩
  · cases hz
def gDIn : D → D → Option D := fun e d => (getD' d e).map fun o => .bl o.isSome
def gDNi : D → D → Option D := fun e d => (getD' d e).map fun o => .bl (!o.isSome)
theorem getD_o {K : PySem.W.Frag} {mg : Str → Option Value} {HB H : Hp} {v u : V} {d e : D} {F G : List Addr} {o : Option D} (s : Same HB H) (rd : Rp K mg HB H v d F) (re : Rp K mg HB H u e G) (h : getD' d e = some o) :
    ∃ a w, v = .ref a ∧ DGet H a u w ∧ w.isSome = o.isSome := by
  obtain ⟨a, h1, h2⟩ := getD_rp s rd re h
  cases o with
  | some z =>
    obtain ⟨w, h3, _⟩ := h2
    exact ⟨a, _, h1, h3, rfl⟩
  | none => exact ⟨a, _, h1, h2, rfl⟩
theorem od_dIn (hu : X.A.units + 1 < cLine) : OpD X (compareOp .In) gDIn := by
  refine OpD.flat (r := fun x y H Q => ∃ a o, y = .ref a ∧ DGet H a x o ∧ Q (.bl o.isSome) H) ?_ fun HB H x y d e z F G Q s rx ry hz => ?_
  · intro pins s σ H x y v u Q I rx ry h
    obtain ⟨a, o, rfl, g, q⟩ := h
    cases ry
    exact d_in hu I g rx fun s' I' => ⟨.bl o.isSome, H, I', rfl, q⟩
  · obtain ⟨o, h1, rfl⟩ := Option.map_eq_some_iff.mp hz
    obtain ⟨a, w, rfl, h2, h3⟩ := getD_o s ry rx h1
    exact ⟨rfl, fun q => ⟨a, w, rfl, h2, by rw [h3]; exact q⟩⟩
theorem od_dNi (hu : X.A.units + 1 < cLine) : OpD X (compareOp .NotIn) gDNi := by
  refine OpD.flat (r := fun x y H Q => ∃ a o, y = .ref a ∧ DGet H a x o ∧ Q (.bl (!o.isSome)) H) ?_ fun HB H x y d e z F G Q s rx ry hz => ?_
  · intro pins s σ H x y v u Q I rx ry h
    obtain ⟨a, o, rfl, g, q⟩ := h
    cases ry
    exact d_notIn hu I g rx fun s' I' => ⟨.bl (!o.isSome), H, I', rfl, q⟩
  · obtain ⟨o, h1, rfl⟩ := Option.map_eq_some_iff.mp hz
    obtain ⟨a, w, rfl, h2, h3⟩ := getD_o s ry rx h1
    exact ⟨rfl, fun q => ⟨a, w, rfl, h2, by rw [h3]; exact q⟩⟩
/-- {} -/
def mDT : EM := mC (.dit .own [])
theorem pd_dnewT : PEd X W io (.Dict [] [] pos) (mC (.dit .own [])) := PE.imp pe_dnewT fun σ H Q ⟨S, HB, Fr, ft, p0, z, st, e1, post⟩ p np => by
  cases e1
  have e := Ext.lay (o := .dT []) st.bs np
  refine post _ _ HB ft [p] (Same.refl _) (st.ext e) ⟨.ditO upd_same rfl .nil, by simp, fun a ha => ?_⟩
  have : a = p := by simpa using ha
  subst this
  exact ⟨st.bs.free np, st.fr.free np, fun i hi => by
    obtain ⟨o, q, _⟩ := st.own hi
    rw [np] at q; cases q⟩

/-! ### x[i] = v, x a name -/
def gSubL (k : Nat) (mi : EM) : GM := fun d S => match S[k]? with
  | some (some _) => (match mi S with
    | some (.ok (.int n), S1) => (match S1[k]? with
      | some (some (.lst .own ds)) => if noOwns ds = true ∧ noOwn d = true then (match ixN ds.length n with
        | some j => some (S1.set k (some (.lst .own (ds.set j d))))
        | none => none) else none
      | _ => none)
    | _ => none)
  | _ => none
theorem pg_subLD {k : Nat} (ho : PE X a (tVar k)) (hi : PEd X W io b mi) (ha : ∀ v, assign (.Subscript a b pos) X.env v = (do
      let ov ← holding [v] (eval a X.env)
      let iv ← holding [v, ov] (eval b X.env)
      standAt pos
      holding [v, ov, iv] (setItem ov iv v)
      release [v, ov, iv] []) := by intro _; rfl) : PGd X io [] (.Subscript a b pos) (gSubL k mi) := PG.imp (pg_sub ho hi set_list ha) fun v σ H Q ⟨S, HB, Fr, ft, p0, d, F, S', st, hd, hk, post⟩ => by
  unfold gSubL at hk
  split at hk
  case h_2 => cases hk
  rename_i d0 h0
  obtain ⟨o, ho, _⟩ := st.val k d0 h0
  split at hk
  case h_2 => cases hk
  rename_i n S1 h1
  split at hk
  case h_2 => cases hk
  rename_i ds h2
  split at hk
  case isFalse => cases hk
  rename_i hn
  split at hk
  case h_2 => cases hk
  rename_i j hj
  cases hk
  refine ⟨o, ho, S, HB, Fr, ft, p0, _, st, h1, fun y H1 HB1 ft1 F1 s1 st1 hy => ?_⟩
  obtain ⟨p, xs, hp, hH, r, chg⟩ := st1.seeL h2 hn.1
  rw [ho] at hp
  cases hp
  cases hy.rp
  have rv := hd.rp
  rw [rv.none hn.2] at rv
  refine ⟨p, xs, n, j, rfl, rfl, hH, by rw [r.length]; exact hj, ?_⟩
  obtain ⟨ft', st'⟩ := chg H1 HB1 _ _ (Ext.refl st1.bs) (r.setN j rfl (rv.mono s1 fun _ z => nomatch z))
  exact post σ _ HB1 ft' s1 st' rfl fun _ _ => rfl
def gSubT (k : Nat) (mi : EM) : GM := fun d S => match S[k]? with
  | some (some _) => (match mi S with
    | some (.ok e, S1) => (match S1[k]? with
      | some (some (.dit .own kvs)) => if noOwnT kvs = true ∧ noOwn d = true ∧ kvs.length < 1000000 then (match tkey e with
        | some ks => some (S1.set k (some (.dit .own (putD kvs ks d))))
        | none => none) else none
      | _ => none)
    | _ => none)
  | _ => none
theorem pg_subTD {k : Nat} (hu : X.A.units + 1 < cLine) (ho : PE X a (tVar k)) (hi : PEd X W io b mi) (ha : ∀ v, assign (.Subscript a b pos) X.env v = (do
      let ov ← holding [v] (eval a X.env)
      let iv ← holding [v, ov] (eval b X.env)
      standAt pos
      holding [v, ov, iv] (setItem ov iv v)
      release [v, ov, iv] []) := by intro _; rfl) : PGd X io [] (.Subscript a b pos) (gSubT k mi) := PG.imp (pg_sub ho hi (set_dict hu) ha) fun v σ H Q ⟨S, HB, Fr, ft, p0, d, F, S', st, hd, hk, post⟩ => by
  unfold gSubT at hk
  split at hk
  case h_2 => cases hk
  rename_i d0 h0
  obtain ⟨o, ho, _⟩ := st.val k d0 h0
  split at hk
  case h_2 => cases hk
  rename_i es S1 h1
  split at hk
  case h_2 => cases hk
  rename_i kvs h2
  split at hk
  case isFalse => cases hk
  rename_i hn
  split at hk
  case h_2 => cases hk
  rename_i ks hks
  cases hk
  refine ⟨o, ho, S, HB, Fr, ft, p0, _, st, h1, fun y H1 HB1 ft1 F1 s1 st1 hy => ?_⟩
  obtain ⟨p, xs, hp, hH, hkeys, r, chg⟩ := st1.seeT h2 hn.1
  rw [ho] at hp
  cases hp
  obtain ⟨b, rfl, q⟩ := tkey_rp hy.rp hks
  have rv := hd.rp
  rw [rv.none hn.2.1] at rv
  obtain ⟨k1, r1⟩ := put_rp ks hkeys r (rv.mono s1 fun _ z => nomatch z)
  have hl : xs.length = kvs.length := by simpa using congrArg List.length hkeys
  refine ⟨p, _, rfl, DPut.t hH (st1.bs _ _ q) (by have := line_of (n := xs.length + 1) (by omega); omega), ?_⟩
  obtain ⟨ft', st'⟩ := chg H1 HB1 _ _ (Ext.refl st1.bs) k1 r1
  exact post σ _ HB1 ft' s1 st' rfl fun _ _ => rfl
end
end Fx

set_option maxHeartbeats 2000000
namespace Fx
open PySem PySem.Spec PyProof.Rows L2
section
variable {X : Cx} {W : WX} {io : Bool} {a b c e : Expr} {es : List Expr} {ma mb m mi : EM} {am : AM} {pos : Pos} {i j : Nat}
/-- a flat answer of a built-in -/
theorem CallD.flat {f : Value} {r : List V → Hp → VK → Prop} {g : List D → Option D} (h : CallR X f r)
    (k : ∀ HB H xs ds z F (Q : VK), Same HB H → Rps X.K X.mg HB H xs ds F → g ds = some z → Fx.flat z = true ∧ (Q (toV z) H → r xs H Q)) : CallD X f g := by
  refine ⟨_, h, fun HB H xs ds z F Q s rx hz hq => ?_⟩
  obtain ⟨h1, h2⟩ := k HB H xs ds z F Q s rx hz
  exact h2 (hq _ HB H [] (Ext.refl s) (flat_rp h1) List.nodup_nil fun _ z => nomatch z)
theorem rps1 {K : PySem.W.Frag} {mg : Str → Option Value} {HB H : Hp} {xs : List V} {d : D} {F : List Addr} (r : Rps K mg HB H xs [d] F) : ∃ v, xs = [v] ∧ Rp K mg HB H v d F := by
  cases r with
  | cons h1 h2 => cases h2; rw [List.append_nil]; exact ⟨_, rfl, h1⟩
theorem rps2 {K : PySem.W.Frag} {mg : Str → Option Value} {HB H : Hp} {xs : List V} {d e : D} {F : List Addr} (r : Rps K mg HB H xs [d, e] F) : ∃ v u F1 F2, xs = [v, u] ∧ Rp K mg HB H v d F1 ∧ Rp K mg HB H u e F2 := by
  cases r with
  | cons h1 h2 =>
    cases h2 with
    | cons h3 h4 => cases h4; exact ⟨_, _, _, _, rfl, h1, h3⟩

/-! ### len -/
def gLen : List D → Option D
  | [.str s] => if s.length ≤ 1000000 then some (.int s.length) else none
  | [.lst _ ds] => some (.int ds.length)
  | [.tup _ ds] => some (.int ds.length)
  | [.dit _ kvs] => some (.int kvs.length)
  | _ => none
theorem cd_len : CallD X (.builtin "len") gLen := by
  refine CallD.flat (r := fun xs H Q => (∃ x n, xs = [x] ∧ LenV X.K x H n ∧ Q (.int n) H) ∨ rLenT xs H Q) ?_ fun HB H xs ds z F Q s rx hz => ?_
  · intro pins s σ H xs us Q I r h
    rcases h with h | h
    · exact call_len pins s σ H xs us Q I r h
    · exact call_len_dT pins s σ H xs us Q I r h
  · unfold gLen at hz
    split at hz
    · split at hz
      · rename_i hl
        cases hz
        obtain ⟨v, rfl, rv⟩ := rps1 rx
        cases rv
        exact ⟨rfl, fun q => .inl ⟨_, _, rfl, ⟨line_of hl, rfl⟩, q⟩⟩
      · cases hz
    · cases hz
      obtain ⟨v, rfl, rv⟩ := rps1 rx
      obtain ⟨p, xs, G, rfl, h1, h2⟩ := rv.lstS s
      exact ⟨rfl, fun q => .inl ⟨_, _, rfl, .inl ⟨xs, h1, rfl⟩, by rw [h2.length]; exact q⟩⟩
    · cases hz
      obtain ⟨v, rfl, rv⟩ := rps1 rx
      obtain ⟨p, xs, rfl, h1, h2⟩ := rv.tupS s
      exact ⟨rfl, fun q => .inl ⟨_, _, rfl, .inr ⟨xs, h1, rfl⟩, by rw [h2.length]; exact q⟩⟩
    · rename_i kvs
      cases hz
      obtain ⟨v, rfl, rv⟩ := rps1 rx
      obtain ⟨p, xs, G, rfl, h1, h2, _⟩ := rv.ditAt s
      have hl : xs.length = kvs.length := by simpa using congrArg List.length h2
      exact ⟨rfl, fun q => .inr ⟨p, xs, rfl, h1, by rw [hl]; exact q⟩⟩
    · cases hz

/-! ### int, abs -/
def gInt : List D → Option D
  | [.int i] => some (.int i)
  | [.bl b] => some (.int (if b = true then 1 else 0))
  | _ => none
theorem cd_int : CallD X (.type "int") gInt := CallD.flat call_int1 fun HB H xs ds z F Q s rx hz => by
  unfold gInt at hz
  split at hz
  · cases hz
    obtain ⟨v, rfl, rv⟩ := rps1 rx
    cases rv
    exact ⟨rfl, fun q => .inl ⟨_, rfl, q⟩⟩
  · cases hz
    obtain ⟨v, rfl, rv⟩ := rps1 rx
    cases rv
    exact ⟨rfl, fun q => .inr ⟨_, rfl, q⟩⟩
  · cases hz
def gAbs : List D → Option D
  | [.int i] => some (.int (if i < 0 then -i else i))
  | _ => none
theorem cd_abs : CallD X (.builtin "abs") gAbs := CallD.flat call_abs fun HB H xs ds z F Q s rx hz => by
  unfold gAbs at hz
  split at hz
  · cases hz
    obtain ⟨v, rfl, rv⟩ := rps1 rx
    cases rv
    exact ⟨rfl, fun q => ⟨_, rfl, q⟩⟩
  · cases hz
/-! ### sum, all -/
def gSum : List D → Option D
  | [.lst _ ds] => (intsOf ds).map fun ns => .int ns.sum
  | _ => none
theorem cd_sum (hc : X.calm = true) (h : CallR X (.builtin "sum") (rSum X.K)) : CallD X (.builtin "sum") gSum := CallD.flat h fun HB H xs ds z F Q s rx hz => by
  unfold gSum at hz
  split at hz
  · obtain ⟨ns, h1, rfl⟩ := Option.map_eq_some_iff.mp hz
    obtain ⟨v, rfl, rv⟩ := rps1 rx
    obtain ⟨p, xs, G, rfl, h2, h3⟩ := rv.lstS s
    rw [h3.ints h1] at h2
    exact ⟨rfl, fun q => ⟨p, ns, rfl, h2, q⟩⟩
  · cases hz
def blsOf : List D → Option (List Bool)
  | [] => some []
  | .bl b :: ds => (blsOf ds).map (b :: ·)
  | _ => none
theorem Rps.bls {K : PySem.W.Frag} {mg : Str → Option Value} {HB H : Hp} : ∀ {vs : List V} {ds : List D} {F : List Addr} {ns : List Bool}, Rps K mg HB H vs ds F → blsOf ds = some ns → vs = ns.map V.bl
  | _, _, _, _, .nil, h => by cases h; rfl
  | _, _, _, _, .cons h r, k => by
    cases h <;> simp only [blsOf, Option.map_eq_some_iff] at k <;> try cases k
    rename_i ns' hk
    obtain ⟨h1, rfl⟩ := hk
    rw [List.map_cons, Rps.bls r h1]
def gAll : List D → Option D
  | [.lst _ ds] => (blsOf ds).map fun ns => .bl (ns.all id)
  | _ => none
theorem cd_all (h : CallR X (.builtin "all") (rAll X.K)) : CallD X (.builtin "all") gAll := CallD.flat h fun HB H xs ds z F Q s rx hz => by
  unfold gAll at hz
  split at hz
  · obtain ⟨ns, h1, rfl⟩ := Option.map_eq_some_iff.mp hz
    obtain ⟨v, rfl, rv⟩ := rps1 rx
    obtain ⟨p, xs, G, rfl, h2, h3⟩ := rv.lstS s
    rw [h3.bls h1] at h2
    exact ⟨rfl, fun q => ⟨p, ns, rfl, h2, q⟩⟩
  · cases hz
def gAny : List D → Option D
  | [.lst _ ds] => (blsOf ds).map fun ns => .bl (ns.any id)
  | _ => none
theorem cd_any (h : CallR X (.builtin "any") (rAny X.K)) : CallD X (.builtin "any") gAny := CallD.flat h fun HB H xs ds z F Q s rx hz => by
  unfold gAny at hz
  split at hz
  · obtain ⟨ns, h1, rfl⟩ := Option.map_eq_some_iff.mp hz
    obtain ⟨v, rfl, rv⟩ := rps1 rx
    obtain ⟨p, xs, G, rfl, h2, h3⟩ := rv.lstS s
    rw [h3.bls h1] at h2
    exact ⟨rfl, fun q => ⟨p, ns, rfl, h2, q⟩⟩
  · cases hz

/-! ### isinstance -/
def tyN : D → Option String
  | .non => some "NoneType"
  | .bl _ => some "bool"
  | .int _ => some "int"
  | .str _ => some "str"
  | .lst _ _ => some "list"
  | .tup _ _ => some "tuple"
  | .dic _ _ => some "dict"
  | .dit _ _ => some "dict"
  | _ => none
def tysN : List String := ["NoneType", "bool", "int", "str", "list", "tuple", "dict"]
def isiB (t c : String) : Bool := t == c || (t == "bool" && c == "int")
theorem kit_all (K : PySem.W.Frag) : ∀ t ∈ tysN, ∀ c ∈ tysN, PySem.W.kitOne K (.type t) (.type c) = some (isiB t c) := by
  intro t ht c hc
  simp only [tysN, List.mem_cons, List.not_mem_nil, or_false] at ht hc
  rcases ht with rfl | rfl | rfl | rfl | rfl | rfl | rfl <;> rcases hc with rfl | rfl | rfl | rfl | rfl | rfl | rfl <;> rfl
theorem ty_rp {K : PySem.W.Frag} {mg : Str → Option Value} {HB H : Hp} {v : V} {d : D} {F : List Addr} {t : String} (s : Same HB H) (r : Rp K mg HB H v d F) (h : tyN d = some t) : TyX K H v (.type t) ∧ t ∈ tysN := by
  cases d with
  | non => cases h; cases r; exact ⟨.base .non, by decide⟩
  | bl b => cases h; cases r; exact ⟨.base (.bl _), by decide⟩
  | int b => cases h; cases r; exact ⟨.base (.int _), by decide⟩
  | str b => cases h; cases r; exact ⟨.base (.str _), by decide⟩
  | lst o ds =>
    cases h
    refine ⟨?_, by decide⟩
    obtain ⟨a, xs, G, rfl, h1, _⟩ := r.lstS s
    rcases h1 with (h1 | ⟨o, h1⟩) | ⟨o, its, n, h1, h2, _⟩
    · exact .base (.lst h1)
    · exact .base (.frz h1)
    · exact .kList h1 h2
  | tup o ds =>
    cases h
    refine ⟨?_, by decide⟩
    obtain ⟨a, xs, rfl, h1, _⟩ := r.tupS s
    rcases h1 with (h1 | ⟨o, h1⟩) | ⟨o, its, n, h1, h2, _⟩
    · exact .base (.tup h1)
    · exact .fTuple h1
    · exact .kTuple h1 h2
  | dic o ds =>
    cases h
    refine ⟨?_, by decide⟩
    obtain ⟨a, xs, G, rfl, h1, _⟩ := r.dicAt s
    exact .base (.dK h1)
  | dit o ds =>
    cases h
    refine ⟨?_, by decide⟩
    obtain ⟨a, xs, G, rfl, h1, _⟩ := r.ditAt s
    exact .base (.dT h1)
  | _ => cases h
def tyNs : List D → Option (List String)
  | [] => some []
  | .ty n :: ds => if n ∈ tysN then (tyNs ds).map (n :: ·) else none
  | _ => none
def gIsi : List D → Option D
  | [d, .ty c] => if c ∈ tysN then (tyN d).map fun t => .bl (isiB t c) else none
  | [d, .tup false cs] => match tyN d, tyNs cs with
    | some t, some ns => some (.bl (ns.any fun c => isiB t c))
    | _, _ => none
  | _ => none
theorem tys_rp {K : PySem.W.Frag} {mg : Str → Option Value} {HB H : Hp} : ∀ {vs : List V} {ds : List D} {F : List Addr} {ns : List String}, Rps K mg HB H vs ds F → tyNs ds = some ns → Paired ClsV vs (ns.map Value.type) ∧ ∀ n ∈ ns, n ∈ tysN
  | _, _, _, _, .nil, h => by cases h; exact ⟨.nil, fun _ z => nomatch z⟩
  | _, _, _, _, .cons h r, k => by
    cases h <;> simp only [tyNs] at k <;> try cases k
    split at k
    · rename_i hn
      obtain ⟨ns, h1, rfl⟩ := Option.map_eq_some_iff.mp k
      obtain ⟨p1, p2⟩ := tys_rp r h1
      refine ⟨.cons (.ty _) p1, fun m hm => ?_⟩
      rcases List.mem_cons.mp hm with rfl | hm
      · exact hn
      · exact p2 m hm
    · cases k
theorem kit_any (K : PySem.W.Frag) {t : String} (ht : t ∈ tysN) : ∀ ns : List String, (∀ n ∈ ns, n ∈ tysN) → PySem.W.kitAny K (.type t) (ns.map Value.type) = some (ns.any fun c => isiB t c)
  | [], _ => rfl
  | n :: ns, h => by
    have ih := kit_any K ht ns fun m hm => h m (List.mem_cons_of_mem _ hm)
    have h1 := kit_all K t ht n (h n List.mem_cons_self)
    rw [List.map_cons, List.any_cons]
    show PySem.W.kitAny K (.type t) (Value.type n :: ns.map Value.type) = _
    unfold PySem.W.kitAny
    rw [h1]
    cases isiB t n with
    | true => rfl
    | false => simpa using ih
theorem cd_isi : CallD X (.builtin "isinstance") gIsi := by
  refine CallD.flat (r := fun xs H Q => rIsi X.K xs H Q ∨ rIsiT X.K xs H Q) ?_ fun HB H xs ds z F Q s rx hz => ?_
  · intro pins s σ H xs us Q I r h
    rcases h with h | h
    · exact call_isi pins s σ H xs us Q I r h
    · exact call_isiT pins s σ H xs us Q I r h
  · unfold gIsi at hz
    split at hz
    · split at hz
      · rename_i hc
        obtain ⟨t, h1, rfl⟩ := Option.map_eq_some_iff.mp hz
        obtain ⟨v, u, F1, F2, rfl, rv, ru⟩ := rps2 rx
        obtain ⟨h2, h3⟩ := ty_rp s rv h1
        cases ru
        exact ⟨rfl, fun q => .inl ⟨v, _, _, _, _, rfl, .ty _, h2, kit_all X.K t h3 _ hc, q⟩⟩
      · cases hz
    · rename_i d cs
      split at hz
      · rename_i t ns h1 h2
        cases hz
        obtain ⟨v, u, F1, F2, rfl, rv, ru⟩ := rps2 rx
        obtain ⟨h3, h4⟩ := ty_rp s rv h1
        generalize hT : D.tup false cs = w at ru
        cases ru <;> cases hT
        rename_i hsq hq hr
        rcases hq with hq | hq
        · cases hq
        obtain ⟨p1, p2⟩ := tys_rp hr h2
        exact ⟨rfl, fun q => .inr ⟨v, _, _, _, _, _, rfl, s _ _ hq, p1, h3, kit_any X.K h4 ns p2, q⟩⟩
      · cases hz
    · cases hz
end
end Fx

set_option maxHeartbeats 2000000
namespace Fx
open PySem PySem.Spec PyProof.Rows L2
section
variable {X : Cx} {W : WX} {io : Bool} {a b c e : Expr} {es : List Expr} {ma mb m mi : EM} {am : AM} {pos : Pos} {i j : Nat}
/-! ### list(x), tuple(x) -/
def gListS : List D → Option D
  | [.lst _ ds] => if noOwns ds = true then some (.lst .own ds) else none
  | [.tup _ ds] => if noOwns ds = true then some (.lst .own ds) else none
  | _ => none
theorem cd_listS : CallD X (.type "list") gListS := by
  refine ⟨_, call_list_of, fun HB H xs ds z F Q s rx hz hq => ?_⟩
  unfold gListS at hz
  split at hz
  · split at hz
    · rename_i hn
      cases hz
      obtain ⟨v, rfl, rv⟩ := rps1 rx
      obtain ⟨p, ys, G, rfl, h1, h2⟩ := rv.lstS s
      rw [h2.none hn] at h2
      refine ⟨p, ys, rfl, .inl h1, fun l nl => ?_⟩
      obtain ⟨x1, r1⟩ := new_lst s h2 nl
      exact hq _ _ _ _ x1 r1 (by simp) (fresh_one nl (s.free nl))
    · cases hz
  · split at hz
    · rename_i hn
      cases hz
      obtain ⟨v, rfl, rv⟩ := rps1 rx
      obtain ⟨p, ys, rfl, h1, h2⟩ := rv.tupS s
      rw [h2.none hn] at h2
      refine ⟨p, ys, rfl, .inr h1, fun l nl => ?_⟩
      obtain ⟨x1, r1⟩ := new_lst s h2 nl
      exact hq _ _ _ _ x1 r1 (by simp) (fresh_one nl (s.free nl))
    · cases hz
  · cases hz
def keyO : Key → D
  | .inl i => .int i
  | .inr s => .str s
theorem key_ro {K : PySem.W.Frag} {mg : Str → Option Value} {HB H : Hp} : ∀ ks : List Key, Rps K mg HB H (ks.map kV) (ks.map keyO) []
  | [] => .nil
  | .inl i :: ks => Rps.cons (.int i) (key_ro ks)
  | .inr i :: ks => Rps.cons (.str i) (key_ro ks)
def gListT : List D → Option D
  | [.dit _ kvs] => some (.lst .own (kvs.map fun kv => .tup false (kv.1.map keyO)))
  | _ => none
/-- some old tuples are known as such -/
theorem Ext.know {HB H : Hp} {bs : List Addr} (s : Same HB H) (h : ∀ b ∈ bs, ∃ xs, H b = some (.tup xs)) : Ext HB H (Fx.plus HB bs H) H where
  same := Same.refl _
  bs := fun a o e => by
    by_cases ha : a ∈ bs
    · rw [plus_in ha]; exact s a o e
    · rw [plus_out ha]; exact e
  sub := fun a o e => by
    by_cases ha : a ∈ bs
    · rwa [plus_in ha] at e
    · rw [plus_out ha] at e; exact s a o e
  new := fun a h1 h2 => by
    by_cases ha : a ∈ bs
    · exact .inr (h a ha)
    · rw [plus_out ha]; exact .inl h1
theorem keys_rps {K : PySem.W.Frag} {mg : Str → Option Value} {HB H : Hp} : ∀ {kvs : List (List Key × V)} {ks : List (List Key)} {bs : List Addr}, IsKeys H kvs bs → kvs.map (·.1) = ks → (∀ b ∈ bs, ∀ o, H b = some o → HB b = some o) →
    Rps K mg HB H (bs.map V.ref) (ks.map fun k => .tup false (k.map keyO)) []
  | [], _, _, .nil, h, _ => by subst h; exact .nil
  | kv :: kvs, _, _, .cons h r, e, k => by
    subst e
    have hb := k _ List.mem_cons_self _ h
    exact Rps.cons (.tup (.inr hb) (SqT.of hb) (key_ro _)) (keys_rps r rfl fun b hb => k b (List.mem_cons_of_mem _ hb))
theorem keys_tup {H : Hp} : ∀ {kvs : List (List Key × V)} {bs : List Addr}, IsKeys H kvs bs → ∀ b ∈ bs, ∃ xs, H b = some (.tup xs)
  | _, _, .nil, _, h => nomatch h
  | _, _, .cons h r, b, hb => by
    rcases List.mem_cons.mp hb with e | hb
    · subst e; exact ⟨_, h⟩
    · exact keys_tup r b hb
theorem cd_listT (hc : X.calm = true) : CallD X (.type "list") gListT := by
  refine ⟨_, call_list_dT hc, fun HB H xs ds z F Q s rx hz hq => ?_⟩
  unfold gListT at hz
  split at hz
  · rename_i o kvs
    cases hz
    obtain ⟨v, rfl, rv⟩ := rps1 rx
    obtain ⟨a, xs, G, rfl, h1, h2, h3⟩ := rv.ditAt s
    refine ⟨a, xs, rfl, .inl h1, fun p bs np hk => ?_⟩
    have x0 := Ext.know s (keys_tup hk)
    have r0 : Rps X.K X.mg (Fx.plus HB bs H) H (bs.map V.ref) ((kvs.map (·.1)).map fun k => .tup false (k.map keyO)) [] := keys_rps hk h2 fun b hb o e => by rw [plus_in hb]; exact e
    obtain ⟨x1, r1⟩ := new_lst x0.sub r0 np
    rw [List.map_map] at r1
    exact hq _ _ _ _ (x0.trans x1) r1 (by simp) (fresh_one np (x0.sub.free np))
  · cases hz
def gListC : List D → Option D
  | [.str s] => if s.length ≤ 1000 then some (.lst .own (signs s)) else none
  | _ => none
theorem signs_at {s : Str} {acc : Array Value} (h : ItemsOf (SignAt s) acc s.cps.size) : Vals (s.cps.toList.map fun c => V.str ⟨#[c]⟩) acc.toList := by
  have key : ∀ (cs : List Nat) (vs : List Value), cs.length = vs.length → (∀ (j : Nat) (v : Value), vs[j]? = some v → ∃ c u, cs[j]? = some c ∧ v = .str ⟨#[c]⟩ u) → Vals (cs.map fun c => V.str ⟨#[c]⟩) vs := by
    intro cs
    induction cs with
    | nil =>
      intro vs hl _
      cases vs with
      | nil => exact .nil
      | cons v vs => simp at hl
    | cons c cs ih =>
      intro vs hl hv
      cases vs with
      | nil => simp at hl
      | cons v vs =>
        obtain ⟨c', u, h1, h2⟩ := hv 0 v rfl
        cases h1
        exact .cons ⟨u, h2⟩ (ih vs (by simpa using hl) fun j w hw => by simpa using hv (j + 1) w (by simpa using hw))
  refine key _ _ (by rw [Array.length_toList, Array.length_toList]; exact h.1.symm) fun j v hv => ?_
  obtain ⟨c, u, h1, h2⟩ := h.2 j v (by rw [← Array.getElem?_toList]; exact hv)
  exact ⟨c, u, by rw [Array.getElem?_toList]; exact h1, h2⟩
theorem signs_rp {K : PySem.W.Frag} {mg : Str → Option Value} {HB H : Hp} {s : Str} : Rps K mg HB H (s.cps.toList.map fun c => V.str ⟨#[c]⟩) (signs s) [] := by
  unfold signs
  generalize s.cps.toList = cs
  induction cs with
  | nil => exact .nil
  | cons c cs ih => exact Rps.cons (.str _) ih
theorem call_listC (hc : X.calm = true) : CallR X (.type "list") (fun xs H Q => ∃ s, xs = [.str s] ∧ s.length ≤ sizeLine ∧ ∀ p, H p = none → Q (.ref p) (upd H p (.lst (s.cps.toList.map fun c => V.str ⟨#[c]⟩)))) := by
  intro pins st σ H xs us Q I r h
  obtain ⟨s, rfl, hl, q⟩ := h
  obtain ⟨u, rfl, rx⟩ := r.one
  obtain ⟨t, rfl⟩ := (show ∃ t, u = Value.str s t from rx)
  refine PySem.call_list_str (I.ok.hd hc) s t (fun h' tk acc' c' kp e it => ?_) hl
  have hn := I.hok.fresh (Nat.le_refl st.heap.objs.size)
  refine ⟨.ref st.heap.objs.size, _, I.laid (t' := tk) (o := .lst (s.cps.toList.map fun c => V.str ⟨#[c]⟩)) kp (Nat.le_refl _) ⟨by rw [List.length_map, Array.length_toList]; exact hl, acc'.toList, c', signs_at it, by rw [Array.toArray_toList]; exact e⟩, rfl, q _ hn⟩
theorem cd_listC (hc : X.calm = true) : CallD X (.type "list") gListC := by
  refine ⟨_, call_listC hc, fun HB H xs ds z F Q s rx hz hq => ?_⟩
  unfold gListC at hz
  split at hz
  · split at hz
    · rename_i hl
      cases hz
      obtain ⟨v, rfl, rv⟩ := rps1 rx
      cases rv
      refine ⟨_, rfl, line_of (by omega), fun p np => ?_⟩
      obtain ⟨x1, r1⟩ := new_lst (K := X.K) (mg := X.mg) s signs_rp np
      exact hq _ _ _ _ x1 r1 (by simp) (fresh_one np (s.free np))
    · cases hz
  · cases hz
def gList : List D → Option D
  | [.lst o ds] => gListS [.lst o ds]
  | [.tup o ds] => gListS [.tup o ds]
  | [.dit o ds] => gListT [.dit o ds]
  | [.str s] => gListC [.str s]
  | _ => none
theorem cd_list (hc : X.calm = true) : CallD X (.type "list") gList := (cd_listS.or ((cd_listT hc).or (cd_listC hc))).imp fun d z h => by
  unfold gList at h
  unfold cOr
  split at h
  · rw [h]
  · rw [h]
  · simp only [gListS]; rw [h]
  · simp only [gListS, gListT]; exact h
  · cases h
def gTupS : List D → Option D
  | [.lst _ ds] => if noOwns ds = true then some (.tup false ds) else none
  | [.tup c ds] => if noOwns ds = true then some (.tup c ds) else none
  | _ => none
theorem cd_tupS : CallD X (.type "tuple") gTupS := by
  refine ⟨_, call_tuple_of, fun HB H xs ds z F Q s rx hz hq => ?_⟩
  unfold gTupS at hz
  split at hz
  · split at hz
    · rename_i hn
      cases hz
      obtain ⟨v, rfl, rv⟩ := rps1 rx
      obtain ⟨p, ys, G, rfl, h1, h2⟩ := rv.lstS s
      rw [h2.none hn] at h2
      refine ⟨p, ys, rfl, .inl ⟨h1, fun l nl => ?_⟩⟩
      obtain ⟨x1, r1⟩ := new_tup s h2 nl
      exact hq _ _ _ _ x1 (r1 _) List.nodup_nil fun _ z => nomatch z
    · cases hz
  · split at hz
    · rename_i hn
      cases hz
      obtain ⟨v, rfl, rv⟩ := rps1 rx
      obtain ⟨p, ys, rfl, h1, h2⟩ := rv.tupS s
      have e1 := rv.none (by rw [noOwn_tup]; exact hn)
      rw [e1] at rv
      exact ⟨p, ys, rfl, .inr ⟨h1, hq _ HB H [] (Ext.refl s) rv List.nodup_nil fun _ z => nomatch z⟩⟩
    · cases hz
  · cases hz
def gTupC : List D → Option D
  | [.str s] => if s.length ≤ 1000 then some (.tup false (signs s)) else none
  | _ => none
theorem call_tupC (hc : X.calm = true) : CallR X (.type "tuple") (fun xs H Q => ∃ s, xs = [.str s] ∧ s.length ≤ sizeLine ∧ ∀ p, H p = none → Q (.ref p) (upd H p (.tup (s.cps.toList.map fun c => V.str ⟨#[c]⟩)))) := by
  intro pins st σ H xs us Q I r h
  obtain ⟨s, rfl, hl, q⟩ := h
  obtain ⟨u, rfl, rx⟩ := r.one
  obtain ⟨t, rfl⟩ := (show ∃ t, u = Value.str s t from rx)
  refine PySem.call_tuple_str (I.ok.hd hc) s t (fun h' tk acc kp it => ?_) hl
  have I1 : Inv X pins σ H { st with heap := h', toks := tk } := I.kept kp
  have hn := I1.hok.fresh (Nat.le_refl h'.objs.size)
  refine ⟨.ref h'.objs.size, _, I1.laid (t' := tk) (o := .tup (s.cps.toList.map fun c => V.str ⟨#[c]⟩)) (fun b o e => Heap.get?_push_of_some _ e) (Nat.le_refl _) ⟨by rw [List.length_map, Array.length_toList]; exact hl, acc.toList, signs_at it, ?_⟩, rfl, q _ hn⟩
  rw [Array.toArray_toList]
  exact ⟨_, Heap.get?_push_size _ rfl, rfl, _, rfl⟩
theorem cd_tupC (hc : X.calm = true) : CallD X (.type "tuple") gTupC := by
  refine ⟨_, call_tupC hc, fun HB H xs ds z F Q s rx hz hq => ?_⟩
  unfold gTupC at hz
  split at hz
  · split at hz
    · rename_i hl
      cases hz
      obtain ⟨v, rfl, rv⟩ := rps1 rx
      cases rv
      refine ⟨_, rfl, line_of (by omega), fun p np => ?_⟩
      obtain ⟨x1, r1⟩ := new_tup (K := X.K) (mg := X.mg) s signs_rp np
      exact hq _ _ _ _ x1 (r1 _) List.nodup_nil fun _ z => nomatch z
    · cases hz
  · cases hz
def gTuple : List D → Option D
  | [.lst o ds] => gTupS [.lst o ds]
  | [.tup o ds] => gTupS [.tup o ds]
  | [.str s] => gTupC [.str s]
  | _ => none
theorem cd_tuple (hc : X.calm = true) : CallD X (.type "tuple") gTuple := (cd_tupS.or (cd_tupC hc)).imp fun d z h => by
  unfold gTuple at h
  unfold cOr
  split at h
  · rw [h]
  · rw [h]
  · simp only [gTupS]; exact h
  · cases h

/-! ### sorted -/
def leI (i j : Int) : Bool := decide (i ≤ j)
def leP (p q : Int × Int) : Bool := !SrtO.lexB q p
def sortI (ns : List Int) : List Int := ns.mergeSort leI
def sortP (ps : List (Int × Int)) : List (Int × Int) := ps.mergeSort leP
theorem sortI_eq {ns ms : List Int} (h1 : ms.Perm ns) (h2 : ms.Pairwise (· ≤ ·)) : ms = sortI ns := by
  refine List.Perm.eq_of_pairwise (le := (· ≤ ·)) (fun a b _ _ h3 h4 => Int.le_antisymm h3 h4) h2 ?_ (h1.trans (List.mergeSort_perm ns leI).symm)
  have := List.pairwise_mergeSort (le := leI) (fun a b c h1 h2 => by simp only [leI, decide_eq_true_eq] at *; omega) (fun a b => by simp only [leI, Bool.or_eq_true, decide_eq_true_eq]; omega) ns
  exact this.imp fun h => by simpa [leI] using h
theorem sortP_eq {ns ms : List (Int × Int)} (h1 : ms.Perm ns) (h2 : ms.Pairwise fun x y => SrtO.lexB y x = false) : ms = sortP ns := by
  refine List.Perm.eq_of_pairwise (le := fun x y => SrtO.lexB y x = false) (fun a b _ _ h3 h4 => ?_) h2 ?_ (h1.trans (List.mergeSort_perm ns leP).symm)
  · have q1 := SrtO.lexB_no.mp h3
    have q2 := SrtO.lexB_no.mp h4
    apply Prod.ext <;> omega
  · have := List.pairwise_mergeSort (le := leP) (fun a b c h1 h2 => by
      simp only [leP, Bool.not_eq_true'] at *
      have q1 := SrtO.lexB_no.mp h1
      have q2 := SrtO.lexB_no.mp h2
      apply SrtO.lexB_no.mpr
      omega) (fun a b => by
      simp only [leP, Bool.or_eq_true, Bool.not_eq_true']
      by_cases h : SrtO.lexB b a = false
      · exact .inl h
      · right
        have q1 := SrtO.lexB_iff.mp (by simpa using h)
        apply SrtO.lexB_no.mpr
        omega) ns
    exact this.imp fun h => by simpa [leP] using h
def pairD : D → Option (Int × Int)
  | .tup false [.int i, .int j] => some (i, j)
  | _ => none
def pairsD : List D → Option (List (Int × Int))
  | [] => some []
  | d :: ds => match pairD d, pairsD ds with
    | some p, some ps => some (p :: ps)
    | _, _ => none
def dPair (p : Int × Int) : D := .tup false [.int p.1, .int p.2]
def gSorI : List D → Option D
  | [.lst _ ds] => (intsOf ds).map fun ns => .lst .own ((sortI ns).map .int)
  | _ => none
theorem ints_rp {K : PySem.W.Frag} {mg : Str → Option Value} {HB H : Hp} : ∀ ns : List Int, Rps K mg HB H (ns.map V.int) (ns.map D.int) []
  | [] => .nil
  | n :: ns => Rps.cons (.int n) (ints_rp ns)
theorem cd_sorI : CallD X (.builtin "sorted") gSorI := by
  refine ⟨_, cr_sortedI, fun HB H xs ds z F Q s rx hz hq => ?_⟩
  unfold gSorI at hz
  split at hz
  · obtain ⟨ns, h1, rfl⟩ := Option.map_eq_some_iff.mp hz
    obtain ⟨v, rfl, rv⟩ := rps1 rx
    obtain ⟨p, xs, G, rfl, h2, h3⟩ := rv.lstS s
    rw [h3.ints h1] at h2
    refine ⟨p, ns, rfl, h2, fun ms q hp hs nq => ?_⟩
    rw [sortI_eq hp hs]
    obtain ⟨x1, r1⟩ := new_lst (K := X.K) (mg := X.mg) s (ints_rp (sortI ns)) nq
    exact hq _ _ _ _ x1 r1 (by simp) (fresh_one nq (s.free nq))
  · cases hz
def gSorP : List D → Option D
  | [.lst _ ds] => (pairsD ds).map fun ps => .lst .own ((sortP ps).map dPair)
  | _ => none
def keyH (H : Hp) : V → Int × Int
  | .ref t => match H t with
    | some (.tup [.int i, .int j]) => (i, j)
    | _ => (0, 0)
  | _ => (0, 0)
theorem pair_rp {K : PySem.W.Frag} {mg : Str → Option Value} {HB H : Hp} {v : V} {d : D} {F : List Addr} {p : Int × Int} (r : Rp K mg HB H v d F) (h : pairD d = some p) : ∃ t, v = .ref t ∧ HB t = some (.tup [.int p.1, .int p.2]) := by
  unfold pairD at h
  split at h
  · rename_i i j
    cases h
    generalize hT : D.tup false [.int i, .int j] = w at r
    cases r <;> cases hT
    rename_i hsq hq hr
    rcases hq with hq | hq
    · cases hq
    obtain ⟨v, u, F1, F2, rfl, rv, ru⟩ := rps2 hr
    cases rv
    cases ru
    exact ⟨_, rfl, hq⟩
  · cases h
theorem pairs_rp {K : PySem.W.Frag} {mg : Str → Option Value} {HB H : Hp} (s : Same HB H) : ∀ {vs : List V} {ds : List D} {F : List Addr} {ps : List (Int × Int)}, Rps K mg HB H vs ds F → pairsD ds = some ps →
    (∀ x ∈ vs, ∃ t, x = .ref t ∧ HB t = some (.tup [.int (keyH H x).1, .int (keyH H x).2])) ∧ vs.map (keyH H) = ps
  | _, _, _, _, .nil, h => by cases h; exact ⟨fun _ z => (nomatch z), rfl⟩
  | _, _, _, _, .cons h r, e => by
    unfold pairsD at e
    split at e
    · rename_i p ps h1 h2
      cases e
      obtain ⟨t, rfl, ht⟩ := pair_rp h h1
      obtain ⟨q1, q2⟩ := pairs_rp s r h2
      have hk : keyH H (.ref t) = p := by simp only [keyH, s _ _ ht]
      refine ⟨fun x hx => ?_, by rw [List.map_cons, hk, q2]⟩
      rcases List.mem_cons.mp hx with rfl | hx
      · exact ⟨t, rfl, by rw [hk]; exact ht⟩
      · exact q1 x hx
    · cases e
theorem cd_sorP : CallD X (.builtin "sorted") gSorP := by
  refine ⟨_, cr_sortedPO, fun HB H xs ds z F Q s rx hz hq => ?_⟩
  unfold gSorP at hz
  split at hz
  · obtain ⟨ps, h1, rfl⟩ := Option.map_eq_some_iff.mp hz
    obtain ⟨v, rfl, rv⟩ := rps1 rx
    obtain ⟨p, xs, G, rfl, h2, h3⟩ := rv.lstS s
    obtain ⟨q1, q2⟩ := pairs_rp s h3 h1
    refine ⟨p, xs, keyH H, rfl, h2, fun x hx => ?_, fun ys q hs hb nq => ?_⟩
    · obtain ⟨t, e1, e2⟩ := q1 x hx
      exact ⟨t, e1, s _ _ e2⟩
    have e : ys.map (keyH H) = sortP ps := sortP_eq (by rw [← q2]; exact hb.perm.map _) (List.pairwise_map.mpr hs)
    have key : ∀ zs : List V, (∀ x ∈ zs, ∃ t, x = .ref t ∧ HB t = some (.tup [.int (keyH H x).1, .int (keyH H x).2])) → Rps X.K X.mg HB H zs ((zs.map (keyH H)).map dPair) [] := by
      intro zs
      induction zs with
      | nil => intro _; exact .nil
      | cons z zs ih =>
        intro hz
        obtain ⟨t, e1, e2⟩ := hz z List.mem_cons_self
        have r2 : Rps X.K X.mg HB H [.int (keyH H z).1, .int (keyH H z).2] [.int (keyH H z).1, .int (keyH H z).2] [] := Rps.cons (.int _) (Rps.one (.int _))
        have r1 : Rp X.K X.mg HB H z (dPair (keyH H z)) [] := by
          unfold dPair
          generalize keyH H z = k at e2 r2
          rw [e1]
          exact .tup (.inr e2) (SqT.of e2) r2
        exact Rps.cons r1 (ih fun x hx => hz x (List.mem_cons_of_mem _ hx))
    have r := key ys fun x hx => q1 x (hb.perm.mem_iff.mp hx)
    rw [e] at r
    obtain ⟨x1, r1⟩ := new_lst s r nq
    exact hq _ _ _ _ x1 r1 (by simp) (fresh_one nq (s.free nq))
  · cases hz
def gSorted : List D → Option D := cOr gSorI gSorP
theorem cd_sorted : CallD X (.builtin "sorted") gSorted := cd_sorI.or cd_sorP

/-! ### '..'.join(x), d.get(k, x), s[::-1] -/
def strsOf : List D → Option (List Str)
  | [] => some []
  | .str s :: ds => (strsOf ds).map (s :: ·)
  | _ => none
theorem Rps.strs {K : PySem.W.Frag} {mg : Str → Option Value} {HB H : Hp} : ∀ {vs : List V} {ds : List D} {F : List Addr} {ns : List Str}, Rps K mg HB H vs ds F → strsOf ds = some ns → vs = ns.map V.str
  | _, _, _, _, .nil, h => by cases h; rfl
  | _, _, _, _, .cons h r, k => by
    cases h <;> simp only [strsOf, Option.map_eq_some_iff] at k <;> try cases k
    rename_i ns' hk
    obtain ⟨h1, rfl⟩ := hk
    rw [List.map_cons, Rps.strs r h1]
def gJoin : D → D → Option D
  | .str s, .lst _ ds => (strsOf ds).bind fun ys => if (ys.map (·.length)).sum + ys.length * s.length ≤ 1000000 then some (.str (Txt.join s ys)) else none
  | .str s, .tup _ ds => (strsOf ds).bind fun ys => if (ys.map (·.length)).sum + ys.length * s.length ≤ 1000000 then some (.str (Txt.join s ys)) else none
  | _, _ => none
def isStr : D → Bool
  | .str _ => true
  | _ => false
def mJoin (m1 m2 : EM) : EM := fun S => bnd (m1 S) fun d S1 => if isStr d = true then bnd (m2 S1) fun e S2 => got (gJoin d e) S2 else none
theorem pd_join {apos : Pos} (ho : PEd X W io a ma) (he : PEd X W io b mb) (hs : starEach [b] X.env = [(false, eval b X.env)] := by rfl) (hbase : attributeBase a "join" X.env (eval a X.env) = eval a X.env := by rfl) (hline : (apos.endLine == pos.line) = true := by rfl) :
    PEd X W io (.Call (.Attribute a "join" apos) [b] [] pos) (mJoin ma mb) := PE.imp (pe_join ho he hs hbase hline) fun σ H Q q => by
  refine seq_run q fun S HB H1 Fr ft p0 d v F z HB0 st s0 hd hk post => ?_
  split at hk
  case isFalse => cases hk
  rename_i hstr
  cases d <;> simp only [isStr] at hstr <;> try cases hstr
  rename_i t
  have rv := hd.rp
  cases rv
  refine ⟨⟨t, rfl⟩, ?_⟩
  refine seq_run (R := fun y H2 => ∃ a p, ∃ ys : List Str, V.str t = .str a ∧ [y] = [.ref p] ∧ (SqL X.K H2 p (ys.map V.str) ∨ SqT X.K H2 p (ys.map V.str)) ∧ (ys.map (·.length)).sum + ys.length * a.length ≤ 16777216 ∧ Q (.str (Txt.join a ys)) H2) ⟨S, HB, Fr, ft, p0, z, st, hk, post.on s0 (Same.refl _)⟩ fun S2 HB2 H2 Fr2 ft2 p2 e u G z HB1 st2 s1 he hk2 post2 => ?_
  obtain ⟨z', h1, rfl⟩ := got_some hk2
  unfold gJoin at h1
  split at h1
  · rename_i s' o ds hss
    cases hss
    obtain ⟨ys, h2, h3⟩ := Option.bind_eq_some_iff.mp h1
    split at h3
    · rename_i hl
      cases h3
      obtain ⟨p, xs, G', rfl, h4, h5⟩ := he.rp.lstS st2.bs
      rw [h5.strs h2] at h4
      exact ⟨t, p, ys, rfl, rfl, .inl h4, by omega, post2 _ H2 HB2 ft2 [] s1 st2 ⟨.str _, List.nodup_nil, fun _ z => nomatch z⟩⟩
    · cases h3
  · rename_i s' o ds hss
    cases hss
    obtain ⟨ys, h2, h3⟩ := Option.bind_eq_some_iff.mp h1
    split at h3
    · rename_i hl
      cases h3
      obtain ⟨p, xs, rfl, h4, h5⟩ := he.rp.tupS st2.bs
      rw [h5.strs h2] at h4
      exact ⟨t, p, ys, rfl, rfl, .inr h4, by omega, post2 _ H2 HB2 ft2 [] s1 st2 ⟨.str _, List.nodup_nil, fun _ z => nomatch z⟩⟩
    · cases h3
  · cases h1
end
end Fx

set_option maxHeartbeats 2000000
namespace Fx
open PySem PySem.Spec PyProof.Rows L2
section
variable {X : Cx} {W : WX} {io : Bool} {a b c e : Expr} {es : List Expr} {ma mb mc m mi : EM} {am : AM} {pos : Pos} {i j : Nat} {o1 : Od}
def isDic : D → Bool
  | .dit _ _ => true
  | .dic _ _ => true
  | _ => false
theorem isDic_rp {K : PySem.W.Frag} {mg : Str → Option Value} {HB H : Hp} {v : V} {d : D} {F : List Addr} (s : Same HB H) (r : Rp K mg HB H v d F) (h : isDic d = true) : ∃ a, v = .ref a ∧ IsD H a := by
  cases d <;> simp only [isDic] at h <;> try cases h
  · obtain ⟨a, xs, G, rfl, h1, _⟩ := r.dicAt s
    exact ⟨a, rfl, .inl ⟨xs, .inl h1⟩⟩
  · obtain ⟨a, xs, G, rfl, h1, _⟩ := r.ditAt s
    exact ⟨a, rfl, .inr ⟨xs, .inl h1⟩⟩
/-- d.get(k, x) -/
def mGet2 : Od → EM → EM → EM
  | .ev m, mk, mx => fun S => bnd (m S) fun d S1 => if isDic d = true ∧ noOwn d = true then bnd (mk S1) fun k S2 => if noOwn k = true then bnd (mx S2) fun x S3 => if noOwn x = true then got ((getD' d k).map fun o => o.getD x) S3 else none else none else none
  | .sl i, mk, mx => fun S => rd i (fun d0 S0 => if isDic d0 = true then bnd (mk S0) fun k S1 => if noOwn k = true then bnd (mx S1) fun x S2 => rd i (fun d S3 => if noOwn x = true then got ((getD' d k).map fun o => o.getD x) S3 else none) S2 else none else none) S
theorem get2_end {S : Sl} {σ : L2.St} {HB HB0 H Fr : Hp} {ft : Nat → List Addr} {p0 : Option V} {v u x : V} {d k y : D} {F G : List Addr} {Q : VK} {z : Except Er D × Sl} (st : StF X.K X.mg io S σ HB H Fr ft p0) (rd : Rp X.K X.mg HB H v d F) (rk : Rp X.K X.mg HB H u k G) (rx : Rp X.K X.mg HB H x y [])
    (hk : got ((getD' d k).map fun o => o.getD y) S = some z) (s0 : Same HB0 HB) (post : EPost X.K X.mg W io σ HB0 Fr p0 Q z) : ∃ a o, v = .ref a ∧ DGet H a u o ∧ Q (o.getD x) H := by
  obtain ⟨z', h1, rfl⟩ := got_some hk
  obtain ⟨o, h2, rfl⟩ := Option.map_eq_some_iff.mp h1
  obtain ⟨a, rfl, h3⟩ := getD_rp st.bs rd rk h2
  cases o with
  | some w =>
    obtain ⟨w', h4, h5⟩ := h3
    exact ⟨a, _, rfl, h4, post w' H HB ft [] s0 st ⟨h5, List.nodup_nil, fun _ z => nomatch z⟩⟩
  | none => exact ⟨a, none, rfl, h3, post x H HB ft [] s0 st ⟨rx, List.nodup_nil, fun _ z => nomatch z⟩⟩
theorem pd_get2 {apos : Pos} (hu : X.A.units + 1 < cLine) (ho : PEo X W io a o1) (hb : PEd X W io b mb) (hc : PEd X W io c mc) (base : attributeBase a "get" X.env (eval a X.env) = eval a X.env := by rfl)
    (few : ((backTo pos (starEach [b, c] X.env)).all (fun x => !x.1) && (backToKw pos (keywordEach [] X.env)).all (fun x => x.1.isSome)
    && decide (([b, c] : List Expr).length + ([] : List Keyword).length + (if ([] : List Keyword).isEmpty then 0 else 1) < 30)) = true := by rfl) (line : (apos.endLine == pos.line) = true := by rfl)
    (trees : backTo pos (starEach [b, c] X.env) = [(false, eval b X.env), (false, eval c X.env)] := by rfl) : PEd X W io (.Call (.Attribute a "get" apos) [b, c] [] pos) (mGet2 o1 mb mc) := by
  refine PE.imp (pe_dget2 hu ho hb hc ⟨base, few, line, trees⟩) fun σ H Q q => ?_
  cases o1 with
  | ev m =>
    refine seq_run q fun S HB H1 Fr ft p0 d v F z HB0 st s0 hd hk post => ?_
    split at hk
    case isFalse => cases hk
    rename_i hdic
    obtain ⟨a, rfl, isd⟩ := isDic_rp st.bs hd.rp hdic.1
    have rd0 := hd.rp
    rw [rd0.none hdic.2] at rd0
    refine ⟨a, rfl, isd, ?_⟩
    refine next_run st hd hk (post.on s0 (Same.refl _)) fun u H2 S2 HB2 Fr2 ft2 k G st2 s2 f2 _ hk2 e2 post2 => ?_
    split at e2
    case isFalse => cases e2
    rename_i hnk
    refine next_run st2 hk2 e2 post2 fun x H3 S3 HB3 Fr3 ft3 y G3 st3 s3 f3 rk3 hx e3 post3 => ?_
    split at e3
    case isFalse => cases e3
    rename_i hnx
    have rx := hx.rp
    rw [rx.none hnx] at rx
    obtain ⟨a', o, ea, h1, h2⟩ := get2_end st3 (rd0.mono (s2.trans s3) (fun _ z => (nomatch z))) rk3 rx e3 (Same.refl _) post3
    cases ea
    exact ⟨o, h1, h2⟩
  | sl i =>
    obtain ⟨S, HB, Fr, ft, p0, z, st, e1, post⟩ := q
    simp only [mGet2] at e1
    obtain ⟨d0, h0, e2⟩ := rd_some e1
    obtain ⟨v, hv, rv⟩ := st.val i d0 h0
    split at e2
    case isFalse => cases e2
    rename_i hdic
    obtain ⟨a, rfl, isd⟩ := isDic_rp st.bs rv hdic
    refine ⟨.ref a, hv, a, rfl, isd, ?_⟩
    refine seq_run ⟨S, HB, Fr, ft, p0, z, st, e2, post⟩ fun S2 HB2 H2 Fr2 ft2 p2 k u G z HB1 st2 s1 hk2 e3 post2 => ?_
    split at e3
    case isFalse => cases e3
    rename_i hnk
    refine next_run st2 hk2 e3 (post2.on s1 (Same.refl _)) fun x H3 S3 HB3 Fr3 ft3 y G3 st3 s3 f3 rk3 hx e4 post3 => ?_
    obtain ⟨d, h1, e5⟩ := rd_some e4
    split at e5
    case isFalse => cases e5
    rename_i hnx
    have rx := hx.rp
    rw [rx.none hnx] at rx
    obtain ⟨v', hv', rv'⟩ := st3.val i d h1
    rw [hv] at hv'
    cases hv'
    obtain ⟨a', o, ea, h1, h2⟩ := get2_end st3 rv' rk3 rx e5 (Same.refl _) post3
    cases ea
    exact ⟨o, h1, h2⟩
/-- s[::-1] -/
def revS (s : Str) : Str := ⟨s.cps.toList.reverse.toArray⟩
def mRevS (m : EM) : EM := fun S => bnd (m S) fun d S1 => match d with
  | .str s => if s.length ≤ 1000000 then some (.ok (.str (revS s)), S1) else none
  | _ => none
theorem picked_rev (s : Str) (t : Tok) : (slicePicked s none none (some (-1, t))).filterMap (s.cps[·]?) = s.cps.toList.reverse := by
  show (sliceRange ((s.cps.size : Int) - 1) (-1) (-1)).filterMap (s.cps[·]?) = _
  rw [PySem.W.krv_sliceRange, PySem.W.krv_range, List.filterMap_reverse, PySem.W.krv_all]
def tRevS (te : TE) : TE := fun σ H Q => te σ H fun x H1 => ∃ s, x = .str s ∧ s.length ≤ sizeLine ∧ Q (.str (revS s)) H1
theorem pe_revS {te : TE} {k : Nat} {p1 p2 p3 pos : Pos} (he : PE X e te) : PE X (.Subscript e (.Slice none none (some (.UnaryOp .USub (.Constant (.int 1) k p1) p2)) p3) pos) (tRevS te) := by
  refine ⟨fun ps s0 σ H Q J w => Subscript_ (thn (he.run ps s0 σ H _ J w) fun v s1 ⟨x, H1, J1, r1, z, ex, hl, q⟩ => ?_)⟩
  subst ex
  obtain ⟨tk, rfl⟩ := (show ∃ t, v = Value.str z t from r1)
  have stp : PO X (some (.UnaryOp .USub (.Constant (.int 1) k p1) p2)) (tPart (tUn (rU fun i => .int (-i)) (tC (.int 1)))) := po_some (pe_un un_neg pe_int)
  refine wpAny_Slice (thn (po_none.run ps s1 σ H1 (fun o h => o = none ∧ h = H1) J1 ⟨rfl, rfl⟩) fun vl s2 ⟨l, H2, J2, pl, el, e2⟩ => ?_)
  subst el e2
  refine thn (po_none.run ps s2 σ H2 (fun o h => o = none ∧ h = H2) J2 ⟨rfl, rfl⟩) fun vu s3 ⟨u, H3, J3, pu, eu, e3⟩ => ?_
  subst eu e3
  refine thn (stp.run ps s3 σ H3 (fun o h => o = some (-1) ∧ h = H3) J3 ⟨1, rfl, -1, rfl, rfl, rfl⟩) fun vs s4 ⟨o, H4, J4, pst, eo, e4⟩ => ?_
  subst eo e4
  have el : vl = .none := by cases pl; rfl
  have eu : vu = .none := by cases pu; rfl
  subst el eu
  obtain ⟨l', rfl, h6⟩ := IsPart.raw pst
  obtain ⟨⟨i, t'⟩, rfl, hi⟩ := Option.map_eq_some_iff.mp h6
  obtain rfl : i = -1 := hi
  have J5 : Inv X ps σ H4 { s4 with heap := s4.heap.push { cls := .type "slice", data := .fields #[.none, .none, partValue (some (-1, t'))] } } := J4.kept (t' := s4.toks) fun b ob w => Heap.get?_push_of_some _ w
  refine tail_any (ops := [.str z tk, .ref s4.heap.objs.size]) (typeIs_str _ _ _) PySem.F.slot_str_getitem.lookup ?_ (by with_unfolding_all rfl)
  refine wpAny_getItem_str_slice (l := none) (u := none) (st := some (-1, t')) ⟨_, Heap.get?_push_size _ rfl, rfl, rfl⟩ rfl ?_
  have hm : sliceMade z tk none none (some (-1, t')) = Made.str (revS z) := by
    unfold sliceMade
    rw [picked_rev]
    rfl
  rw [hm]
  refine ⟨?_, .str _, H4, J5.tok _, ⟨_, rfl⟩, q⟩
  show (z.cps.toList.reverse.toArray).size ≤ sizeLine
  rw [List.size_toArray, List.length_reverse, Array.length_toList]
  exact hl
theorem pd_revS {k : Nat} {p1 p2 p3 : Pos} (h : PEd X W io e m) : PEd X W io (.Subscript e (.Slice none none (some (.UnaryOp .USub (.Constant (.int 1) k p1) p2)) p3) pos) (mRevS m) := PE.imp (pe_revS h) fun σ H Q q => seq_run q fun S HB H1 Fr ft p0 d v F z HB0 st s0 hd hk post => by
  split at hk
  · split at hk
    · rename_i s hl
      cases hk
      cases hd.rp
      exact ⟨s, rfl, line_of hl, post _ H1 HB ft [] s0 st ⟨.str _, List.nodup_nil, fun _ z => nomatch z⟩⟩
    · cases hk
  · cases hk
end
end Fx

set_option maxHeartbeats 2000000
namespace Fx
open PySem PySem.Spec PyProof.Rows L2

/-! ### own errors: class C below B below ValueError; B has no __init__ of its own; C's sets one field f -/
def oexB (K : PySem.W.Frag) (C : Addr) : Bool := (match K.lookup C with
  | some ⟨.type "type", _, .cls cd, sl⟩ => (match cd.mro, sl.toList with
    | .ref C' :: bm, [_, _, _, _, some (.builtin n), _] => decide (C' = C) && decide (n = "ValueError.__new__") && !cd.hasDel && cd.hasDict && PySem.HandSPX.refsVE bm
    | _, _ => false)
  | _ => false) && decide (PySem.W.findIn K (.ref C) "__setattr__" = some (some (.builtin "object.__setattr__"))) && decide (PySem.W.subIn K (.ref C) (.type "BaseException") = some true) &&
  decide (PySem.W.typeIn K (.ref C) = some (.type "type")) && PySem.W.keepIn K (.ref C)
theorem oexB_ok {K : PySem.W.Frag} {C : Addr} (h : oexB K C = true) : OexC K C := by
  unfold oexB at h
  simp only [Bool.and_eq_true, decide_eq_true_eq] at h
  obtain ⟨⟨⟨⟨h1, h2⟩, h3⟩, h4⟩, h5⟩ := h
  refine ⟨?_, h2, h3, h4, h5⟩
  split at h1
  · rename_i dd cd sl ho
    split at h1
    · rename_i C' bm k0 k1 k2 k3 n k5 hm hs
      simp only [Bool.and_eq_true, decide_eq_true_eq, Bool.not_eq_true'] at h1
      obtain ⟨⟨⟨⟨rfl, rfl⟩, hdel⟩, hdict⟩, hve⟩ := h1
      obtain ⟨nm, bs, mro, ns, qn, hd, sn, sub, ab, col, del⟩ := cd
      dsimp only at hm hdel hdict
      subst hm hdel hdict
      have hsl : sl = #[k0, k1, k2, k3, some (.builtin "ValueError.__new__"), k5] := by
        apply Array.ext'
        rw [hs]
      subst hsl
      exact ⟨nm, qn, ns, bs, bm, sn, sub, ab, col, dd, k0, k1, k2, k3, k5, ho, hve⟩
    · cases h1
  · cases h1
structure InitB (K : PySem.W.Frag) (B : Addr) : Prop where
  rd : PySem.W.readsIn K B (.type "type") = true
  ga : PySem.W.specialIn K (.ref B) "__getattribute__" = some (some (.builtin "type.__getattribute__"))
  at_ : PySem.W.findCls K (.ref B) (.type "type") "__init__" = some (.val (.builtin "ValueError.__init__"))
def initB (K : PySem.W.Frag) (B : Addr) : Bool := PySem.W.readsIn K B (.type "type") && decide (PySem.W.specialIn K (.ref B) "__getattribute__" = some (some (.builtin "type.__getattribute__"))) &&
  (match PySem.W.findCls K (.ref B) (.type "type") "__init__" with
    | some (.val (.builtin n)) => decide (n = "ValueError.__init__")
    | _ => false)
theorem initB_ok {K : PySem.W.Frag} {B : Addr} (h : initB K B = true) : InitB K B := by
  unfold initB at h
  simp only [Bool.and_eq_true, decide_eq_true_eq] at h
  obtain ⟨⟨h1, h2⟩, h3⟩ := h
  refine ⟨h1, h2, ?_⟩
  split at h3
  · rename_i n hn
    rw [hn, of_decide_eq_true h3]
  · cases h3
structure ErrK (K : PySem.W.Frag) (C fI : Addr) (fs : List Str) : Prop where
  oex : OexC K C
  ini : PySem.W.findIn K (.ref C) "__init__" = some (some (.ref fI))
  tyI : PySem.W.typeIn K (.ref fI) = some (.type "function")
  nof : ∀ f ∈ fs, PySem.W.findIn K (.ref C) f = some none
  xf : XfC K C
  self : PySem.W.exmOne K (.ref C) (.ref C) = some true
def errB (K : PySem.W.Frag) (C fI : Addr) (fs : List Str) : Bool := oexB K C && decide (PySem.W.findIn K (.ref C) "__init__" = some (some (.ref fI))) && decide (PySem.W.typeIn K (.ref fI) = some (.type "function")) &&
  fs.all (fun f => decide (PySem.W.findIn K (.ref C) f = some none)) && xfB K C && decide (PySem.W.exmOne K (.ref C) (.ref C) = some true)
theorem errB_ok {K : PySem.W.Frag} {C fI : Addr} {fs : List Str} (h : errB K C fI fs = true) : ErrK K C fI fs := by
  unfold errB at h
  simp only [Bool.and_eq_true, decide_eq_true_eq, List.all_eq_true] at h
  obtain ⟨⟨⟨⟨⟨h1, h2⟩, h3⟩, h4⟩, h5⟩, h6⟩ := h
  exact ⟨oexB_ok h1, h2, h3, h4, xfB_ok h5, h6⟩
section
variable {X : Cx} {W : WX} {io : Bool} {a b c e o : Expr} {es : List Expr} {ma mb mc m mi : EM} {am : AM} {pos p p' p1 p2 : Pos} {i j : Nat} {o1 : Od} {x f : Str} {ta : TA}
/-- B.__init__(self, ..) -/
theorem pe_binit {pl : Sem Bool} {B : Addr} (T : InitB X.K B) (hm : X.mg x = some (.ref B)) (ha : PA X (e :: es) ta) (hg : Gl X x := by rfl) (hdb : (x == ("__debug__" : Str)) = false := by decide)
    (hc : eval (.Call (.Attribute (.Name x p1) "__init__" p2) (e :: es) [] pos) X.env = (do
      let ov ← eval (.Name x p1) X.env
      standAt p2.atName
      let (f, first) ← holding [ov] (getMethod ov "__init__" pl)
      callWith pos f first (backTo pos (starEach (e :: es) X.env)) (backToKw pos (keywordEach [] X.env))) := by rfl)
    (he : starEach (e :: es) X.env = (false, eval e X.env) :: starEach es X.env := by rfl) (hpl : (backTo pos (starEach es X.env)).any (·.1) = false := by rfl) :
    PE X (.Call (.Attribute (.Name x p1) "__init__" p2) (e :: es) [] pos) (tVeI X.K ta) := by
  refine ⟨fun ps s0 σ H Q J w => PySem.W.methodCall_KW (ld_glob J hg hm ?_ hdb) hc⟩
  refine PySem.W.method_cls J.kIn T.ga (PySem.W.cls_value J.kIn T.rd T.at_ (by decide +kernel) ?_)
  show wpAny _ _ (callWith pos (Value.builtin "ValueError.__init__") [] (backTo pos (starEach (e :: es) X.env)) []) _ _ _
  refine PyProof.Rows.callWith_method1 (thn (ha.run pos ps _ σ H _ (J.tok _) w) fun us s1 ⟨vs, H1, J1, r1, a, C, ws, ev, hl, T1, ea, q⟩ => ?_) he hpl
  subst ev
  cases r1 with
  | @cons _ u0 _ ur ra rest =>
    obtain rfl : u0 = Value.ref a := ra
    exact oinit_ok T1 J1 ea (by rw [← Paired.length rest, sizeLine_eq]; omega) fun s' J' => ⟨.non, H1, J', rfl, q⟩
/-- what __init__(self, given) does -/
def spIni (K : PySem.W.Frag) (C : Addr) (f : Str) : Sp := fun vs H Q _ => ∃ a v, vs = [.ref a, v] ∧ H a = some (exo a C none) ∧ ∀ dx, H dx = none → dx ≠ a → Q .non (upd (upd H dx (exd dx [(f, v)])) a (exo a C (some dx)))
end
section
variable {P : Program} {w : World} {K : PySem.W.Frag} {mg : Str → Option Value} {base : Heap}
theorem ok_ini {x qual B f sf gv : Str} {t : Str} {params : Arguments} {scope : Scope} {dvs : List V} {kws : List (Str × V)} {fa : Addr} {fd : FuncData} {k : Nat} {Ba C fI : Addr} {j : Nat} {q1 q2 q3 q4 q5 q6 q7 q8 q9 q10 : Pos} {nm : Str}
    (F : FunD K x qual params [.Expr (.Call (.Attribute (.Name B q1) "__init__" q2) [.Name sf q3, .Constant (.str t) j q4] [] q5) q6, .Assign [.Attribute (.Name sf q7) f q8] (.Name gv q9) q10] scope dvs kws fa fd) (Sc : FnScope [sf, gv] [sf, gv] scope)
    (TB : InitB K Ba) (mB : mg B = some (.ref Ba)) (T : OexC K C) (hno : PySem.W.findIn K (.ref C) f = some none) (hB : ∀ (A : Around) (s : Shared) (H : Hp) (E : XK) (outer : List Env) (cdv : Value), Gl (cxOf (L2.CX P w) P w K mg base [sf, gv] qual scope fa cdv A outer s H E) B)
    (hdb : (B == ("__debug__" : Str)) = false) (v0 : ∀ env : Env, env.scope = scope → Vis env.scope sf) (v1 : ∀ env : Env, env.scope = scope → Vis env.scope gv) (d0 : (sf == ("__debug__" : Str)) = false) (d1 : (gv == ("__debug__" : Str)) = false)
    (c0 : (sf == ("__classdict__" : Str)) = false) (c1 : (gv == ("__classdict__" : Str)) = false) (pl : Env → Sem Bool)
    (hc : ∀ env : Env, env.scope = scope → eval (.Call (.Attribute (.Name B q1) "__init__" q2) [.Name sf q3, .Constant (.str t) j q4] [] q5) env = (do
      let ov ← eval (.Name B q1) env
      standAt q2.atName
      let (f, first) ← holding [ov] (getMethod ov "__init__" (pl env))
      callWith q5 f first (backTo q5 (starEach [.Name sf q3, .Constant (.str t) j q4] env)) (backToKw q5 (keywordEach [] env))))
    (hsw : ∀ env : Env, env.scope = scope → swapsWith (.Name gv q9) (some (.Attribute (.Name sf q7) f q8)) q10.line env = pure false)
    (hsw2 : ∀ env : Env, env.scope = scope → swapsWith (.Call (.Attribute (.Name B q1) "__init__" q2) [.Name sf q3, .Constant (.str t) j q4] [] q5) none q6.line env = pure false) :
    FnOk P w K mg base (L2.CX P w) (k + 1) fa fd [sf, gv] (spIni K C f) := by
  refine F.ok Sc (fun vs H Q E ⟨a, v, h, _⟩ => by rw [h]; rfl) fun cdv A outer s H vs Q E hr ⟨a, v, h, ha, q⟩ => ⟨_, pss_cons (ps_expr (pe_binit (pl := pl _) TB mB (pa_cons (pe_var (i := 0) rfl (v0 _ rfl) d0 c0) (pa_cons pe_str pa_nil)) (hB A s H E outer cdv) hdb (hc _ rfl)) (hsw2 _ rfl))
    (pss_one (ps_ost (pe_var (i := 0) rfl (v0 _ rfl) d0 c0) (pe_var (i := 1) rfl (v1 _ rfl) d1 c1) (hsw _ rfl))), ?_⟩
  subst h
  refine ⟨.ref a, rfl, a, C, [.str t], rfl, by simp, T, ha, ?_⟩
  exact ⟨v, rfl, .ref a, rfl, a, C, rfl, T, hno, .inl ⟨ha, fun dx n1 n2 => q dx n1 n2⟩⟩
end
/-! ### raise C(e) -/
def sRaise (x f : Str) (m : EM) : SM := andThen m fun d S => if noOwn d = true then some (.err (x, [(f, d)]), S) else none
section
variable {X : Cx} {W : WX} {io : Bool} {a b c e o : Expr} {es : List Expr} {ma mb mc m mi : EM} {am : AM} {pos p p' p1 p2 : Pos} {i j : Nat} {o1 : Od} {x f : Str} {ta : TA}
theorem ps_raiseD {C fI : Addr} {k : Nat} {fd : FuncData} {ps fs : List Str} {pos' : Pos} (hcal : X.calm = true) (tk : Takes X W) (T : ErrK X.K C fI fs) (F : FnOk X.prog X.w X.K X.mg X.base (L2.CX X.prog X.w) k fI fd ps (spIni X.K C f)) (hr : Room (k + 1) X.A)
    (hb : Binds X.K fd ps []) (hm : X.mg x = some (.ref C)) (ha : PEd X W io e m) (hg : Gl X x := by rfl) (hdb : (x == ("__debug__" : Str)) = false := by decide) (he : starEach [e] X.env = (false, eval e X.env) :: starEach [] X.env := by rfl) :
    PSd X W io (.Raise (some (.Call (.Name x p) [e] [] pos)) none pos') (sRaise x f m) :=
  PS.imp (ps_raise hcal tk (pmk_oex T.oex T.ini T.tyI F hr hb .nil passL hg hm (pa_cons ha pa_nil he) hdb he rfl)) fun E σ H q => then_run q fun S HB H1 Fr ft p0 d v F z HB0 st s0 hd hk post => by
  split at hk
  case isFalse => cases hk
  rename_i hn
  cases hk
  have rv := hd.rp
  rw [rv.none hn] at rv
  refine ⟨by simp, fun a na => ⟨a, v, rfl, upd_same, fun dx ndx ne => ⟨rfl, dx, [(f, v)], upd_same, ?_, ?_, ?_⟩⟩⟩
  · rw [upd_ne ne, upd_same]
  · rwa [upd_ne ne] at ndx
  rw [upd_ne ne] at ndx
  have eH : upd (del (upd (upd (upd H1 a (exo a C none)) dx (exd dx [(f, v)])) a (exo a C (some dx))) a) dx (.xd [(f, v)]) = upd H1 dx (.xd [(f, v)]) := by
    funext y
    by_cases e1 : y = dx
    · subst e1
      rw [upd_same, upd_same]
    · rw [upd_ne e1, upd_ne e1]
      by_cases e2 : y = a
      · subst e2
        rw [del_same, na]
      · rw [del_ne e2, upd_ne e2, upd_ne e1, upd_ne e2]
  rw [eH]
  have x1 := Ext.lay (o := .xd [(f, v)]) st.bs ndx
  refine post σ _ dx _ HB ft s0 (st.ext x1) ⟨C, [(f, v)], hm, rfl, upd_same, st.bs.free ndx, st.fr.free ndx, fun g d' hg => ?_⟩
  have : (g, d') = (f, d) := by simpa using hg
  cases this
  exact ⟨v, by simp [List.lookup], rv.ext x1⟩

/-! ### try: .. except C as n: return [.., n.f, ..] -/
def getIts (fs : List (Str × D)) : List (Sum Str Str) → Option (List D)
  | [] => some []
  | .inl s :: r => (getIts fs r).map (.str s :: ·)
  | .inr f :: r => (fs.lookup f).bind fun d => if noOwn d = true then (getIts fs r).map (d :: ·) else none
def sTry1 (i : Nat) (x : Str) (its : List (Sum Str Str)) (b : SM) : SM := fun S => match b S with
  | some (.err er, S1) => if er.1 = x ∧ its.length ≤ 1000 ∧ i < S1.length then (match getIts er.2 its with
    | some ds => some (.ret (.lst .own ds), S1)
    | none => none) else none
  | r => r
def tIts (a : Addr) (cls : Value) (d : Option Addr) (C : Addr) (i : Nat) : List (Sum Str Str) → TA
  | [] => tNil
  | .inl s :: r => tCons (tC (.str s)) (tIts a cls d C i r)
  | .inr f :: r => tCons (tXf a cls d C f (tVar i)) (tIts a cls d C i r)
theorem getIts_len {fs : List (Str × D)} : ∀ {its : List (Sum Str Str)} {ds : List D}, getIts fs its = some ds → ds.length = its.length
  | [], ds, h => by cases h; rfl
  | .inl s :: r, ds, h => by
    obtain ⟨ds', h1, rfl⟩ := Option.map_eq_some_iff.mp h
    rw [List.length_cons, List.length_cons, getIts_len h1]
  | .inr f :: r, ds, h => by
    obtain ⟨d, h1, h2⟩ := Option.bind_eq_some_iff.mp h
    split at h2
    · obtain ⟨ds', h3, rfl⟩ := Option.map_eq_some_iff.mp h2
      rw [List.length_cons, List.length_cons, getIts_len h3]
    · cases h2
theorem lookup_mem' {fs : List (Str × D)} {f : Str} {d : D} (h : fs.lookup f = some d) : (f, d) ∈ fs := PySem.mem_of_lookup h
theorem its_run {K : PySem.W.Frag} {mg : Str → Option Value} {HB H Fr : Hp} {a dx C : Addr} {er : Er} {σ : L2.St} (hv : σ[i]? = some (some (.ref a))) (hC : mg er.1 = some (.ref C)) : ∀ (its : List (Sum Str Str)) (ds : List D) (Q : List V → Hp → Prop) (c : Value),
    ErrAt K mg HB H Fr c dx er → getIts er.2 its = some ds → (∀ vs, Rps K mg HB H vs ds [] → Q vs H) → tIts a c (some dx) C i its σ H Q
  | [], ds, Q, c, _, h, q => by cases h; exact q [] .nil
  | .inl s :: r, ds, Q, c, ea, h, q => by
    obtain ⟨ds', h1, rfl⟩ := Option.map_eq_some_iff.mp h
    exact its_run hv hC r ds' _ c ea h1 fun vs rv => q _ (Rps.cons (.str s) rv)
  | .inr f :: r, ds, Q, c, ea, h, q => by
    obtain ⟨d, h1, h2⟩ := Option.bind_eq_some_iff.mp h
    split at h2
    · obtain ⟨ds', h3, rfl⟩ := Option.map_eq_some_iff.mp h2
      have ea0 := ea
      obtain ⟨C', fsv, e1, rfl, e3, e4, e5, e6⟩ := ea
      rw [hC] at e1
      cases e1
      obtain ⟨v, l, rv⟩ := e6 f d (lookup_mem' h1)
      exact ⟨.ref a, hv, rfl, rfl, dx, fsv, v, rfl, e3, l, its_run hv hC r ds' _ _ ea0 h3 fun vs rs => q _ (Rps.cons rv rs)⟩
    · cases h2
theorem ps_try1D {body : List Stmt} {suite : Stmt} {s1 : SM} {n : Str} {np pos' : Pos} {C fI : Addr} {fs : List Str} {its : List (Sum Str Str)} (hs : X.stack = X.env :: X.outer) (hf : X.env.frame = some X.env.locals) (hN : X.N.Nodup) (tk : Takes X W) (T : ErrK X.K C fI fs) (hm : X.mg x = some (.ref C))
    (hb : ∀ (W : WX) (pn : List (Addr × Obj)) (xe : Value → Shared → Prop), Takes (X.tr pn xe) W → PassesOwn (model X.prog X.w) X.A X.env xe → PSsd (X.tr pn xe) W io body s1)
    (hsu : ∀ (a : Addr) (oe : Obj) (cls : Value) (d : Option Addr) (pn : List (Addr × Obj)), Zc cls d oe → (∃ vs, oe.data = .fields vs) → PSs (X.suite a ((a, oe) :: pn)) [suite] (tRet (tLst (tIts a cls d C i its))))
    (hi : X.N[i]? = some n := by rfl) (hln : X.env.kindOf n = some .local := by rfl) (hg : Gl X x := by rfl) (hdb : (x == ("__debug__" : Str)) = false := by decide) :
    PSd X W io (.Try body [.ExceptHandler (some (.Name x np)) (some n) [suite] pos'] [] [] pos) (sTry1 i x its s1) := PS.imp (ps_try_as (tb := fun W => TSd X.K X.mg W io s1) hs hf hN hi hln ⟨hg, hdb, .inl hm⟩ tk hb hsu) fun E σ H ⟨S, HB, Fr, ft, p0, z, st, e1, post⟩ => by
  unfold sTry1 at e1
  split at e1
  · rename_i er S1 h1
    split at e1
    case isFalse => cases e1
    rename_i hx
    split at e1
    case h_2 => cases e1
    rename_i ds hds
    cases e1
    refine ⟨S, HB, Fr, ft, p0, _, st, h1, fun σ' c dx H' HB' ft' s' st' ea => ?_⟩
    have hC : X.mg er.1 = some (.ref C) := by rw [hx.1]; exact hm
    have hc : c = .ref C := by
      obtain ⟨C', fsv, e1, e2, _⟩ := ea
      rw [hC] at e1
      cases e1
      exact e2
    refine ⟨true, by rw [hc]; exact T.self, fun _ a na => ?_, fun h => nomatch h⟩
    have hl : i < σ'.length := by rw [← st'.len]; exact hx.2.2
    refine its_run (σ := σ'.set i (some (.ref a))) (List.getElem?_set_self hl) hC its ds _ c ea hds fun vs rv => ?_
    have e3 := getIts_len hds
    refine ⟨line_of (by rw [rv.length]; have := hx.2.1; omega), fun q nq => ?_⟩
    · obtain ⟨x1, r1⟩ := new_lst st'.bs rv nq
      refine post _ σ' _ HB' ft' [q] s' (st'.ext x1) ⟨r1, by simp, fun b hb => ?_⟩
      have : b = q := by simpa using hb
      subst this
      exact ⟨st'.bs.free nq, st'.fr.free nq, fun j hj => by
        obtain ⟨o, e, _⟩ := st'.own hj
        rw [nq] at e; cases e⟩
  · rename_i hne
    refine ⟨S, HB, Fr, ft, p0, z, st, e1, ?_⟩
    obtain ⟨r, S1⟩ := z
    cases r with
    | err er => exact absurd e1 (hne er S1)
    | _ => exact post
end
end Fx

set_option maxHeartbeats 2000000
namespace Fx
open PySem PySem.Spec PyProof.Rows L2

/-! ### lengths of argument lists -/
def ALen (am : AM) (n : Nat) : Prop := ∀ S ds S', am S = some (.ok ds, S') → ds.length = n
theorem alen_nil : ALen aNil 0 := fun S ds S' h => by cases h; rfl
theorem alen_cons {m : EM} {am : AM} {n : Nat} (h : ALen am n) : ALen (aCons m am) (n + 1) := fun S ds S' e => by
  rcases bnd_some e with ⟨d, S1, h1, e2⟩ | ⟨er, S1, h1, e2⟩
  · rcases bnd_some e2 with ⟨ds', S2, h2, e3⟩ | ⟨er, S2, h2, e3⟩
    · cases e3
      rw [List.length_cons, h _ _ _ h2]
    · cases e3
  · cases e2

/-! ### f(k = e, ..) -/
section
variable {X : Cx} {W : WX} {io : Bool} {a b c e : Expr} {es : List Expr} {ma mb m : EM} {am : AM} {pos p : Pos} {k n : Nat} {f : Addr} {fd : FuncData} {ps ks : List Str} {g : FM} {x : Str} {kws : List Keyword} {sp : Sp} {t : TA}
theorem PK.imp {t t' : TA} (h : PK X kws t) (hk : ∀ σ H Q, t' σ H Q → t σ H Q) : PK X kws t' := ⟨fun pos pins s σ H Q I q => h.run pos pins s σ H Q I (hk _ _ _ q)⟩
theorem pk_nilD : PK X [] (TAd X.K X.mg W io aNil) := PK.imp pk_nil fun σ H Q ⟨S, HB, Fr, ft, p0, z, st, e1, post⟩ => by
  cases e1
  exact post [] H HB ft [] (Same.refl _) st ⟨.nil, List.nodup_nil, fun _ z => nomatch z⟩
theorem pk_consD {nm : Option Str} {kpos : Pos} (he : PEd X W io e m) (hr : PK X kws (TAd X.K X.mg W io am)) : PK X (⟨nm, e, kpos⟩ :: kws) (TAd X.K X.mg W io (aCons m am)) := PK.imp (pk_cons he hr) fun σ H Q q => cons_runA q
theorem pe_kw0 (F : FnOk X.prog X.w X.K X.mg X.base (L2.CX X.prog X.w) k f fd ps sp) (hr : Room k X.A) (tk : Takes X W) (hg : Gl X x) (hm : X.mg x = some (.ref f)) (hk : PySem.W.keepIn X.K (.ref f) = true)
    (hb : ∀ (s : Shared) (us : List Value), us.length = ps.length → BindsTo s fd ⟨[], ks.zip us⟩ (ps.zip us)) (hkw : PK X kws t) (hall : (backToKw pos (keywordEach kws X.env)).all (·.1.isSome) = true) (hks : (backToKw pos (keywordEach kws X.env)).filterMap (·.1) = ks)
    (hdb : (x == ("__debug__" : Str)) = false) (hpl : ((backTo pos (starEach [] X.env)).any (·.1) || (backToKw pos (keywordEach kws X.env)).any (·.1.isNone)) = false) : PE X (.Call (.Name x p) [] kws pos) (fun σ H Q => t σ H fun vs H1 => sp vs H1 Q (WE W σ)) := by
  refine ⟨fun pn s0 σ H Q J w => wpAny_Call_Name_kw (ld_glob J hg hm ?_ hdb)⟩
  refine PySem.W.callWith_KW0 (h₀ := X.base) J.ok.mod.kin hk hall (thn (hkw.run pos pn s0 σ H _ J w) fun ws s2 ⟨zs, H2, J2, rz, q2⟩ => ⟨J2.kIn, ?_⟩) hpl
  rw [hks]
  have hl : ws.length = ps.length := by rw [← rz.length]; exact F.len _ _ _ _ q2
  refine wpAny_call (codeAny_mono (F.run X.A X.stack s2 H2 ⟨[], ks.zip ws⟩ ws zs Q (WE W σ) hr J2.env0 (hb s2 ws hl) rz q2) fun res s3 w3 => ?_)
  have px := passAt tk σ
  cases res with
  | error er => exact px pn H2 s2 er s3 J2 w3
  | ok fl =>
    cases fl with
    | ret u => exact J2.after w3
    | _ => exact False.elim w3
theorem pd_callK0 (F : FnOk X.prog X.w X.K X.mg X.base (L2.CX X.prog X.w) k f fd ps (SpD X.K X.mg n g)) (hr : Room k X.A) (tk : Takes X W) (hm : X.mg x = some (.ref f)) (hk : PySem.W.keepIn X.K (.ref f) = true)
    (hb : ∀ (s : Shared) (us : List Value), us.length = ps.length → BindsTo s fd ⟨[], ks.zip us⟩ (ps.zip us)) (hkw : PK X kws (TAd X.K X.mg W io am)) (hn : ALen am n) (hg : Gl X x := by rfl) (hall : (backToKw pos (keywordEach kws X.env)).all (·.1.isSome) = true := by rfl) (hks : (backToKw pos (keywordEach kws X.env)).filterMap (·.1) = ks := by rfl)
    (hdb : (x == ("__debug__" : Str)) = false := by decide) (hpl : ((backTo pos (starEach [] X.env)).any (·.1) || (backToKw pos (keywordEach kws X.env)).any (·.1.isNone)) = false := by rfl) : PEd X W io (.Call (.Name x p) [] kws pos) (mCall g am) :=
  PE.imp (pe_kw0 F hr tk hg hm hk hb hkw hall hks hdb hpl) fun σ H Q q => by
    have := callD_run q hn
    simpa using this
end
theorem kbinds0 {K : PySem.W.Frag} {x qual : Str} {params : Arguments} {body : List Stmt} {scope : Scope} {kws : List (Str × V)} {f : Addr} {fd : FuncData} {ps ks : List Str} (F : FunD K x qual params body scope [] kws f fd)
    (h : ∀ (kV doc pm : Value) (an : Option Addr) (cdv ct : Value) (us : List Value), us.length = ps.length → bindArgs (PySem.W.fnOf x qual params body scope .none kV doc pm an cdv ct) ⟨[], ks.zip us⟩ = pure (ps.zip us)) : ∀ (s : Shared) (us : List Value), us.length = ps.length → BindsTo s fd ⟨[], ks.zip us⟩ (ps.zip us) := fun s us hl => by
  obtain ⟨oc, od, dV, kV, doc, pm, an, cdv, ct, osl, rfl, lk, hcd, hD, hK⟩ := F.ex
  rcases hD with ⟨_, rfl⟩ | ⟨e, _⟩
  · exact .of_eq (h kV doc pm an cdv ct us hl)
  · exact absurd rfl e

/-! ### a, b, c = x, y, z -/
def setsS : Sl → List Nat → List D → Sl
  | S, i :: is, d :: ds => setsS (S.set i (some d)) is ds
  | S, _, _ => S
def setsV : L2.St → List Nat → List V → L2.St
  | σ, i :: is, v :: vs => setsV (σ.set i (some v)) is vs
  | σ, _, _ => σ
theorem StF.puts {K : PySem.W.Frag} {mg : Str → Option Value} {io : Bool} {HB H Fr : Hp} {p0 : Option V} : ∀ {is : List Nat} {vs : List V} {ds : List D} {F : List Addr} {S : Sl} {σ : L2.St} {ft : Nat → List Addr}, StF K mg io S σ HB H Fr ft p0 → Hands K mg HB H Fr ft vs ds F → (∀ i ∈ is, io = false ∨ i ≠ 0) → is.length = ds.length →
    ∃ ft', StF K mg io (setsS S is ds) (setsV σ is vs) HB H Fr ft' p0
  | [], vs, ds, F, S, σ, ft, st, hd, _, hl => by
    cases ds with
    | nil => exact ⟨ft, st⟩
    | cons d ds => simp at hl
  | i :: is, vs, ds, F, S, σ, ft, st, ⟨rp, nd, free⟩, h0, hl => by
    cases rp with
    | nil => simp at hl
    | @cons v vs d ds Fa Fb r1 r2 =>
      obtain ⟨n1, n2, n3⟩ := List.nodup_append.mp nd
      have fr2 : ∀ a ∈ Fb, HB a = none ∧ Fr a = none ∧ ∀ i, a ∉ ft i := fun a ha => free a (List.mem_append_right _ ha)
      have sp := same_plus (Fr := Fr) (H := H) fun a ha => (fr2 a ha).2.1
      have hda : Hand K mg HB H (Fx.plus Fr Fb H) ft v d Fa := ⟨r1, n1, fun a ha => ⟨(free a (List.mem_append_left _ ha)).1, by
        rw [plus_out fun z => n3 a ha a z rfl]; exact (free a (List.mem_append_left _ ha)).2.1, (free a (List.mem_append_left _ ha)).2.2⟩⟩
      obtain ⟨ft2, st2⟩ := (st.plus r2.there fr2).put hda (h0 i List.mem_cons_self)
      exact (st2.less sp).puts (is := is) ⟨r2, n2, fun a ha => by
        obtain ⟨o, q, m⟩ := r2.there a ha
        have pl : Fx.plus Fr Fb H a = some o := by rw [plus_in ha, q]
        exact ⟨st2.dis a o pl, (fr2 a ha).2.1, fun i hi => by
          have := (st2.free i a hi).2
          rw [pl] at this; cases this⟩⟩ (fun j hj => h0 j (List.mem_cons_of_mem _ hj)) (by simpa using hl)
def sPar3 (i j l : Nat) (am : AM) : SM := fun S => match am S with
  | some (.ok [d, e, f], S1) => some (.nx, ((S1.set i (some d)).set j (some e)).set l (some f))
  | some (.error e, S1) => some (.err e, S1)
  | _ => none
section
variable {X : Cx} {W : WX} {io : Bool} {a b c e : Expr} {am : AM} {pos : Pos}
theorem ps_par3D {i j l : Nat} {x y z : Str} {px py pz pt : Pos} {kt k2 : Nat} {pt2 : Pos} (hc : X.calm = true) (hN : X.N.Nodup) (ha : PAd X W io [a, b, c] am) (hi : X.N[i]? = some x := by rfl) (hj : X.N[j]? = some y := by rfl) (hl : X.N[l]? = some z := by rfl) (hij : i ≠ j := by decide) (hil : i ≠ l := by decide) (hjl : j ≠ l := by decide)
    (hx : X.env.scope.names.lookup x = some .local := by rfl) (hy : X.env.scope.names.lookup y = some .local := by rfl) (hz : X.env.scope.names.lookup z = some .local := by rfl) (h0 : io = false ∨ (i ≠ 0 ∧ j ≠ 0 ∧ l ≠ 0) := by first | exact Or.inl rfl | exact Or.inr ⟨by decide, by decide, by decide⟩)
    (hw : swappedStores [.Tuple [.Name x px, .Name y py, .Name z pz] kt pt] (.Tuple [a, b, c] k2 pt2) X.env = pure (some [x, y, z]) := by rfl)
    (hs : swapsWithSole [.Tuple [.Name x px, .Name y py, .Name z pz] kt pt] (.Tuple [a, b, c] k2 pt2) pos.line X.env = pure false := by rfl) : PSd X W io (.Assign [.Tuple [.Name x px, .Name y py, .Name z pz] kt pt] (.Tuple [a, b, c] k2 pt2) pos) (sPar3 i j l am) :=
  PS.imp (ps_par3 hc hN hi hj hl hij hil hjl hx hy hz ha hw hs) fun E σ H ⟨S, HB, Fr, ft, p0, r, st, e1, post⟩ => by
  show TAd X.K X.mg W io am σ H _
  unfold sPar3 at e1
  split at e1
  · rename_i d e f S1 h1
    cases e1
    refine ⟨S, HB, Fr, ft, p0, _, st, h1, fun vs H1 HB1 ft1 F1 s1 st1 hx => ?_⟩
    have hlen := hx.rp.length
    match vs, hlen with
    | [u, v, w], _ =>
      obtain ⟨ft', st'⟩ := st1.puts (is := [i, j, l]) hx (fun k hk => by
        rcases h0 with h0 | h0
        · exact .inl h0
        · right
          simp only [List.mem_cons, List.not_mem_nil, or_false] at hk
          rcases hk with rfl | rfl | rfl
          · exact h0.1
          · exact h0.2.1
          · exact h0.2.2) rfl
      exact ⟨u, v, w, rfl, post _ H1 HB1 ft' s1 st'⟩
  · rename_i er S1 h1
    cases e1
    exact ⟨S, HB, Fr, ft, p0, _, st, h1, post σ⟩
  · cases e1
end
/-! ### the module's constants -/
theorem glo_int {K : PySem.W.Frag} {mg : Str → Option Value} {x : Str} {i : Int} (h : ∃ t, mg x = some (.int i t)) : Glo K mg x (.int i) := by
  obtain ⟨t, h⟩ := h
  exact ⟨.int i, _, h, ⟨t, rfl⟩, fun _ _ => .int i⟩
theorem glo_str {K : PySem.W.Frag} {mg : Str → Option Value} {x : Str} {i : Str} (h : ∃ t, mg x = some (.str i t)) : Glo K mg x (.str i) := by
  obtain ⟨t, h⟩ := h
  exact ⟨.str i, _, h, ⟨t, rfl⟩, fun _ _ => .str i⟩
def flatVal : Value → Option V
  | .int i _ => some (.int i)
  | .str s _ => some (.str s)
  | .bool b => some (.bl b)
  | .none => some .non
  | _ => none
def flatVs : List Value → Option (List V)
  | [] => some []
  | v :: vs => match flatVal v, flatVs vs with
    | some x, some xs => some (x :: xs)
    | _, _ => none
theorem flatVs_ok : ∀ {us : List Value} {vs : List V}, flatVs us = some vs → Vals vs us
  | [], vs, h => by cases h; exact .nil
  | u :: us, vs, h => by
    unfold flatVs at h
    split at h
    · rename_i x xs h1 h2
      cases h
      refine .cons ?_ (flatVs_ok h2)
      cases u <;> simp only [flatVal] at h1 <;> cases h1
      · rfl
      · rfl
      · exact ⟨_, rfl⟩
      · exact ⟨_, rfl⟩
    · cases h
/-- a tuple of flat values, of the module -/
def tupB (K : PySem.W.Frag) (x : Str) (vs : List V) : Bool := match PySem.W.nsIn K mainGlobals x with
  | some (some (.ref a)) => (match K.lookup a with
    | some ⟨.type "tuple", _, .seq its _, _⟩ => decide (flatVs its.toList = some vs)
    | _ => false)
  | _ => false
def dOfV : V → D
  | .bl b => .bl b
  | .int i => .int i
  | .str s => .str s
  | _ => .non
def flatV0 : V → Bool
  | .non => true
  | .bl _ => true
  | .int _ => true
  | .str _ => true
  | _ => false
theorem flat_rps {K : PySem.W.Frag} {mg : Str → Option Value} {HB H : Hp} : ∀ {vs : List V}, vs.all flatV0 = true → Rps K mg HB H vs (vs.map dOfV) []
  | [], _ => .nil
  | v :: vs, h => by
    simp only [List.all_cons, Bool.and_eq_true] at h
    have r : Rp K mg HB H v (dOfV v) [] := by
      cases v <;> first | exact .non | exact .bl _ | exact .int _ | exact .str _ | exact absurd h.1 (by simp [flatV0])
    exact Rps.cons r (flat_rps h.2)
theorem glo_tup {K : PySem.W.Frag} {mg : Str → Option Value} {x : Str} {vs : List V} {h : Heap} (X : K.In h) (G : h.Ns mainGlobals mg) (c : tupB K x vs = true) (hf : vs.all flatV0 = true) (hl : vs.length ≤ 1000) : Glo K mg x (.tup true (vs.map dOfV)) := by
  unfold tupB at c
  split at c
  · rename_i a hn
    split at c
    · rename_i dd its n sl ho
      have hv := flatVs_ok (of_decide_eq_true c)
      refine ⟨.ref a, .ref a, PySem.W.mg_of X G hn, rfl, fun HB H => .tup (.inl rfl) (.inr ⟨_, its, n, ho, rfl, rfl, ?_, hv⟩) (flat_rps hf)⟩
      have h1 := hv.length
      have h2 : its.toList.length = its.size := Array.length_toList
      exact line_of (by omega)
    · cases c
  · cases c
end Fx

set_option maxHeartbeats 2000000
namespace Fx
open PySem PySem.Spec PyProof.Rows L2
section
variable {X : Cx}
/-- lists of unlike lengths differ, whatever they hold -/
def rLenNe (K : PySem.W.Frag) (z : Bool) : R2 := fun x y H Q => ∃ a b xs ys, x = .ref a ∧ y = .ref b ∧ SqL K H a xs ∧ SqL K H b ys ∧ xs.length ≠ ys.length ∧ Q (.bl z) H
theorem op_neLen (hu : X.A.units + 1 < cLine) : OpR X (compareOp .NotEq) (rLenNe X.K true) := by
  intro pins s σ H x y v u Q I rx ry h
  obtain ⟨a, b, xs, ys, rfl, rfl, ha, hb, hn, q⟩ := h
  cases rx
  cases ry
  obtain ⟨i1, r1, p1, _⟩ := I.list ha
  obtain ⟨i2, r2, p2, _⟩ := I.list hb
  refine SeqAt.RcNeAt.lists_lengths p1.isList p2.isList ?_ (by omega) X.prog X.w X.xe _ ⟨.bl true, H, I, rfl, q⟩
  simp only [List.size_toArray, bne_iff_ne, ne_eq]
  rw [← r1.length, ← r2.length]
  exact hn
theorem op_eqLen (hu : X.A.units + 1 < cLine) : OpR X (compareOp .Eq) (rLenNe X.K false) := by
  intro pins s σ H x y v u Q I rx ry h
  obtain ⟨a, b, xs, ys, rfl, rfl, ha, hb, hn, q⟩ := h
  cases rx
  cases ry
  obtain ⟨i1, r1, p1, _⟩ := I.list ha
  obtain ⟨i2, r2, p2, _⟩ := I.list hb
  refine SeqAt.RcAt.lists_lengths p1.isList p2.isList ?_ (by omega) X.prog X.w X.xe _ ⟨.bl false, H, I, rfl, q⟩
  simp only [List.size_toArray, bne_iff_ne, ne_eq]
  rw [← r1.length, ← r2.length]
  exact hn
def gLenNe (z : Bool) : D → D → Option D
  | .lst _ ds, .lst _ es => if ds.length ≠ es.length then some (.bl z) else none
  | _, _ => none
theorem od_neLen (hu : X.A.units + 1 < cLine) : OpD X (compareOp .NotEq) (gLenNe true) := OpD.flat (op_neLen hu) fun HB H x y d e z F G Q s rx ry hz => by
  unfold gLenNe at hz
  split at hz
  · split at hz
    · rename_i hn
      cases hz
      obtain ⟨a, xs, G1, rfl, h1, h2⟩ := rx.lstS s
      obtain ⟨b, ys, G2, rfl, h3, h4⟩ := ry.lstS s
      exact ⟨rfl, fun q => ⟨a, b, xs, ys, rfl, rfl, h1, h3, by rw [h2.length, h4.length]; exact hn, q⟩⟩
    · cases hz
  · cases hz
theorem od_eqLen (hu : X.A.units + 1 < cLine) : OpD X (compareOp .Eq) (gLenNe false) := OpD.flat (op_eqLen hu) fun HB H x y d e z F G Q s rx ry hz => by
  unfold gLenNe at hz
  split at hz
  · split at hz
    · rename_i hn
      cases hz
      obtain ⟨a, xs, G1, rfl, h1, h2⟩ := rx.lstS s
      obtain ⟨b, ys, G2, rfl, h3, h4⟩ := ry.lstS s
      exact ⟨rfl, fun q => ⟨a, b, xs, ys, rfl, rfl, h1, h3, by rw [h2.length, h4.length]; exact hn, q⟩⟩
    · cases hz
  · cases hz
/-- ==, !=: lists by their lengths first -/
def gEqA : D → D → Option D := gOr (gLenNe false) gEq
def gNeA : D → D → Option D := gOr (gLenNe true) gNe
theorem od_eqA (hu : X.A.units + 65 < cLine) : OpD X (compareOp .Eq) gEqA := (od_eqLen (by omega)).or (od_eq hu)
theorem od_neA (hu : X.A.units + 65 < cLine) : OpD X (compareOp .NotEq) gNeA := (od_neLen (by omega)).or (od_ne hu)
/-- a[b] of a list, a tuple, a text or a dict -/
theorem IxD.or {g g' : D → D → Option D} (h : IxD X g) (h' : IxD X g') : IxD X (gOr g g') := by
  obtain ⟨r, h1, h2⟩ := h
  obtain ⟨r', h1', h2'⟩ := h'
  refine ⟨_, h1.or h1', fun HB H x y d e z F G Q s rx ry hz hq => ?_⟩
  unfold gOr at hz
  split at hz
  · rename_i z' hz'
    cases hz
    exact .inl (h2 HB H x y d e _ F G Q s rx ry hz' hq)
  · exact .inr (h2' HB H x y d e z F G Q s rx ry hz hq)
end
/-- a def that may be called -/
structure CalD (P : Program) (w : World) (K : PySem.W.Frag) (mg : Str → Option Value) (base : Heap) (x : Str) (st : Stmt) (ps : List Str) (k : Nat) (g : FM) (f : Addr) (fd : FuncData) : Prop where
  m : mg x = some (.ref f)
  F : FunD K x x (defArgs st) (defBody st) (defScope st) [] [] f fd
  b : Binds K fd ps []
  G : FnOk P w K mg base (L2.CX P w) k f fd ps (SpD K mg ps.length g)
/-- types as values -/
theorem pd_ty {X : Cx} {W : WX} {io : Bool} {x : Str} {n : String} {pos : Pos} (hm : X.mg x = none) (hv : bootBuiltins x = some (.type n)) (hg : Gl X x := by rfl) (hn : x ≠ "__name__" := by decide) (hdb : (x == ("__debug__" : Str)) = false := by decide) : PEd X W io (.Name x pos) (mC (.ty n)) :=
  ⟨fun pins s σ H Q I ⟨S, HB, Fr, ft, p0, z, st, e1, post⟩ => by
    cases e1
    exact ld_blt I hg hm hv ⟨.ty n, H, I, rfl, post (.ty n) H HB ft [] (Same.refl _) st ⟨.ty n, List.nodup_nil, fun _ z => nomatch z⟩⟩ hn hdb⟩
end Fx

set_option maxHeartbeats 2000000
namespace Fx
open PySem PySem.Spec PyProof.Rows L2
theorem hu65 {k : Nat} {A : Around} (r : Room k A) : A.units + 65 < cLine := by have := r.un; omega
theorem hu01 {k : Nat} {A : Around} (r : Room k A) : A.units + 1 < cLine := by have := r.un; omega
section
variable {X : Cx} {W : WX} {io : Bool} {a b c : Expr} {ta tb tc : BM} {pos : Pos}
def bIf (t a b : BM) : BM := fun S => bnd (t S) fun c S1 => if c = true then a S1 else b S1
theorem pt_ifD (hc : PTd X W io c tc) (ha : PTd X W io a ta) (hb : PTd X W io b tb) : PTd X W io (.IfExp c a b pos) (bIf tc ta tb) := ⟨fun ps s0 σ H Q J w => PyProof.Rows.isTrue_IfExp (thn (hc.run ps s0 σ H (fun k H1 => if k = true then TTd X.K X.mg W io ta σ H1 Q else TTd X.K X.mg W io tb σ H1 Q) J
    (seqT_run w fun S HB H1 Fr ft p0 k z HB0 st s0 hk post => by
      cases k with
      | true => exact iteT ⟨S, HB, Fr, ft, p0, z, st, hk, post.on s0 (Same.refl _)⟩
      | false => exact iteF ⟨S, HB, Fr, ft, p0, z, st, hk, post.on s0 (Same.refl _)⟩)) fun k s1 ⟨H1, J1, q⟩ => by
    cases k with
    | true => exact iteT (ha.run ps s1 σ H1 Q J1 (by simpa using q))
    | false => exact iteF (hb.run ps s1 σ H1 Q J1 (by simpa using q)))⟩
end
theorem gs_len0 : ∀ ds S S', gsNil ds S = some S' → ds.length = 0 := fun ds S S' h => by
  unfold gsNil at h
  split at h
  · rfl
  · cases h
theorem gs_len1 {g : GM} {r : List D → Sl → Option Sl} {n : Nat} (hr : ∀ ds S S', r ds S = some S' → ds.length = n) : ∀ ds S S', gsCons g r ds S = some S' → ds.length = n + 1 := fun ds S S' h => by
  unfold gsCons at h
  split at h
  · obtain ⟨S1, _, h2⟩ := Option.bind_eq_some_iff.mp h
    rw [List.length_cons, hr _ _ _ h2]
  · cases h
section
variable {X : Cx}
def gMax2 : List D → Option D
  | [.int i, .int j] => some (.int (if j > i then j else i))
  | _ => none
theorem cd_max2 (hc : X.calm = true) : CallD X (.builtin "max") gMax2 := CallD.flat (call_max2 hc) fun HB H xs ds z F Q s rx hz => by
  unfold gMax2 at hz
  split at hz
  · cases hz
    obtain ⟨v, u, F1, F2, rfl, rv, ru⟩ := rps2 rx
    cases rv
    cases ru
    exact ⟨rfl, fun q => ⟨_, _, rfl, q⟩⟩
  · cases hz
def gMin2 : List D → Option D
  | [.int i, .int j] => some (.int (if j < i then j else i))
  | _ => none
theorem cd_min2 (hc : X.calm = true) : CallD X (.builtin "min") gMin2 := CallD.flat (call_min2 hc) fun HB H xs ds z F Q s rx hz => by
  unfold gMin2 at hz
  split at hz
  · cases hz
    obtain ⟨v, u, F1, F2, rfl, rv, ru⟩ := rps2 rx
    cases rv
    cases ru
    exact ⟨rfl, fun q => ⟨_, _, rfl, q⟩⟩
  · cases hz
end
section
variable {X : Cx} {io : Bool} {scope : Scope} {c : Expr} {t : BM}
theorem ht_nil : ∃ tt, (∀ (s : Shared) (H : Hp) (C : Addr) (cl : List (Str × Addr)) (fp : List Addr), PTs (X.blk s H scope (compEnvC scope cl C X.env) fp) [] tt) ∧ ∀ σ H Q, TTd X.K X.mg WF io tYesD σ H Q → tt σ H Q :=
  ⟨tYes, fun _ _ _ _ _ => pts_nil, fun σ H Q ⟨S, HB, Fr, ft, p0, z, st, e1, post⟩ => by
    cases e1
    exact post H HB ft (Same.refl _) st⟩
theorem ht_one (h : ∀ (s : Shared) (H : Hp) (C : Addr) (cl : List (Str × Addr)) (fp : List Addr), PTd (X.blk s H scope (compEnvC scope cl C X.env) fp) WF io c t) :
    ∃ tt, (∀ (s : Shared) (H : Hp) (C : Addr) (cl : List (Str × Addr)) (fp : List Addr), PTs (X.blk s H scope (compEnvC scope cl C X.env) fp) [c] tt) ∧ ∀ σ H Q, TTd X.K X.mg WF io t σ H Q → tt σ H Q :=
  ⟨_, fun s H C cl fp => pts_one (h s H C cl fp), fun _ _ _ q => q⟩
end
end Fx

set_option maxHeartbeats 2000000
namespace Fx
open PySem PySem.Spec PyProof.Rows L2

/-! ### mirrors, evaluated -/
def finM (io : Bool) (r : Option (SR × Sl)) : Option (Except Er D × Option D) := match r with
  | some (.ret d, S) => (finS io S).map fun o => (.ok d, o)
  | some (.nx, S) => (finS io S).map fun o => (.ok .non, o)
  | some (.err e, S) => (finS io S).map fun o => (.error e, o)
  | _ => none
theorem finM_ret {d : D} {S : Sl} : finM false (some (.ret d, S)) = some (.ok d, none) := rfl
theorem finM_nx {S : Sl} : finM false (some (.nx, S)) = some (.ok .non, none) := rfl
theorem finM_err {e : Er} {S : Sl} : finM false (some (.err e, S)) = some (.error e, none) := rfl
theorem finI_ret {d x : D} {S : Sl} : finM true (some (.ret d, some x :: S)) = some (.ok d, some x) := rfl
theorem bnd_ok {α β : Type} {a : α} {S : Sl} {k : α → Sl → Option (Except Er β × Sl)} : bnd (some (.ok a, S)) k = k a S := rfl
theorem bnd_er {α β : Type} {e : Er} {S : Sl} {k : α → Sl → Option (Except Er β × Sl)} : bnd (some (.error e, S)) k = some (.error e, S) := rfl
theorem got_ok {α : Type} {a : α} {S : Sl} : got (some a) S = some (.ok a, S) := rfl
theorem andThen_ok {m : EM} {k : D → Sl → Option (SR × Sl)} {S S1 : Sl} {d : D} (h : m S = some (.ok d, S1)) : andThen m k S = k d S1 := by unfold andThen; rw [h]
theorem andThen_er {m : EM} {k : D → Sl → Option (SR × Sl)} {S S1 : Sl} {e : Er} (h : m S = some (.error e, S1)) : andThen m k S = some (.err e, S1) := by unfold andThen; rw [h]
theorem seq_nx {a b : SM} {S S1 : Sl} (h : a S = some (.nx, S1)) : sSeq a b S = b S1 := by unfold sSeq; rw [h]
theorem seq_ret {a b : SM} {S S1 : Sl} {d : D} (h : a S = some (.ret d, S1)) : sSeq a b S = some (.ret d, S1) := by unfold sSeq; rw [h]
theorem seq_err {a b : SM} {S S1 : Sl} {e : Er} (h : a S = some (.err e, S1)) : sSeq a b S = some (.err e, S1) := by unfold sSeq; rw [h]
theorem if_tt {t : BM} {a b : SM} {S S1 : Sl} (h : t S = some (.ok true, S1)) : sIf t a b S = a S1 := by unfold sIf; rw [h]
theorem if_ff {t : BM} {a b : SM} {S S1 : Sl} (h : t S = some (.ok false, S1)) : sIf t a b S = b S1 := by unfold sIf; rw [h]
theorem fnM_ret {n : Nat} {b : SM} {ds : List D} {d : D} {S : Sl} (h : b (ds.map some ++ List.replicate (n - ds.length) none) = some (.ret d, S)) : fnM n false b ds = some (.ok d, none) := by unfold fnM; rw [h]; rfl
theorem fnM_nx {n : Nat} {b : SM} {ds : List D} {S : Sl} (h : b (ds.map some ++ List.replicate (n - ds.length) none) = some (.nx, S)) : fnM n false b ds = some (.ok .non, none) := by unfold fnM; rw [h]; rfl
theorem fnM_err {n : Nat} {b : SM} {ds : List D} {e : Er} {S : Sl} (h : b (ds.map some ++ List.replicate (n - ds.length) none) = some (.err e, S)) : fnM n false b ds = some (.error e, none) := by unfold fnM; rw [h]; rfl
theorem fnI_ret {n : Nat} {b : SM} {ds : List D} {d x : D} {S : Sl} (h : b (ds.map some ++ List.replicate (n - ds.length) none) = some (.ret d, some x :: S)) : fnM n true b ds = some (.ok d, some x) := by unfold fnM; rw [h]; rfl
theorem noOwns_ints (ns : List Int) : noOwns (ns.map D.int) = true := by
  induction ns with
  | nil => rfl
  | cons n ns ih => simp only [List.map_cons, noOwns, noOwn, ih, Bool.and_self]
theorem intsOf_map (ns : List Int) : intsOf (ns.map D.int) = some ns := by
  induction ns with
  | nil => rfl
  | cons n ns ih => simp only [List.map_cons, intsOf, ih, Option.map_some]
theorem noOwns_nil : noOwns [] = true := by simp [noOwns]
theorem noOwns_cons {d : D} {ds : List D} : noOwns (d :: ds) = (noOwn d && noOwns ds) := by simp [noOwns]
theorem noOwn_int {i : Int} : noOwn (.int i) = true := by simp [noOwn]
theorem noOwn_bl {i : Bool} : noOwn (.bl i) = true := by simp [noOwn]
theorem noOwn_str {i : Str} : noOwn (.str i) = true := by simp [noOwn]
theorem noOwn_non : noOwn .non = true := by simp [noOwn]
theorem noOwn_ty {i : String} : noOwn (.ty i) = true := by simp [noOwn]
theorem fz_int {i : Int} : fz (.int i) = .int i := by simp [fz]
theorem fz_bl {i : Bool} : fz (.bl i) = .bl i := by simp [fz]
theorem fz_str {i : Str} : fz (.str i) = .str i := by simp [fz]
theorem fz_non : fz .non = .non := by simp [fz]
theorem fz_lst {o : Ow} {ds : List D} : fz (.lst o ds) = .lst (if o = .own then .frz else o) (fzs ds) := by rw [fz]
theorem fz_tup {c : Bool} {ds : List D} : fz (.tup c ds) = .tup c (fzs ds) := by rw [fz]
theorem fz_dit {o : Ow} {ds : List (List Key × D)} : fz (.dit o ds) = .dit (if o = .own then .frz else o) (fzT ds) := by rw [fz]
theorem fzs_nil : fzs [] = [] := by simp [fzs]
theorem fzs_cons {d : D} {ds : List D} : fzs (d :: ds) = fz d :: fzs ds := by simp [fzs]
theorem fzT_nil : fzT [] = [] := by simp [fzT]
mutual
theorem fz_same : ∀ d : D, noOwn d = true → fz d = d
  | .non, _ => by simp [fz]
  | .bl _, _ => by simp [fz]
  | .int _, _ => by simp [fz]
  | .str _, _ => by simp [fz]
  | .fn _, _ => by simp [fz]
  | .ty _, _ => by simp [fz]
  | .tup c ds, h => by rw [fz_tup, fzs_same ds (by rwa [noOwn_tup] at h)]
  | .lst o ds, h => by
    simp only [noOwn_lst, Bool.and_eq_true, decide_eq_true_eq] at h
    rw [fz_lst, if_neg h.1, fzs_same ds h.2]
  | .dic o ds, h => by
    simp only [noOwn_dic, Bool.and_eq_true, decide_eq_true_eq] at h
    rw [fz, if_neg h.1, fzK_same ds h.2]
  | .dit o ds, h => by
    simp only [noOwn_dit, Bool.and_eq_true, decide_eq_true_eq] at h
    rw [fz, if_neg h.1, fzT_same ds h.2]
theorem fzs_same : ∀ ds : List D, noOwns ds = true → fzs ds = ds
  | [], _ => by simp [fzs]
  | d :: ds, h => by
    simp only [noOwns, Bool.and_eq_true] at h
    rw [fzs_cons, fz_same d h.1, fzs_same ds h.2]
theorem fzK_same : ∀ ds : List (Key × D), noOwns (ds.map (·.2)) = true → fzK ds = ds
  | [], _ => by simp [fzK]
  | (k, d) :: ds, h => by
    simp only [List.map_cons, noOwns, Bool.and_eq_true] at h
    rw [fzK, fz_same d h.1, fzK_same ds h.2]
theorem fzT_same : ∀ ds : List (List Key × D), noOwns (ds.map (·.2)) = true → fzT ds = ds
  | [], _ => by simp [fzT]
  | (k, d) :: ds, h => by
    simp only [List.map_cons, noOwns, Bool.and_eq_true] at h
    rw [fzT, fz_same d h.1, fzT_same ds h.2]
end
theorem mV_no {i : Nat} {S : Sl} {d : D} (h : S[i]? = some (some d)) (n : noOwn d = true) : mV i S = some (.ok d, S) := by unfold mV; rw [h]; simp only [n, if_true]
theorem mV_own {i : Nat} {S : Sl} {d : D} (h : S[i]? = some (some d)) (n : noOwn d = false) : mV i S = some (.ok (fz d), S.set i (some (fz d))) := by unfold mV; rw [h]; simp [n]
theorem rd_at {i : Nat} {S : Sl} {d : D} {k : D → Sl → Option (Except Er D × Sl)} (h : S[i]? = some (some d)) : rd i k S = k d S := by unfold rd; rw [h]
theorem onI_eq {C : Int → Int → Prop} [∀ i j, Decidable (C i j)] {g : Int → Int → D} {i j : Int} (h : C i j) : onI C g (.int i) (.int j) = some (g i j) := if_pos h
theorem onI0_eq {g : Int → Int → D} {i j : Int} : onI0 g (.int i) (.int j) = some (g i j) := rfl
theorem gAdd_int {i j : Int} : gAdd (.int i) (.int j) = some (.int (i + j)) := rfl
theorem gSub_int {i j : Int} : gSub (.int i) (.int j) = some (.int (i - j)) := rfl
theorem gMul_int {i j : Int} (h : CMul i j) : gMul (.int i) (.int j) = some (.int (i * j)) := if_pos h
theorem gMod_int {i j : Int} (h : j ≠ 0) : gMod (.int i) (.int j) = some (.int (i.fmod j)) := onI_eq h
theorem gDiv_int {i j : Int} (h : CDivN i j) : gDiv (.int i) (.int j) = some (.int (i.fdiv j)) := onI_eq h
theorem gPow_int {i j : Int} (h : CPow i j) : gPow (.int i) (.int j) = some (.int (i ^ j.toNat)) := onI_eq h
theorem gLt_int {i j : Int} : gLt (.int i) (.int j) = some (.bl (decide (i < j))) := rfl
theorem gLe_int {i j : Int} : gLe (.int i) (.int j) = some (.bl (decide (i ≤ j))) := rfl
theorem gGt_int {i j : Int} : gGt (.int i) (.int j) = some (.bl (decide (j < i))) := rfl
theorem gGe_int {i j : Int} : gGe (.int i) (.int j) = some (.bl (decide (j ≤ i))) := rfl
/-- what two that can be compared give -/
theorem depth0 {d : D} (h : flat d = true) : (py d).depth = 0 := by cases d <;> simp [flat] at h <;> simp [py, PyData.depth]
theorem flat_okPy {d : D} (h : flat d = true) : okPy d = true := by cases d <;> simp [flat] at h <;> simp [okPy]
theorem gLenNe_flat {z : Bool} {d e : D} (h : flat e = true) : gLenNe z d e = none := by
  cases e <;> simp [flat] at h <;> cases d <;> rfl
theorem gEqA_flat {d e : D} (h1 : okPy d = true) (h2 : flat e = true) : gEqA d e = some (.bl (eqD d e)) := by
  unfold gEqA gOr
  rw [gLenNe_flat h2]
  have : eqOk d e = true := by
    unfold eqOk
    rw [h1, flat_okPy h2, depth0 h2]
    simp
  show gEq d e = _
  unfold gEq
  rw [if_pos this]
theorem gNeA_flat {d e : D} (h1 : okPy d = true) (h2 : flat e = true) : gNeA d e = some (.bl (!eqD d e)) := by
  unfold gNeA gOr
  rw [gLenNe_flat h2]
  have : eqOk d e = true := by
    unfold eqOk
    rw [h1, flat_okPy h2, depth0 h2]
    simp
  show gNe d e = _
  unfold gNe
  rw [if_pos this]
theorem eqD_int {i j : Int} : eqD (.int i) (.int j) = decide (i = j) := by
  simp only [eqD, py, PyData.eqv]
  by_cases h : i = j <;> simp [h]
theorem eqD_str {s t : Str} : eqD (.str s) (.str t) = decide (s = t) := by
  simp only [eqD, py, PyData.eqv]
  by_cases h : s = t <;> simp [h]
theorem gEqA_int {i j : Int} : gEqA (.int i) (.int j) = some (.bl (decide (i = j))) := by rw [gEqA_flat (by simp [okPy]) rfl, eqD_int]
theorem gNeA_int {i j : Int} : gNeA (.int i) (.int j) = some (.bl (!decide (i = j))) := by rw [gNeA_flat (by simp [okPy]) rfl, eqD_int]
theorem gEqA_str {i j : Str} : gEqA (.str i) (.str j) = some (.bl (decide (i = j))) := by rw [gEqA_flat (by simp [okPy]) rfl, eqD_str]
theorem gNeA_str {i j : Str} : gNeA (.str i) (.str j) = some (.bl (!decide (i = j))) := by rw [gNeA_flat (by simp [okPy]) rfl, eqD_str]
theorem gNeA_nil {o o' : Ow} {ds : List D} : gNeA (.lst o ds) (.lst o' []) = some (.bl (!ds.isEmpty)) := by
  unfold gNeA gOr
  cases ds with
  | nil =>
    have : eqOk (.lst o []) (.lst o' []) = true := by simp [eqOk, okPy, okPys, py, pys, PyData.depth, PyData.depthAll]
    simp only [gLenNe, List.length_nil, ne_eq, not_true_eq_false, if_false, gNe, this, if_true, eqD, py, pys, PyData.eqv, PyData.eqvAll]
    rfl
  | cons d ds => simp [gLenNe]

/-! ### loops -/
theorem for_of {am : AM} {g : GM} {b : SM} {S S1 : Sl} {ds : List D} {r : Option (SR × Sl)} (h : am S = some (.ok ds, S1)) (h2 : forL g b ds S1 = r) : sFor am g b S = r := by unfold sFor; rw [h]; exact h2
theorem forL_nil {g : GM} {b : SM} {S : Sl} : forL g b [] S = some (.nx, S) := rfl
theorem forL_cons {g : GM} {b : SM} {d : D} {ds : List D} {S S1 S2 : Sl} (h1 : g d S = some S1) (h2 : b S1 = some (.nx, S2)) : forL g b (d :: ds) S = forL g b ds S2 := by
  show (match g d S with
    | none => none
    | some S1 => match b S1 with
      | some (.nx, S2) => forL g b ds S2
      | some (.ct, S2) => forL g b ds S2
      | some (.bk, S2) => some (.nx, S2)
      | r => r) = _
  rw [h1]
  simp only [h2]
/-- a loop by a word of what is done and what is left -/
theorem forL_inv {g : GM} {b : SM} (P : List D → Sl → Prop) (step : ∀ d ds S, P (d :: ds) S → ∃ S1 S2, g d S = some S1 ∧ b S1 = some (.nx, S2) ∧ P ds S2) : ∀ ds S, P ds S → ∃ S', forL g b ds S = some (.nx, S') ∧ P [] S'
  | [], S, h => ⟨S, rfl, h⟩
  | d :: ds, S, h => by
    obtain ⟨S1, S2, h1, h2, h3⟩ := step d ds S h
    rw [forL_cons h1 h2]
    exact forL_inv P step ds S2 h3
theorem lcL_cons {vs : List Nat} {g : GM} {t : BM} {m : EM} {d : D} {ds acc : List D} {S S1 S2 S3 : Sl} {y : D} (h1 : g d S = some S1) (h2 : t S1 = some (.ok true, S2)) (h3 : m S2 = some (.ok y, S3)) (h4 : acc.length < 1000000) : lcL vs g t m (d :: ds) acc S = lcL vs g t m ds (acc ++ [y]) (wipeS S3 vs) := by
  show (match g d S with
    | none => none
    | some S1 => match t S1 with
      | some (.ok true, S2) => (match m S2 with
        | some (.ok y, S3) => if acc.length < 1000000 then lcL vs g t m ds (acc ++ [y]) (wipeS S3 vs) else none
        | _ => none)
      | some (.ok false, S2) => lcL vs g t m ds acc (wipeS S2 vs)
      | _ => none) = _
  rw [h1]
  simp only [h2, h3, h4, if_true]
/-- a comprehension whose items are told by their sources, the slots untouched -/
theorem lcL_map {vs : List Nat} {g : GM} {m : EM} {S : Sl} (f : D → D) : ∀ (ds acc : List D), (∀ d ∈ ds, ∃ S1 S3, g d S = some S1 ∧ m S1 = some (.ok (f d), S3) ∧ wipeS S3 vs = S) → acc.length + ds.length ≤ 1000000 → lcL vs g tYesD m ds acc S = some (acc ++ ds.map f, S)
  | [], acc, _, _ => by rw [List.map_nil, List.append_nil]; rfl
  | d :: ds, acc, h, hl => by
    obtain ⟨S1, S3, h1, h2, h3⟩ := h d List.mem_cons_self
    simp only [List.length_cons] at hl
    rw [lcL_cons h1 rfl h2 (by omega), h3, lcL_map f ds (acc ++ [f d]) (fun e he => h e (List.mem_cons_of_mem _ he)) (by rw [List.length_append]; simp only [List.length_cons, List.length_nil]; omega), List.append_assoc]
    rfl
theorem mLc_map {vs : List Nat} {am : AM} {g : GM} {m : EM} {S S1 : Sl} {ds : List D} (f : D → D) (h : am S = some (.ok ds, S1)) (hc : calmS S1 vs = true) (hs : ∀ d ∈ ds, ∃ Sa Sb, g d (wipeS S1 vs) = some Sa ∧ m Sa = some (.ok (f d), Sb) ∧ wipeS Sb vs = wipeS S1 vs) (hl : ds.length ≤ 1000000) (hb : backS S1 (wipeS S1 vs) vs = S1) :
    mLc vs am g tYesD m S = some (.ok (.lst .own (ds.map f)), S1) := by
  unfold mLc
  rw [h, bnd_ok, if_pos hc, lcL_map f ds [] hs (by simpa using hl), List.nil_append]
  show some (Except.ok (D.lst .own (ds.map f)), backS S1 (wipeS S1 vs) vs) = _
  rw [hb]
theorem whileN_step {t : BM} {b : SM} {n : Nat} {S S1 S2 : Sl} (h1 : t S = some (.ok true, S1)) (h2 : b S1 = some (.nx, S2)) : whileN t b (n + 1) S = whileN t b n S2 := by
  rw [whileN_succ, h1]
  simp only [h2]
theorem whileN_end {t : BM} {b : SM} {n : Nat} {S S1 : Sl} (h1 : t S = some (.ok false, S1)) : whileN t b (n + 1) S = some (.nx, S1) := by rw [whileN_succ, h1]
theorem whileN_ret {t : BM} {b : SM} {n : Nat} {S S1 S2 : Sl} {d : D} (h1 : t S = some (.ok true, S1)) (h2 : b S1 = some (.ret d, S2)) : whileN t b (n + 1) S = some (.ret d, S2) := by
  rw [whileN_succ, h1]
  simp only [h2]
/-- a while by a word and a measure -/
theorem sWh_inv {t : BM} {b : SM} (P : Nat → Sl → Prop) (R : Sl → Prop) (step : ∀ n S, P n S → (∃ S1, t S = some (.ok false, S1) ∧ R S1) ∨ ∃ S1 S2 m, t S = some (.ok true, S1) ∧ b S1 = some (.nx, S2) ∧ m < n ∧ P m S2) : ∀ n S, P n S → ∃ S', sWh t b S = some (.nx, S') ∧ R S' := by
  have key : ∀ n S, P n S → ∃ k S', whileN t b k S = some (.nx, S') ∧ R S' := by
    intro n
    induction n using Nat.strongRecOn with
    | ind n ih =>
      intro S h
      rcases step n S h with ⟨S1, h1, h2⟩ | ⟨S1, S2, m, h1, h2, h3, h4⟩
      · exact ⟨1, S1, whileN_end h1, h2⟩
      · obtain ⟨k, S', h5, h6⟩ := ih m h3 S2 h4
        exact ⟨k + 1, S', by rw [whileN_step h1 h2]; exact h5, h6⟩
  intro n S h
  obtain ⟨k, S', h1, h2⟩ := key n S h
  exact ⟨S', sWh_of h1, h2⟩
end Fx

set_option maxHeartbeats 2000000
namespace Fx
open PySem PySem.Spec PyProof.Rows L2
theorem rangeD_get {lo c : Int} {n j : Nat} (h : j < n) : (rangeD lo c n)[j]? = some (.int (lo + (j : Int) * c)) := by
  unfold rangeD
  rw [List.getElem?_map, List.getElem?_range h]
  rfl
theorem rangeD_len {lo c : Int} {n : Nat} : (rangeD lo c n).length = n := by simp [rangeD]
/-- over a range, by the turn's number -/
theorem forL_range {g : GM} {b : SM} {lo : Int} {n : Nat} (P : Nat → Sl → Prop) (h : ∀ j S, j < n → P j S → ∃ S1 S2, g (.int (lo + j)) S = some S1 ∧ b S1 = some (.nx, S2) ∧ P (j + 1) S2) {S : Sl} (h0 : P 0 S) :
    ∃ S', forL g b (rangeD lo 1 n) S = some (.nx, S') ∧ P n S' := by
  obtain ⟨S', h1, j, hj, hd, hp⟩ := forL_inv (g := g) (b := b) (fun ds S => ∃ j, j ≤ n ∧ ds = (rangeD lo 1 n).drop j ∧ P j S) (fun d ds S ⟨j, hj, hd, hp⟩ => by
    by_cases hlt : j < n
    · have e := drop_get (rangeD_get (lo := lo) (c := 1) hlt)
      rw [e] at hd
      obtain ⟨rfl, rfl⟩ := List.cons.inj hd
      obtain ⟨S1, S2, q1, q2, q3⟩ := h j S hlt hp
      exact ⟨S1, S2, by rw [Int.mul_one]; exact q1, q2, j + 1, hlt, rfl, q3⟩
    · rw [List.drop_eq_nil_of_le (by rw [rangeD_len]; omega)] at hd
      cases hd) (rangeD lo 1 n) S ⟨0, Nat.zero_le _, by rw [List.drop_zero], h0⟩
  have hl := congrArg List.length hd
  rw [List.length_drop, rangeD_len, List.length_nil] at hl
  have : j = n := by omega
  subst this
  exact ⟨S', h1, hp⟩
/-- over what is made of a list -/
theorem forL_map {α : Type} {g : GM} {b : SM} {f : α → D} (P : List α → Sl → Prop) (h : ∀ x xs S, P (x :: xs) S → ∃ S1 S2, g (f x) S = some S1 ∧ b S1 = some (.nx, S2) ∧ P xs S2) {xs : List α} {S : Sl} (h0 : P xs S) :
    ∃ S', forL g b (xs.map f) S = some (.nx, S') ∧ P [] S' := by
  obtain ⟨S', h1, ys, hy, hp⟩ := forL_inv (g := g) (b := b) (fun ds S => ∃ ys, ds = ys.map f ∧ P ys S) (fun d ds S ⟨ys, hy, hp⟩ => by
    cases ys with
    | nil => cases hy
    | cons y ys =>
      obtain ⟨rfl, rfl⟩ := List.cons.inj hy
      obtain ⟨S1, S2, q1, q2, q3⟩ := h y ys S hp
      exact ⟨S1, S2, q1, q2, ys, rfl, q3⟩) (xs.map f) S ⟨xs, rfl, h0⟩
  cases ys with
  | nil => exact ⟨S', h1, hp⟩
  | cons y ys => cases hy
theorem valD_nil {κ : Type} [DecidableEq κ] {k : κ} : valD ([] : List (κ × D)) k = none := rfl
theorem valD_cons {κ : Type} [DecidableEq κ] {a k : κ} {v : D} {l : List (κ × D)} : valD ((a, v) :: l) k = if a = k then some v else valD l k := by
  unfold valD
  by_cases h : a = k
  · rw [List.find?_cons_of_pos (by simpa using h), if_pos h]
    rfl
  · rw [List.find?_cons_of_neg (by simpa using h), if_neg h]
theorem valD_none {κ : Type} [DecidableEq κ] {k : κ} : ∀ {l : List (κ × D)}, (l.any fun kv => decide (kv.1 = k)) = false → valD l k = none
  | [], _ => rfl
  | (a, v) :: l, h => by
    simp only [List.any_cons, Bool.or_eq_false_iff, decide_eq_false_iff_not] at h
    rw [valD_cons, if_neg h.1, valD_none h.2]
theorem valD_app {κ : Type} [DecidableEq κ] {k : κ} : ∀ {l m : List (κ × D)}, valD (l ++ m) k = match valD l k with | some v => some v | none => valD m k
  | [], m => rfl
  | (a, v) :: l, m => by
    rw [List.cons_append, valD_cons, valD_cons]
    by_cases h : a = k
    · rw [if_pos h, if_pos h]
    · rw [if_neg h, if_neg h, valD_app]
theorem valD_put {κ : Type} [DecidableEq κ] (kvs : List (κ × D)) (k k' : κ) (d : D) : valD (putD kvs k d) k' = if k' = k then some d else valD kvs k' := by
  have key : ∀ l : List (κ × D), valD (l.map fun kv => if kv.1 = k then (kv.1, d) else kv) k' = if k' = k then (if (l.any fun kv => decide (kv.1 = k)) = true then some d else none) else valD l k' := by
    intro l
    induction l with
    | nil => rw [List.map_nil, valD_nil]; split <;> simp
    | cons x l ih =>
      obtain ⟨a, v⟩ := x
      rw [List.map_cons, List.any_cons, valD_cons]
      by_cases h1 : a = k
      · subst h1
        rw [if_pos rfl, valD_cons, ih]
        by_cases h2 : k' = a
        · subst h2; simp
        · rw [if_neg fun z => h2 z.symm, if_neg h2, if_neg h2, if_neg fun z => h2 z.symm]
      · rw [if_neg h1, valD_cons, ih]
        by_cases h2 : k' = k
        · subst h2
          rw [if_pos rfl, if_pos rfl, decide_eq_false h1, Bool.false_or]
          exact if_neg h1
        · rw [if_neg h2, if_neg h2]
  unfold putD
  split
  · rename_i h
    rw [key, h]
    simp
  · rename_i h
    have h : (kvs.any fun kv => decide (kv.1 = k)) = false := Bool.eq_false_iff.mpr h
    rw [valD_app, valD_cons, valD_nil]
    by_cases h2 : k' = k
    · subst h2
      rw [valD_none h, if_pos rfl]
    · rw [if_neg h2, if_neg fun z => h2 z.symm]
      cases valD kvs k' <;> rfl
theorem putD_len {κ : Type} [DecidableEq κ] (kvs : List (κ × D)) (k : κ) (d : D) : (putD kvs k d).length ≤ kvs.length + 1 := by
  unfold putD
  split <;> simp
theorem noOwns_app : ∀ (a b : List D), noOwns (a ++ b) = (noOwns a && noOwns b)
  | [], b => by simp [noOwns]
  | x :: a, b => by simp only [List.cons_append, noOwns, noOwns_app a b, Bool.and_assoc]
theorem noOwnT_put (kvs : List (List Key × D)) (k : List Key) (d : D) (h : noOwnT kvs = true) (hd : noOwn d = true) : noOwnT (putD kvs k d) = true := by
  rw [noOwnT_eq] at h ⊢
  unfold putD
  split
  · have : ∀ l : List (List Key × D), noOwns (l.map (·.2)) = true → noOwns ((l.map fun kv => if kv.1 = k then (kv.1, d) else kv).map (·.2)) = true := by
      intro l
      induction l with
      | nil => intro _; simp [noOwns]
      | cons x l ih =>
        intro hl
        simp only [List.map_cons, noOwns, Bool.and_eq_true] at hl ⊢
        refine ⟨?_, ih hl.2⟩
        split
        · exact hd
        · exact hl.1
    exact this kvs h
  · rw [List.map_append, noOwns_app, h]
    simp [noOwns, hd]
theorem gDx_T {o : Ow} {kvs : List (List Key × D)} {ds : List D} {ks : List Key} {z : D} (hn : noOwnT kvs = true) (hk : keysD ds = some ks) (h : valD kvs ks = some z) : gDx (.dit o kvs) (.tup false ds) = some z := by
  unfold gDx
  have : getD' (.dit o kvs) (.tup false ds) = some (some z) := by
    show (if noOwnT kvs = true then (tkey (.tup false ds)).map fun k => valD kvs k else none) = _
    rw [if_pos hn]
    show (keysD ds).map _ = _
    rw [hk, Option.map_some, h]
  rw [this]
end Fx

set_option maxHeartbeats 2000000
namespace Fx
open PySem PySem.Spec PyProof.Rows L2 He
/-! ### the Hook: names' facts, defs, one more Bool; the interpreter's statics are looked at too -/
def asF (g : Addr → Option Obj) (n : Nat) : List Addr := asD g n ++ [cStatics]
abbrev AlF : Type := AlD × Bool
def obsF (n : Nat) (fa : List Fa) (fn : List DefD) (ex : PySem.W.Frag → Bool) (g : Addr → Option Obj) : AlF := (obsD fa fn (frG g (asF g n)), ex (frG g (asF g n)))
def valF (fn : List DefD) : AlF := (He.valD fn, true)
def hookF (n : Nat) (fa : List Fa) (fn : List DefD) (ex : PySem.W.Frag → Bool) : PySem.W.Hook where
  α := AlF
  obs := fun s => obsF n fa fn ex s.heap.get?
  val := fun _ => valF fn
  says := fun _ h => ∃ K : PySem.W.Frag, K.In h ∧ SaysD fa fn K ∧ ex K = true
  of := fun _ _ e => ⟨_, frG_in, congrArg (fun z : AlF => z.1) e, congrArg (fun z : AlF => z.2) e⟩
  keeps := fun _ _ _ ⟨K, hK, c⟩ k => ⟨K, PySem.W.Frag.In.keeps hK k, c⟩
theorem obsF_eq {n : Nat} {fa : List Fa} {fn : List DefD} {ex : PySem.W.Frag → Bool} {g : Addr → Option Obj} {s : Shared} (h : ∀ a, g a = s.heap.get? a) : obsF n fa fn ex g = (hookF n fa fn ex).obs s := by
  have e : g = s.heap.get? := funext h
  rw [e] <;> rfl
end Fx

namespace Fk07
open PySem PySem.Spec PyProof.Rows L2 Fx
/-! ### mirrors -/
noncomputable def b__law_box : SM := (sRet (mLst (aCons (mCBV 0 gAbs aNil) (aCons (mOp2 gGe (.ev (mCBV 0 gAbs aNil)) (.ev (mOp2 gPow (.ev (mC (.int 10))) (.ev (mC (.int 18)))))) (aCons (mOp2 gMod (.ev (mCB gInt (aCons (mCBV 0 gAbs aNil) aNil))) (.ev (mC (.int 2147483629)))) (aCons (mC (.int 0)) aNil))))))
noncomputable def m__law_box : FM := fnM 1 false b__law_box
theorem u__law_box (x0 : D) : m__law_box [x0] = finM false (b__law_box [some x0]) := rfl
noncomputable def b__law_cell : SM := (sRet (mIf (tVal (mOp2 gLt (.sl 1) (.ev (mCBV 0 gLen aNil)))) (mOp2 gIx (.sl 0) (.sl 1)) (mOp2 gAdd (.ev (mOp2 gMul (.ev (mC (.int 6793))) (.sl 1))) (.ev (mOp2 gMod (.ev (mCB gInt (aCons (mCB gSum (aCons (mSl (mV 0) oNone (oSome (mC (.int 1)))) aNil)) aNil))) (.ev (mC (.int 1000033))))))))
noncomputable def m__law_cell : FM := fnM 2 false b__law_cell
theorem u__law_cell (x0 x1 : D) : m__law_cell [x0, x1] = finM false (b__law_cell [some x0, some x1]) := rfl
noncomputable def b__law_take : SM := (sSeq (sIf (bAnd (tTru2 (.ev (mOp2 gIx (.sl 0) (.ev (mC (.int 1)))))) (tVal (mOp2 gGt (.ev (mOp2 gIx (.sl 0) (.ev (mC (.int 0))))) (.ev (mC (.int 0))))))
 (sSeq (sAs (mOp2 gMod (.ev (mCB gInt (aCons (mOp2 gIx (.sl 0) (.ev (mC (.int 0)))) aNil))) (.sl 1)) (gNm 2)) (sSeq (sAs (mOp2 gDiv (.ev (mOp2 gIx (.sl 0) (.ev (mC (.int 0))))) (.sl 1)) (gSubL 0 (mC (.int 0)))) (sRet (mMv 2))))
 sNx) (sSeq (sAs (mOp2 gAdd (.ev (mOp2 gIx (.sl 0) (.ev (mC (.int 3))))) (.ev (mC (.int 1)))) (gSubL 0 (mC (.int 3)))) (sSeq (sAs (mOp2 gMod (.ev (mCB gInt (aCons (mOp2 gPow (.ev (mOp2 gAdd (.ev (mOp2 gAdd (.ev (mOp2 gIx (.sl 0) (.ev (mC (.int 2))))) (.ev (mOp2 gMul (.ev (mC (.int 15486971))) (.ev (mOp2 gIx (.sl 0) (.ev (mC (.int 3))))))))) (.ev (mC (.int 179425601))))) (.ev (mC (.int 5)))) aNil))) (.ev (mC (.int 2147483647)))) (gNm 3)) (sRet (mOp2 gMod (.ev (mCB gInt (aCons (mOp2 gDiv (.ev (mOp2 gMod (.ev (mCB gInt (aCons (mOp2 gPow (.ev (mOp2 gAdd (.ev (mOp2 gMul (.sl 3) (.ev (mC (.int 48271))))) (.ev (mOp2 gMul (.ev (mC (.int 6793))) (.ev (mOp2 gIx (.sl 0) (.ev (mC (.int 3))))))))) (.ev (mC (.int 3)))) aNil))) (.ev (mC (.int 2147483587))))) (.ev (mC (.int 64)))) aNil))) (.sl 1))))))
noncomputable def m__law_take : FM := fnM 4 true b__law_take
theorem u__law_take (x0 x1 : D) : m__law_take [x0, x1] = finM true (b__law_take [some x0, some x1, none, none]) := rfl
noncomputable def b__law_turned : SM := (sSeq (sAs (mV 0) (gTp (gsCons (gNm 2) (gsCons (gNm 3) (gsCons (gNm 4) gsNil))))) (sRet (mIf (tVal (mOp2 gEqA (.sl 1) (.ev (mC (.str "+"))))) (mTup (aCons (mV 3) (aCons (mV 4) (aCons (mV 2) aNil)))) (mTup (aCons (mV 3) (aCons (mV 2) (aCons (mV 4) aNil)))))))
noncomputable def m__law_turned : FM := fnM 5 false b__law_turned
theorem u__law_turned (x0 x1 : D) : m__law_turned [x0, x1] = finM false (b__law_turned [some x0, some x1, none, none, none]) := rfl
noncomputable def b__law_home : SM := (sSeq (sAs (mTup (aCons (mC (.int 0)) (aCons (mC (.int 1)) (aCons (mC (.int 2)) aNil)))) (gNm 1)) (sSeq (sFor (iVal (mV 0)) (gNm 2)
 (sAs (mCall m__law_turned (aCons (mV 1) (aCons (mV 2) aNil))) (gNm 1))) (sRet (mMv 1))))
noncomputable def m__law_home : FM := fnM 3 false b__law_home
theorem u__law_home (x0 : D) : m__law_home [x0] = finM false (b__law_home [some x0, none, none]) := rfl
noncomputable def b__law_signs : SM := (sSeq (sPar 2 3 (aCons (mCallI 0 m__law_take (aCons (mC (.int 5)) aNil)) (aCons (mCallI 0 m__law_take (aCons (mC (.int 2)) aNil)) aNil))) (sSeq (sIf (tVal (mOp2 gEqA (.sl 2) (.ev (mC (.int 0)))))
 (sRet (mOp2 gMul (.ev (mOp2 gIx (.ev (mC (.str "+-"))) (.sl 3))) (.sl 1)))
 sNx) (sSeq (sAs (mLst aNil) (gNm 4)) (sSeq (sFor (iRng rngD1 (aCons (mV 1) aNil)) (gNm 5)
 (sSeq (sAs (mIf (bOr (tVal (mOp2 gNeA (.sl 2) (.ev (mC (.int 1))))) (tVal (mOp2 gEqA (.ev (mCallI 0 m__law_take (aCons (mC (.int 3)) aNil))) (.ev (mC (.int 0)))))) (mCallI 0 m__law_take (aCons (mC (.int 2)) aNil)) (mV 3)) (gNm 3)) (sEx (mMut 4 fApp (aCons (mOp2 gIx (.ev (mC (.str "+-"))) (.sl 3)) aNil))))) (sSeq (sAs (mJoin (mC (.str "")) (mV 4)) (gNm 6)) (sSeq (sIf (tVal (mOp2 gGt (.sl 2) (.ev (mC (.int 2)))))
 (sFor (iRng rngD1 (aCons (mC (.int 8)) aNil)) (gNm 7)
 (sSeq (sAs (mJoin (mC (.str "")) (mLc [9] (iRng rngD1 (aCons (mC (.int 3)) aNil)) (gNm 9) tYesD (mOp2 gIx (.ev (mC (.str "+-"))) (.ev (mOp2 gAnd (.ev (mCB gInt (aCons (mOp2 gShr (.sl 7) (.sl 9)) aNil))) (.ev (mC (.int 1)))))))) (gNm 8)) (sIf (tVal (mOp2 gEqA (.ev (mCall m__law_home (aCons (mOp2 gAdd (.ev (mSl (mV 6) oNone (oSome (mNeg (mC (.int 3)))))) (.sl 8)) aNil))) (.ev (mTup (aCons (mC (.int 0)) (aCons (mC (.int 1)) (aCons (mC (.int 2)) aNil)))))))
 (sRet (mOp2 gAdd (.ev (mSl (mV 6) oNone (oSome (mNeg (mC (.int 3)))))) (.sl 8)))
 sNx)))
 sNx) (sRet (mMv 6))))))))
noncomputable def m__law_signs : FM := fnM 10 true b__law_signs
theorem u__law_signs (x0 x1 : D) : m__law_signs [x0, x1] = finM true (b__law_signs [some x0, some x1, none, none, none, none, none, none, none, none]) := rfl
noncomputable def b__law_numbers : SM := (sSeq (sAs (mOp2 gMul (.ev (mLst (aCons (mC (.int 1)) aNil))) (.ev (mOp2 gAdd (.ev (mCBV 0 gLen aNil)) (.ev (mC (.int 3)))))) (gNm 1)) (sSeq (sFor (iVal (mV 0)) (gTp (gsCons (gNm 2) (gsCons (gNm 3) gsNil)))
 (sAs (mTup (aCons (mOp2 gAdd (.ev (mOp2 gIx (.sl 1) (.sl 2))) (.ev (mC (.int 1)))) (aCons (mOp2 gAdd (.ev (mOp2 gIx (.sl 1) (.sl 3))) (.ev (mC (.int 1)))) aNil))) (gTp (gsCons (gSubL 1 (mV 2)) (gsCons (gSubL 1 (mV 3)) gsNil))))) (sRet (mMv 1))))
noncomputable def m__law_numbers : FM := fnM 4 false b__law_numbers
theorem u__law_numbers (x0 : D) : m__law_numbers [x0] = finM false (b__law_numbers [some x0, none, none, none]) := rfl
noncomputable def b__law_strip : SM := (sRet (mJoin (mC (.str "")) (mLc [1] (iVal (mCall m__law_numbers (aCons (mV 0) aNil))) (gNm 1) tYesD (mIf (tVal (mOp2 gEqA (.ev (mOp2 gMod (.ev (mCBV 1 gInt aNil)) (.ev (mC (.int 2))))) (.ev (mC (.int 1))))) (mC (.str "+")) (mC (.str "-"))))))
noncomputable def m__law_strip : FM := fnM 2 false b__law_strip
theorem u__law_strip (x0 : D) : m__law_strip [x0] = finM false (b__law_strip [some x0, none]) := rfl
noncomputable def b__law_drawn : SM := (sSeq (sPar3 2 3 4 (aCons (mLst aNil) (aCons (mLst (aCons (mTup (aCons (mC (.int 0)) (aCons (mOp2 gSub (.sl 1) (.ev (mC (.int 1)))) aNil))) aNil)) (aCons (mCallI 0 m__law_take (aCons (mC (.int 4)) aNil)) aNil)))) (sSeq (sWh (tVal (mOp2 gNeA (.sl 3) (.ev (mLst aNil))))
 (sSeq (sAs (mMut 3 fPop aNil) (gTp (gsCons (gNm 5) (gsCons (gNm 6) gsNil)))) (sIf (tVal (mOp2 gGt (.ev (mOp2 gSub (.sl 6) (.sl 5))) (.ev (mC (.int 1)))))
 (sSeq (sAs (mOp2 gAdd (.ev (mOp2 gAdd (.sl 5) (.ev (mC (.int 1))))) (.ev (mOp2 gIx (.ev (mLst (aCons (mCallI 0 m__law_take (aCons (mOp2 gSub (.ev (mOp2 gSub (.sl 6) (.sl 5))) (.ev (mC (.int 1)))) aNil)) (aCons (mC (.int 0)) (aCons (mOp2 gSub (.ev (mOp2 gSub (.sl 6) (.sl 5))) (.ev (mC (.int 2)))) (aCons (mCallI 0 m__law_take (aCons (mOp2 gSub (.ev (mOp2 gSub (.sl 6) (.sl 5))) (.ev (mC (.int 1)))) aNil)) aNil)))))) (.sl 4)))) (gNm 7)) (sSeq (sIf (tVal (mOp2 gGt (.ev (mOp2 gSub (.sl 7) (.sl 5))) (.ev (mC (.int 1)))))
 (sEx (mMut 2 fApp (aCons (mTup (aCons (mV 5) (aCons (mV 7) aNil))) aNil)))
 sNx) (sSeq (sIf (tVal (mOp2 gGt (.ev (mOp2 gSub (.sl 6) (.sl 7))) (.ev (mC (.int 1)))))
 (sEx (mMut 2 fApp (aCons (mTup (aCons (mV 7) (aCons (mV 6) aNil))) aNil)))
 sNx) (sAs (mOp2 gAdd (.sl 3) (.ev (mLst (aCons (mTup (aCons (mV 5) (aCons (mV 7) aNil))) (aCons (mTup (aCons (mV 7) (aCons (mV 6) aNil))) aNil))))) (gNm 3)))))
 sNx))) (sSeq (sAs (mCallI 0 m__law_take (aCons (mV 1) aNil)) (gNm 8)) (sRet (mCB gTuple (aCons (mCB gSorted (aCons (mLc [9, 10] (iVal (mV 2)) (gTp (gsCons (gNm 9) (gsCons (gNm 10) gsNil))) tYesD (mCB gTuple (aCons (mCB gSorted (aCons (mLst (aCons (mOp2 gMod (.ev (mCB gInt (aCons (mOp2 gAdd (.sl 9) (.sl 8)) aNil))) (.sl 1)) (aCons (mOp2 gMod (.ev (mCB gInt (aCons (mOp2 gAdd (.sl 10) (.sl 8)) aNil))) (.sl 1)) aNil))) aNil)) aNil))) aNil)) aNil))))))
noncomputable def m__law_drawn : FM := fnM 11 true b__law_drawn
theorem u__law_drawn (x0 x1 : D) : m__law_drawn [x0, x1] = finM true (b__law_drawn [some x0, some x1, none, none, none, none, none, none, none, none, none]) := rfl
noncomputable def b__law_counted : SM := (sSeq (sPar 1 2 (aCons (mCBV 0 gLen aNil) (aCons (mC (.dit .own [])) aNil))) (sSeq (sAs (mLc [4] (iVal (mV 0)) (gNm 4) tYesD (mCB gInt (aCons (mOp2 gEqA (.sl 4) (.ev (mC (.str "+")))) aNil))) (gNm 3)) (sSeq (sFor (iRng rngD2 (aCons (mC (.int 1)) (aCons (mV 1) aNil))) (gNm 5)
 (sFor (iRng rngD1 (aCons (mOp2 gSub (.sl 1) (.sl 5)) aNil)) (gNm 6)
 (sSeq (sPar 7 8 (aCons (mOp2 gAdd (.sl 6) (.sl 5)) (aCons (mC (.dit .own [])) aNil))) (sSeq (sIf (tVal (mOp2 gEqA (.sl 5) (.ev (mC (.int 1)))))
 (sAs (mC (.int 1)) (gSubT 8 (mTup (aCons (mC (.int 0)) (aCons (mC (.int 0)) aNil)))))
 sNx) (sSeq (sFor (iRng rngD2 (aCons (mOp2 gAdd (.sl 6) (.ev (mC (.int 1)))) (aCons (mV 7) aNil))) (gNm 9)
 (sFor (iVal (mCB gList (aCons (mOp2 gDx (.sl 2) (.ev (mTup (aCons (mV 6) (aCons (mV 9) aNil))))) aNil))) (gNm 10)
 (sFor (iVal (mCB gList (aCons (mOp2 gDx (.sl 2) (.ev (mTup (aCons (mV 9) (aCons (mV 7) aNil))))) aNil))) (gNm 11)
 (sIf (tVal (mOp2 gEqA (.ev (mOp2 gMod (.ev (mCB gInt (aCons (mOp2 gAdd (.ev (mOp2 gAdd (.ev (mOp2 gIx (.sl 10) (.ev (mC (.int 1))))) (.ev (mOp2 gIx (.sl 11) (.ev (mC (.int 0))))))) (.ev (mC (.int 1)))) aNil))) (.ev (mC (.int 2))))) (.ev (mOp2 gIx (.sl 3) (.sl 9)))))
 (sSeq (sAs (mTup (aCons (mOp2 gSub (.ev (mC (.int 1))) (.ev (mOp2 gIx (.sl 10) (.ev (mC (.int 0)))))) (aCons (mOp2 gSub (.ev (mC (.int 1))) (.ev (mOp2 gIx (.sl 11) (.ev (mC (.int 1)))))) aNil))) (gNm 12)) (sAs (mOp2 gAdd (.ev (mGet2 (.sl 8) (mV 12) (mC (.int 0)))) (.ev (mOp2 gMul (.ev (mOp2 gDx (.ev (mOp2 gDx (.sl 2) (.ev (mTup (aCons (mV 6) (aCons (mV 9) aNil)))))) (.sl 10))) (.ev (mOp2 gDx (.ev (mOp2 gDx (.sl 2) (.ev (mTup (aCons (mV 9) (aCons (mV 7) aNil)))))) (.sl 11)))))) (gSubT 8 (mV 12))))
 sNx)))) (sAs (mV 8) (gSubT 2 (mTup (aCons (mV 6) (aCons (mV 7) aNil)))))))))) (sRet (mGet2 (.ev (mOp2 gDx (.sl 2) (.ev (mTup (aCons (mC (.int 0)) (aCons (mOp2 gSub (.sl 1) (.ev (mC (.int 1)))) aNil)))))) (mTup (aCons (mOp2 gIx (.sl 3) (.ev (mC (.int 0)))) (aCons (mOp2 gIx (.sl 3) (.ev (mNeg (mC (.int 1))))) aNil))) (mC (.int 0)))))))
noncomputable def m__law_counted : FM := fnM 13 false b__law_counted
theorem u__law_counted (x0 : D) : m__law_counted [x0] = finM false (b__law_counted [some x0, none, none, none, none, none, none, none, none, none, none, none, none]) := rfl
noncomputable def b__law_like : SM := (sSeq (sAs (mLst (aCons (mTup (aCons (mV 0) (aCons (mV 1) aNil))) aNil)) (gNm 2)) (sSeq (sWh (tVal (mOp2 gNeA (.sl 2) (.ev (mLst aNil))))
 (sSeq (sAs (mMut 2 fPop aNil) (gTp (gsCons (gNm 3) (gsCons (gNm 4) gsNil)))) (sIf (bOr (tVal (mOp2 (gIs fun b => b) (.sl 4) (.ev (mC .non)))) (tTru2 (.ev (mCBV 4 gIsi (aCons (mC (.ty "bool")) aNil)))))
 (sIf (bNot (bIf (tVal (mOp2 (gIs fun b => b) (.sl 4) (.ev (mC .non)))) (tVal (mOp2 (gIs fun b => b) (.sl 3) (.ev (mC .non)))) (bIf (tTru2 (.sl 4)) (tVal (mOp2 (gIs fun b => b) (.sl 3) (.ev (mC (.bl true))))) (tVal (mOp2 (gIs fun b => b) (.sl 3) (.ev (mC (.bl false))))))))
 (sRet (mC (.bl false)))
 sNx)
 (sIf (tTru2 (.ev (mCBV 4 gIsi (aCons (mC (.ty "int")) aNil))))
 (sIf (bOr (bNot (tTru2 (.ev (mCBV 3 gIsi (aCons (mC (.ty "int")) aNil))))) (bOr (tTru2 (.ev (mCBV 3 gIsi (aCons (mC (.ty "bool")) aNil)))) (tVal (mOp2 gNeA (.sl 3) (.sl 4)))))
 (sRet (mC (.bl false)))
 sNx)
 (sIf (tTru2 (.ev (mCBV 4 gIsi (aCons (mC (.ty "str")) aNil))))
 (sIf (bOr (bNot (tTru2 (.ev (mCBV 3 gIsi (aCons (mC (.ty "str")) aNil))))) (tVal (mOp2 gNeA (.sl 3) (.sl 4))))
 (sRet (mC (.bl false)))
 sNx)
 (sIf (tTru2 (.ev (mCBV 4 gIsi (aCons (mC (.ty "dict")) aNil))))
 (sSeq (sIf (bOr (bNot (tTru2 (.ev (mCBV 3 gIsi (aCons (mC (.ty "dict")) aNil))))) (tVal (mOp2 gNeA (.ev (mCBV 3 gLen aNil)) (.ev (mCBV 4 gLen aNil)))))
 (sRet (mC (.bl false)))
 sNx) (sFor (iVal (mCBV 4 gList aNil)) (gNm 5)
 sNo))
 (sSeq (sIf (bOr (bNot (tTru2 (.ev (mCBV 4 gIsi (aCons (mTup (aCons (mC (.ty "list")) (aCons (mC (.ty "tuple")) aNil))) aNil))))) (bOr (bNot (tTru2 (.ev (mCBV 3 gIsi (aCons (mTup (aCons (mC (.ty "list")) (aCons (mC (.ty "tuple")) aNil))) aNil))))) (bOr (tVal (mOp2 gNeA (.ev (mCBV 3 gIsi (aCons (mC (.ty "list")) aNil))) (.ev (mCBV 4 gIsi (aCons (mC (.ty "list")) aNil))))) (tVal (mOp2 gNeA (.ev (mCBV 3 gLen aNil)) (.ev (mCBV 4 gLen aNil)))))))
 (sRet (mC (.bl false)))
 sNx) (sAs (mOp2 gAdd (.sl 2) (.ev (mLc [6] (iRng rngD1 (aCons (mCBV 4 gLen aNil) aNil)) (gNm 6) tYesD (mTup (aCons (mOp2 gIx (.sl 3) (.sl 6)) (aCons (mOp2 gIx (.sl 4) (.sl 6)) aNil)))))) (gNm 2))))))))) (sRet (mC (.bl true)))))
noncomputable def m__law_like : FM := fnM 7 false b__law_like
theorem u__law_like (x0 x1 : D) : m__law_like [x0, x1] = finM false (b__law_like [some x0, some x1, none, none, none, none, none]) := rfl
noncomputable def b_is_strip : SM := (sSeq (sIf (bOr (bNot (tTru2 (.ev (mCBV 0 gIsi (aCons (mC (.ty "str")) aNil))))) (bNot (tVal (mCh (mC (.int 3)) (cLink gLe (mCBV 0 gLen aNil) (cLast gLe (mC (.int 24))))))))
 (sRet (mC (.bl false)))
 sNx) (sRet (mCB gAll (aCons (mLc [1] (iVal (mV 0)) (gNm 1) tYesD (mOp2 (gIn fun b => b) (.sl 1) (.ev (mC (.tup true ([V.str "+", V.str "-"].map dOfV)))))) aNil))))
noncomputable def m_is_strip : FM := fnM 2 false b_is_strip
theorem u_is_strip (x0 : D) : m_is_strip [x0] = finM false (b_is_strip [some x0, none]) := rfl
noncomputable def b_check_strip : SM := (sIf (bNot (tTru2 (.ev (mCall m_is_strip (aCons (mV 0) aNil)))))
 (sRaise "InvalidStrip" "given" (mV 0))
 sNx)
noncomputable def m_check_strip : FM := fnM 1 false b_check_strip
theorem u_check_strip (x0 : D) : m_check_strip [x0] = finM false (b_check_strip [some x0]) := rfl
noncomputable def b_turned_by : SM := (sSeq (sAs (mV 0) (gTp (gsCons (gNm 2) (gsCons (gNm 3) (gsCons (gNm 4) gsNil))))) (sRet (mIf (tVal (mOp2 gEqA (.sl 1) (.ev (mC (.str "+"))))) (mTup (aCons (mV 3) (aCons (mV 4) (aCons (mV 2) aNil)))) (mTup (aCons (mV 3) (aCons (mV 2) (aCons (mV 4) aNil)))))))
noncomputable def m_turned_by : FM := fnM 5 false b_turned_by
theorem u_turned_by (x0 x1 : D) : m_turned_by [x0, x1] = finM false (b_turned_by [some x0, some x1, none, none, none]) := rfl
noncomputable def b_walk_of : SM := (sSeq (sAs (mLst (aCons (mC (.tup true ([V.int 0, V.int 1, V.int 2].map dOfV))) aNil)) (gNm 1)) (sSeq (sFor (iVal (mV 0)) (gNm 2)
 (sEx (mMut 1 fApp (aCons (mCall m_turned_by (aCons (mOp2 gIx (.sl 1) (.ev (mNeg (mC (.int 1))))) (aCons (mV 2) aNil))) aNil)))) (sRet (mMv 1))))
noncomputable def m_walk_of : FM := fnM 3 false b_walk_of
theorem u_walk_of (x0 : D) : m_walk_of [x0] = finM false (b_walk_of [some x0, none, none]) := rfl
noncomputable def b_last_corners : SM := (sRet (mOp2 gIx (.ev (mCall m_walk_of (aCons (mV 0) aNil))) (.ev (mNeg (mC (.int 1))))))
noncomputable def m_last_corners : FM := fnM 1 false b_last_corners
theorem u_last_corners (x0 : D) : m_last_corners [x0] = finM false (b_last_corners [some x0]) := rfl
noncomputable def b_folds_of : SM := (sRet (mAndV (mOp2 gEqA (.ev (mCall m_last_corners (aCons (mV 0) aNil))) (.ev (mC (.tup true ([V.int 0, V.int 1, V.int 2].map dOfV))))) (mOp2 (gIn fun b => b) (.ev (mC (.str "+"))) (.sl 0))))
noncomputable def m_folds_of : FM := fnM 1 false b_folds_of
theorem u_folds_of (x0 : D) : m_folds_of [x0] = finM false (b_folds_of [some x0]) := rfl
noncomputable def b_folds : SM := (sSeq (sEx (mCall m_check_strip (aCons (mV 0) aNil))) (sRet (mCall m_folds_of (aCons (mV 0) aNil))))
noncomputable def m_folds : FM := fnM 1 false b_folds
theorem u_folds (x0 : D) : m_folds [x0] = finM false (b_folds [some x0]) := rfl
noncomputable def b_why_not : SM := (sSeq (sEx (mCall m_check_strip (aCons (mV 0) aNil))) (sSeq (sAs (mCall m_last_corners (aCons (mV 0) aNil)) (gNm 1)) (sSeq (sIf (tVal (mOp2 gNeA (.sl 1) (.ev (mC (.tup true ([V.int 0, V.int 1, V.int 2].map dOfV))))))
 (sRet (mTup (aCons (mC (.str "away")) (aCons (mV 1) aNil))))
 sNx) (sRet (mIf (tVal (mOp2 (gIn fun b => b) (.ev (mC (.str "+"))) (.sl 0))) (mC .non) (mTup (aCons (mC (.str "bent")) (aCons (mCBV 0 gLen aNil) aNil))))))))
noncomputable def m_why_not : FM := fnM 2 false b_why_not
theorem u_why_not (x0 : D) : m_why_not [x0] = finM false (b_why_not [some x0, none]) := rfl
noncomputable def b__law_call : SM := (sTry1 3 "InvalidStrip" [.inl "strip", .inr "given"] (sSeq (sIf (tVal (mOp2 gEqA (.sl 0) (.ev (mC (.int 0)))))
 (sRet (mLst (aCons (mC (.str "told")) (aCons (mIf (tVal (mOp2 gEqA (.sl 2) (.ev (mC (.int 0))))) (mCall m_folds (aCons (mV 1) aNil)) (mCall m_folds (aCons (mV 1) aNil))) aNil))))
 sNx) (sRet (mLst (aCons (mC (.str "told")) (aCons (mIf (tVal (mOp2 gEqA (.sl 2) (.ev (mC (.int 0))))) (mCall m_why_not (aCons (mV 1) aNil)) (mCall m_why_not (aCons (mV 1) aNil))) aNil))))))
noncomputable def m__law_call : FM := fnM 4 false b__law_call
theorem u__law_call (x0 x1 x2 : D) : m__law_call [x0, x1, x2] = finM false (b__law_call [some x0, some x1, some x2, none]) := rfl
noncomputable def b__law_right : SM := (sSeq (sPar 2 3 (aCons (mCall m__law_home (aCons (mV 0) aNil)) (aCons (mOp2 gGt (.ev (mCall m__law_counted (aCons (mV 0) aNil))) (.ev (mC (.int 0)))) aNil))) (sSeq (sIf (tVal (mOp2 gNeA (.sl 3) (.ev (mAndV (mOp2 gEqA (.sl 2) (.ev (mTup (aCons (mC (.int 0)) (aCons (mC (.int 1)) (aCons (mC (.int 2)) aNil)))))) (mOp2 (gIn fun b => b) (.ev (mC (.str "+"))) (.sl 0))))))
 (sRet (mC (.bl false)))
 sNx) (sSeq (sAs (mIf (tTru2 (.sl 3)) (mC .non) (mIf (tVal (mOp2 gNeA (.sl 2) (.ev (mTup (aCons (mC (.int 0)) (aCons (mC (.int 1)) (aCons (mC (.int 2)) aNil))))))) (mTup (aCons (mC (.str "away")) (aCons (mV 2) aNil))) (mTup (aCons (mC (.str "bent")) (aCons (mCBV 0 gLen aNil) aNil))))) (gNm 4)) (sRet (mCall m__law_like (aCons (mLst (aCons (mCall m__law_call (aCons (mC (.int 0)) (aCons (mV 0) (aCons (mV 1) aNil)))) (aCons (mCall m__law_call (aCons (mC (.int 1)) (aCons (mV 0) (aCons (mOp2 gSub (.ev (mC (.int 1))) (.sl 1)) aNil)))) (aCons (mCall m__law_call (aCons (mC (.int 1)) (aCons (mV 0) (aCons (mV 1) aNil)))) aNil)))) (aCons (mLst (aCons (mLst (aCons (mC (.str "told")) (aCons (mV 3) aNil))) (aCons (mLst (aCons (mC (.str "told")) (aCons (mV 4) aNil))) (aCons (mLst (aCons (mC (.str "told")) (aCons (mV 4) aNil))) aNil)))) aNil)))))))
noncomputable def m__law_right : FM := fnM 5 false b__law_right
theorem u__law_right (x0 x1 : D) : m__law_right [x0, x1] = finM false (b__law_right [some x0, some x1, none, none, none]) := rfl
noncomputable def b_law : SM := (sSeq (sAs (mOp2 gEqA (.ev (mOp2 gMod (.ev (mCB gInt (aCons (mCB gSum (aCons (mSl (mV 0) oNone (oSome (mC (.int 1)))) aNil)) aNil))) (.ev (mC (.int 4))))) (.ev (mC (.int 2)))) (gNm 1)) (sSeq (sFor (iRng rngD1 (aCons (mCB gMax2 (aCons (mC (.int 2)) (aCons (mCB gMin2 (aCons (mC (.int 3)) (aCons (mCBV 0 gLen aNil) aNil))) aNil))) aNil)) (gNm 2)
 (sSeq (sAs (mCall m__law_box (aCons (mCall m__law_cell (aCons (mV 0) (aCons (mV 2) aNil))) aNil)) (gNm 3)) (sSeq (sAs (mCallI 3 m__law_take (aCons (mC (.int 2)) aNil)) (gNm 4)) (sSeq (sFor (iRng rngD1 (aCons (mC (.int 5)) aNil)) (gNm 5)
 (sSeq (sAs (mOp2 gIx (.ev (mLst (aCons (mC (.int 3)) (aCons (mC (.int 4)) (aCons (mC (.int 5)) (aCons (mC (.int 6)) (aCons (mC (.int 7)) (aCons (mC (.int 8)) (aCons (mC (.int 10)) (aCons (mC (.int 13)) (aCons (mC (.int 16)) (aCons (mC (.int 24)) aNil)))))))))))) (.ev (mCallI 3 m__law_take (aCons (mC (.int 10)) aNil)))) (gNm 6)) (sSeq (sAs (mIf (tVal (mOp2 gLt (.sl 5) (.ev (mC (.int 3))))) (mCallI 3 m__law_signs (aCons (mV 6) aNil)) (mCall m__law_strip (aCons (mCallI 3 m__law_drawn (aCons (mV 6) aNil)) aNil))) (gNm 7)) (sSeq (sIf (tVal (mOp2 gEqA (.sl 5) (.ev (mC (.int 4)))))
 (sSeq (sAs (mCallI 3 m__law_take (aCons (mV 6) aNil)) (gNm 8)) (sAs (mOp2 gAdd (.ev (mOp2 gAdd (.ev (mSl (mV 7) oNone (oSome (mV 8)))) (.ev (mIf (tVal (mOp2 gEqA (.ev (mOp2 gIx (.sl 7) (.sl 8))) (.ev (mC (.str "+"))))) (mC (.str "-")) (mC (.str "+")))))) (.ev (mSl (mV 7) (oSome (mOp2 gAdd (.sl 8) (.ev (mC (.int 1))))) oNone))) (gNm 7)))
 sNx) (sSeq (sIf (bNot (tTru2 (.ev (mCall m__law_right (aCons (mV 7) (aCons (mOp2 gMod (.ev (mCB gInt (aCons (mOp2 gAdd (.sl 4) (.sl 5)) aNil))) (.ev (mC (.int 2)))) aNil))))))
 (sRet (mC (.bl false)))
 sNx) (sSeq (sAs (mCallI 3 m__law_take (aCons (mV 6) aNil)) (gNm 8)) (sIf (bOr (bNot (tTru2 (.ev (mCall m__law_right (aCons (mOp2 gAdd (.ev (mSl (mV 7) (oSome (mV 8)) oNone)) (.ev (mSl (mV 7) oNone (oSome (mV 8))))) (aCons (mV 4) aNil)))))) (bNot (tTru2 (.ev (mCall m__law_right (aCons (mRevS (mV 7)) (aCons (mOp2 gSub (.ev (mC (.int 1))) (.sl 4)) aNil)))))))
 (sRet (mC (.bl false)))
 sNx))))))) (sSeq (sIf (bAnd (tTru2 (.sl 1)) (tVal (mOp2 gEqA (.sl 2) (.ev (mC (.int 0))))))
 (sFor (iVal (mFz (mLst (aCons (mC (.int 3)) (aCons (mC (.int 4)) (aCons (mC (.int 5)) (aCons (mC (.int 6)) (aCons (mC (.int 7)) aNil)))))))) (gNm 6)
 (sFor (iRng rngD1 (aCons (mOp2 gShl (.ev (mC (.int 1))) (.sl 6)) aNil)) (gNm 9)
 (sIf (bNot (tTru2 (.ev (mCall m__law_right (aCons (mJoin (mC (.str "")) (mLc [10] (iRng rngD1 (aCons (mV 6) aNil)) (gNm 10) tYesD (mOp2 gIx (.ev (mC (.str "+-"))) (.ev (mOp2 gAnd (.ev (mCB gInt (aCons (mOp2 gShr (.sl 9) (.sl 10)) aNil))) (.ev (mC (.int 1)))))))) (aCons (mOp2 gMod (.ev (mCBV 9 gInt aNil)) (.ev (mC (.int 2)))) aNil))))))
 (sRet (mC (.bl false)))
 sNx)))
 sNx) (sFor (iVal (mFz (mLst (aCons (mC .non) (aCons (mC (.str "")) (aCons (mC (.str "++")) (aCons (mOp2 gMul (.ev (mC (.str "+"))) (.ev (mC (.int 25)))) (aCons (mC (.str "+ +")) (aCons (mCBV 7 gList aNil) (aCons (mCBV 7 gTuple aNil) (aCons (mC (.int 5)) (aCons (mC (.bl true)) (aCons (mC (.dit .own [])) (aCons (mOp2 gAdd (.sl 7) (.ev (mC (.str "\n")))) (aCons (mC (.str "+-*")) aNil))))))))))))))) (gNm 11)
 (sIf (bNot (tTru2 (.ev (mCall m__law_like (aCons (mLst (aCons (mCall m__law_call (aCons (mC (.int 0)) (aCons (mV 11) (aCons (mV 4) aNil)))) (aCons (mCall m__law_call (aCons (mC (.int 1)) (aCons (mV 11) (aCons (mOp2 gSub (.ev (mC (.int 1))) (.sl 4)) aNil)))) aNil))) (aCons (mLst (aCons (mLst (aCons (mC (.str "strip")) (aCons (mV 11) aNil))) (aCons (mLst (aCons (mC (.str "strip")) (aCons (mV 11) aNil))) aNil))) aNil))))))
 (sRet (mC (.bl false)))
 sNx))))))) (sRet (mC (.bl true)))))
noncomputable def m_law : FM := fnM 12 false b_law
theorem u_law (x0 : D) : m_law [x0] = finM false (b_law [some x0, none, none, none, none, none, none, none, none, none, none, none]) := rfl
end Fk07

set_option maxHeartbeats 0
namespace Fk07
open PySem PySem.Spec PyProof.Rows L2 Fx
abbrev L : PySem.W.OpenLaw := PySem.Challenge.rw_flexhouse_k07_whole_which_strips_fold
def top (i : Nat) : Stmt := L.prog.main.body.getD i (.Pass ⟨0, 0, 0, 0⟩)
/-! ### names, scopes -/
abbrev N__law_box : List Str := ["great"]
abbrev P__law_box : List Str := ["great"]
theorem sc__law_box : FnScope N__law_box P__law_box (defScope (top 25)) := ⟨rfl, rfl, rfl, by decide +kernel, rfl, by decide +kernel, by decide +kernel⟩
abbrev N__law_cell : List Str := ["script", "k"]
abbrev P__law_cell : List Str := ["script", "k"]
theorem sc__law_cell : FnScope N__law_cell P__law_cell (defScope (top 24)) := ⟨rfl, rfl, rfl, by decide +kernel, rfl, by decide +kernel, by decide +kernel⟩
abbrev N__law_take : List Str := ["box", "many", "digit", "mixed"]
abbrev P__law_take : List Str := ["box", "many"]
theorem sc__law_take : FnScope N__law_take P__law_take (defScope (top 26)) := ⟨rfl, rfl, rfl, by decide +kernel, rfl, by decide +kernel, by decide +kernel⟩
abbrev N__law_turned : List Str := ["corners", "sign", "a", "b", "c"]
abbrev P__law_turned : List Str := ["corners", "sign"]
theorem sc__law_turned : FnScope N__law_turned P__law_turned (defScope (top 32)) := ⟨rfl, rfl, rfl, by decide +kernel, rfl, by decide +kernel, by decide +kernel⟩
abbrev N__law_home : List Str := ["strip", "found", "sign"]
abbrev P__law_home : List Str := ["strip"]
theorem sc__law_home : FnScope N__law_home P__law_home (defScope (top 33)) := ⟨rfl, rfl, rfl, by decide +kernel, rfl, by decide +kernel, by decide +kernel⟩
abbrev N__law_signs : List Str := ["box", "many", "way", "last", "signs", "turn", "strip", "number", "end", "k"]
abbrev P__law_signs : List Str := ["box", "many"]
theorem sc__law_signs : FnScope N__law_signs P__law_signs (defScope (top 34)) := ⟨rfl, rfl, rfl, by decide +kernel, rfl, by decide +kernel, by decide +kernel⟩
abbrev N__law_numbers : List Str := ["flexagon", "found", "one", "other"]
abbrev P__law_numbers : List Str := ["flexagon"]
theorem sc__law_numbers : FnScope N__law_numbers P__law_numbers (defScope (top 29)) := ⟨rfl, rfl, rfl, by decide +kernel, rfl, by decide +kernel, by decide +kernel⟩
abbrev N__law_strip : List Str := ["flexagon", "number"]
abbrev P__law_strip : List Str := ["flexagon"]
theorem sc__law_strip : FnScope N__law_strip P__law_strip (defScope (top 30)) := ⟨rfl, rfl, rfl, by decide +kernel, rfl, by decide +kernel, by decide +kernel⟩
abbrev N__law_drawn : List Str := ["box", "many", "found", "todo", "way", "low", "high", "middle", "turn", "one", "other"]
abbrev P__law_drawn : List Str := ["box", "many"]
theorem sc__law_drawn : FnScope N__law_drawn P__law_drawn (defScope (top 28)) := ⟨rfl, rfl, rfl, by decide +kernel, rfl, by decide +kernel, by decide +kernel⟩
abbrev N__law_counted : List Str := ["strip", "many", "known", "odd", "sign", "size", "low", "high", "found", "middle", "one", "other", "key"]
abbrev P__law_counted : List Str := ["strip"]
theorem sc__law_counted : FnScope N__law_counted P__law_counted (defScope (top 31)) := ⟨rfl, rfl, rfl, by decide +kernel, rfl, by decide +kernel, by decide +kernel⟩
abbrev N__law_like : List Str := ["value", "due", "todo", "one", "two", "key", "k"]
abbrev P__law_like : List Str := ["value", "due"]
theorem sc__law_like : FnScope N__law_like P__law_like (defScope (top 27)) := ⟨rfl, rfl, rfl, by decide +kernel, rfl, by decide +kernel, by decide +kernel⟩
abbrev N_is_strip : List Str := ["value", "sign"]
abbrev P_is_strip : List Str := ["value"]
theorem sc_is_strip : FnScope N_is_strip P_is_strip (defScope (top 9)) := ⟨rfl, rfl, rfl, by decide +kernel, rfl, by decide +kernel, by decide +kernel⟩
abbrev N_check_strip : List Str := ["strip"]
abbrev P_check_strip : List Str := ["strip"]
theorem sc_check_strip : FnScope N_check_strip P_check_strip (defScope (top 10)) := ⟨rfl, rfl, rfl, by decide +kernel, rfl, by decide +kernel, by decide +kernel⟩
abbrev N_turned_by : List Str := ["corners", "sign", "first", "second", "third"]
abbrev P_turned_by : List Str := ["corners", "sign"]
theorem sc_turned_by : FnScope N_turned_by P_turned_by (defScope (top 14)) := ⟨rfl, rfl, rfl, by decide +kernel, rfl, by decide +kernel, by decide +kernel⟩
abbrev N_walk_of : List Str := ["strip", "found", "sign"]
abbrev P_walk_of : List Str := ["strip"]
theorem sc_walk_of : FnScope N_walk_of P_walk_of (defScope (top 15)) := ⟨rfl, rfl, rfl, by decide +kernel, rfl, by decide +kernel, by decide +kernel⟩
abbrev N_last_corners : List Str := ["strip"]
abbrev P_last_corners : List Str := ["strip"]
theorem sc_last_corners : FnScope N_last_corners P_last_corners (defScope (top 16)) := ⟨rfl, rfl, rfl, by decide +kernel, rfl, by decide +kernel, by decide +kernel⟩
abbrev N_folds_of : List Str := ["strip"]
abbrev P_folds_of : List Str := ["strip"]
theorem sc_folds_of : FnScope N_folds_of P_folds_of (defScope (top 20)) := ⟨rfl, rfl, rfl, by decide +kernel, rfl, by decide +kernel, by decide +kernel⟩
abbrev N_folds : List Str := ["strip"]
abbrev P_folds : List Str := ["strip"]
theorem sc_folds : FnScope N_folds P_folds (defScope (top 21)) := ⟨rfl, rfl, rfl, by decide +kernel, rfl, by decide +kernel, by decide +kernel⟩
abbrev N_why_not : List Str := ["strip", "corners"]
abbrev P_why_not : List Str := ["strip"]
theorem sc_why_not : FnScope N_why_not P_why_not (defScope (top 22)) := ⟨rfl, rfl, rfl, by decide +kernel, rfl, by decide +kernel, by decide +kernel⟩
abbrev N__law_call : List Str := ["which", "strip", "named", "e"]
abbrev P__law_call : List Str := ["which", "strip", "named"]
theorem sc__law_call : FnScope N__law_call P__law_call (defScope (top 35)) := ⟨rfl, rfl, rfl, by decide +kernel, rfl, by decide +kernel, by decide +kernel⟩
abbrev N__law_right : List Str := ["strip", "named", "corners", "right", "due"]
abbrev P__law_right : List Str := ["strip", "named"]
theorem sc__law_right : FnScope N__law_right P__law_right (defScope (top 36)) := ⟨rfl, rfl, rfl, by decide +kernel, rfl, by decide +kernel, by decide +kernel⟩
abbrev N_law : List Str := ["script", "great", "k", "box", "named", "turn", "many", "strip", "at", "number", "j", "value"]
abbrev P_law : List Str := ["script"]
theorem sc_law : FnScope N_law P_law (defScope (top 37)) := ⟨rfl, rfl, rfl, by decide +kernel, rfl, by decide +kernel, by decide +kernel⟩
/-! ### what of the module they use -/
structure En (K : PySem.W.Frag) (mg : Str → Option Value) : Prop where
  m_abs : mg "abs" = none
  m_int : mg "int" = none
  m_len : mg "len" = none
  m_sum : mg "sum" = none
  m_range : mg "range" = none
  m_tuple : mg "tuple" = none
  m_sorted : mg "sorted" = none
  m_list : mg "list" = none
  m_isinstance : mg "isinstance" = none
  m_bool : mg "bool" = none
  m_str : mg "str" = none
  m_dict : mg "dict" = none
  g_LEAST_FACES : Glo K mg "LEAST_FACES" (.int 3)
  g_MOST_FACES : Glo K mg "MOST_FACES" (.int 24)
  m_all : mg "all" = none
  g_SIGNS : Glo K mg "SIGNS" (.tup true ([V.str "+", V.str "-"].map dOfV))
  g_STRAIGHT : Glo K mg "STRAIGHT" (.str "+")
  g_HOME : Glo K mg "HOME" (.tup true ([V.int 0, V.int 1, V.int 2].map dOfV))
  g_AWAY : Glo K mg "AWAY" (.str "away")
  g_BENT : Glo K mg "BENT" (.str "bent")
  m_max : mg "max" = none
  m_min : mg "min" = none
structure ErD (P : Program) (w : World) (K : PySem.W.Frag) (mg : Str → Option Value) (base : Heap) (x : Str) (f : Str) (C fI : Addr) (fd : FuncData) (ps : List Str) : Prop where
  m : mg x = some (.ref C)
  T : ErrK K C fI [f]
  F : FnOk P w K mg base (L2.CX P w) 1 fI fd ps (spIni K C f)
  b : Binds K fd ps []
section
variable {P : Program} {w : World} {K : PySem.W.Frag} {mg : Str → Option Value} {base : Heap}
theorem ok__law_box {f : Addr} {fd : FuncData} (N : En K mg)  (F : FunD K "_law_box" "_law_box" (defArgs (top 25)) (defBody (top 25)) (defScope (top 25)) [] [] f fd) (hm : mg "_law_box" = some (.ref f)) : CalD P w K mg base "_law_box" (top 25) P__law_box 1 m__law_box f fd where
  m := hm
  F := F
  b := F.bindsN fun _ _ _ _ _ _ us hl => match us, hl with | [_], _ => rfl
  G := okD (k := 0) (io := false) (N := N__law_box) (b := b__law_box) F sc__law_box (by decide) fun cdv A outer s H E hr => (pss_oneD (ps_retD (pd_lst (pa_consD (pd_callBV cd_abs N.m_abs (by decide +kernel) (pv 0) pa_nilD) (pa_consD (pd_cmp2 od_ge (po_ev (pd_callBV cd_abs N.m_abs (by decide +kernel) (pv 0) pa_nilD)) (po_ev (pd_op2 od_pow (po_ev pd_int) (po_ev pd_int))) (nomark _)) (pa_consD (pd_op2 od_mod (po_ev (pd_callTy cd_int N.m_int (by decide +kernel) (pa_consD (pd_callBV cd_abs N.m_abs (by decide +kernel) (pv 0) pa_nilD) pa_nilD))) (po_ev pd_int)) (pa_consD pd_int pa_nilD)))))))
theorem ok__law_cell {f : Addr} {fd : FuncData} (N : En K mg)  (F : FunD K "_law_cell" "_law_cell" (defArgs (top 24)) (defBody (top 24)) (defScope (top 24)) [] [] f fd) (hm : mg "_law_cell" = some (.ref f)) : CalD P w K mg base "_law_cell" (top 24) P__law_cell 1 m__law_cell f fd where
  m := hm
  F := F
  b := F.bindsN fun _ _ _ _ _ _ us hl => match us, hl with | [_, _], _ => rfl
  G := okD (k := 0) (io := false) (N := N__law_cell) (b := b__law_cell) F sc__law_cell (by decide) fun cdv A outer s H E hr => (pss_oneD (ps_retD (pd_ifExp (pt_cmp2 (od_lt (hu65 hr)) (po_sl (pv 1)) (po_ev (pd_callBV cd_len N.m_len (by decide +kernel) (pv 0) pa_nilD)) (nomark _)) (pd_ix2 ix_seqD (po_sl (pv 0)) (po_sl (pv 1))) (pd_op2 od_add (po_ev (pd_op2 od_mul (po_ev pd_int) (po_sl (pv 1)))) (po_ev (pd_op2 od_mod (po_ev (pd_callTy cd_int N.m_int (by decide +kernel) (pa_consD (pd_callB (cd_sum rfl (cr_sum rfl)) N.m_sum (by decide +kernel) (pa_consD (pd_slice (pd_ofV (pv 0)) po_noneD (po_someD pd_int)) pa_nilD)) pa_nilD))) (po_ev pd_int)))))))
theorem ok__law_take {f : Addr} {fd : FuncData} (N : En K mg)  (F : FunD K "_law_take" "_law_take" (defArgs (top 26)) (defBody (top 26)) (defScope (top 26)) [] [] f fd) (hm : mg "_law_take" = some (.ref f)) : CalD P w K mg base "_law_take" (top 26) P__law_take 1 m__law_take f fd where
  m := hm
  F := F
  b := F.bindsN fun _ _ _ _ _ _ us hl => match us, hl with | [_, _], _ => rfl
  G := okD (k := 0) (io := true) (N := N__law_take) (b := b__law_take) F sc__law_take (by decide) fun cdv A outer s H E hr => (pss_consD (ps_ifD (PWd.pt (pw_andD (pt_tru2 (po_ev (pd_ix2 ix_seqD (po_sl (pv 0)) (po_ev pd_int)))) (pw_and1D (pt_cmp2 od_gt (po_ev (pd_ix2 ix_seqD (po_sl (pv 0)) (po_ev pd_int))) (po_ev pd_int) (nomark _)))))
 (pss_consD (ps_setD (i := 2) sc__law_take.nd (pd_op2 od_mod (po_ev (pd_callTy cd_int N.m_int (by decide +kernel) (pa_consD (pd_ix2 ix_seqD (po_sl (pv 0)) (po_ev pd_int)) pa_nilD))) (po_sl (pv 1))))
 (pss_consD (ps_asgD (pd_op2 od_div (po_ev (pd_ix2 ix_seqD (po_sl (pv 0)) (po_ev pd_int))) (po_sl (pv 1))) (pg_subLD (W := WF) (pv 0) pd_int))
 (pss_oneD (ps_retD (pd_ofMv (pv 2))))))
 pss_nilD)
 (pss_consD (ps_asgD (pd_op2 od_add (po_ev (pd_ix2 ix_seqD (po_sl (pv 0)) (po_ev pd_int))) (po_ev pd_int)) (pg_subLD (W := WF) (pv 0) pd_int))
 (pss_consD (ps_setD (i := 3) sc__law_take.nd (pd_op2 od_mod (po_ev (pd_callTy cd_int N.m_int (by decide +kernel) (pa_consD (pd_op2 od_pow (po_ev (pd_op2 od_add (po_ev (pd_op2 od_add (po_ev (pd_ix2 ix_seqD (po_sl (pv 0)) (po_ev pd_int))) (po_ev (pd_op2 od_mul (po_ev pd_int) (po_ev (pd_ix2 ix_seqD (po_sl (pv 0)) (po_ev pd_int))))))) (po_ev pd_int))) (po_ev pd_int)) pa_nilD))) (po_ev pd_int)))
 (pss_oneD (ps_retD (pd_op2 od_mod (po_ev (pd_callTy cd_int N.m_int (by decide +kernel) (pa_consD (pd_op2 od_div (po_ev (pd_op2 od_mod (po_ev (pd_callTy cd_int N.m_int (by decide +kernel) (pa_consD (pd_op2 od_pow (po_ev (pd_op2 od_add (po_ev (pd_op2 od_mul (po_sl (pv 3)) (po_ev pd_int))) (po_ev (pd_op2 od_mul (po_ev pd_int) (po_ev (pd_ix2 ix_seqD (po_sl (pv 0)) (po_ev pd_int))))))) (po_ev pd_int)) pa_nilD))) (po_ev pd_int))) (po_ev pd_int)) pa_nilD))) (po_sl (pv 1))))))))
theorem ok__law_turned {f : Addr} {fd : FuncData} (N : En K mg)  (F : FunD K "_law_turned" "_law_turned" (defArgs (top 32)) (defBody (top 32)) (defScope (top 32)) [] [] f fd) (hm : mg "_law_turned" = some (.ref f)) : CalD P w K mg base "_law_turned" (top 32) P__law_turned 1 m__law_turned f fd where
  m := hm
  F := F
  b := F.bindsN fun _ _ _ _ _ _ us hl => match us, hl with | [_, _], _ => rfl
  G := okD (k := 0) (io := false) (N := N__law_turned) (b := b__law_turned) F sc__law_turned (by decide) fun cdv A outer s H E hr => (pss_consD (ps_asgD (pd_ofV (pv 0)) (pg_tupD (n := 3) rfl (gs_len1 (gs_len1 (gs_len1 gs_len0))) (pgs_consD (pg_nameD (i := 2) sc__law_turned.nd) (pgs_consD (pg_nameD (i := 3) sc__law_turned.nd) (pgs_consD (pg_nameD (i := 4) sc__law_turned.nd) pgs_nilD))) fun h => pg_tup rfl h))
 (pss_oneD (ps_retD (pd_ifExp (pt_cmp2 (od_eqA (hu65 hr)) (po_sl (pv 1)) (po_ev pd_str) (nomark _)) (pd_tup (pa_consD (pd_ofV (pv 3)) (pa_consD (pd_ofV (pv 4)) (pa_consD (pd_ofV (pv 2)) pa_nilD)))) (pd_tup (pa_consD (pd_ofV (pv 3)) (pa_consD (pd_ofV (pv 2)) (pa_consD (pd_ofV (pv 4)) pa_nilD))))))))
theorem ok__law_home {f : Addr} {fd : FuncData} {f__law_turned : Addr} {fd__law_turned : FuncData} (N : En K mg) (C__law_turned : CalD P w K mg base "_law_turned" (top 32) P__law_turned 1 m__law_turned f__law_turned fd__law_turned) (F : FunD K "_law_home" "_law_home" (defArgs (top 33)) (defBody (top 33)) (defScope (top 33)) [] [] f fd) (hm : mg "_law_home" = some (.ref f)) : CalD P w K mg base "_law_home" (top 33) P__law_home 2 m__law_home f fd where
  m := hm
  F := F
  b := F.bindsN fun _ _ _ _ _ _ us hl => match us, hl with | [_], _ => rfl
  G := okD (k := 1) (io := false) (N := N__law_home) (b := b__law_home) F sc__law_home (by decide) fun cdv A outer s H E hr => (pss_consD (ps_setD (i := 1) sc__law_home.nd (pd_tup (pa_consD pd_int (pa_consD pd_int (pa_consD pd_int pa_nilD)))))
 (pss_consD (ps_forD (passes_of rfl) rfl (pi_valD (pd_ofV (pv 0))) (pg_nameD (i := 2) sc__law_home.nd)
 (pss_oneD (ps_setD (i := 1) sc__law_home.nd (pd_call (C__law_turned.G.mono (by decide)) hr (takes_of rfl rfl rfl rfl) C__law_turned.m C__law_turned.F.kp C__law_turned.b (pa_consD (pd_ofV (pv 1)) (pa_consD (pd_ofV (pv 2)) pa_nilD)) (alen_cons (alen_cons alen_nil))))))
 (pss_oneD (ps_retD (pd_ofMv (pv 1))))))
theorem ok__law_signs {f : Addr} {fd : FuncData} {f__law_take f__law_home : Addr} {fd__law_take fd__law_home : FuncData} (N : En K mg) (C__law_take : CalD P w K mg base "_law_take" (top 26) P__law_take 1 m__law_take f__law_take fd__law_take) (C__law_home : CalD P w K mg base "_law_home" (top 33) P__law_home 2 m__law_home f__law_home fd__law_home) (F : FunD K "_law_signs" "_law_signs" (defArgs (top 34)) (defBody (top 34)) (defScope (top 34)) [] [] f fd) (hm : mg "_law_signs" = some (.ref f)) : CalD P w K mg base "_law_signs" (top 34) P__law_signs 3 m__law_signs f fd where
  m := hm
  F := F
  b := F.bindsN fun _ _ _ _ _ _ us hl => match us, hl with | [_, _], _ => rfl
  G := okD (k := 2) (io := true) (N := N__law_signs) (b := b__law_signs) F sc__law_signs (by decide) fun cdv A outer s H E hr => (pss_consD (ps_parD (i := 2) (j := 3) rfl sc__law_signs.nd (pa_consD (pd_callI (i := 0) (C__law_take.G.mono (by decide)) hr (takes_of rfl rfl rfl rfl) C__law_take.m C__law_take.F.kp C__law_take.b (pa_consD pd_int pa_nilD) (fun S ds S' h => congrArg (· + 1) ((alen_cons alen_nil) S ds S' h))) (pa_consD (pd_callI (i := 0) (C__law_take.G.mono (by decide)) hr (takes_of rfl rfl rfl rfl) C__law_take.m C__law_take.F.kp C__law_take.b (pa_consD pd_int pa_nilD) (fun S ds S' h => congrArg (· + 1) ((alen_cons alen_nil) S ds S' h))) pa_nilD)))
 (pss_consD (ps_ifD (pt_cmp2 (od_eqA (hu65 hr)) (po_sl (pv 2)) (po_ev pd_int) (nomark _))
 (pss_oneD (ps_retD (pd_op2 od_mul (po_ev (pd_ix2 ix_seqD (po_ev pd_str) (po_sl (pv 3)))) (po_sl (pv 1)))))
 pss_nilD)
 (pss_consD (ps_setD (i := 4) sc__law_signs.nd (pd_lst pa_nilD))
 (pss_consD (ps_forD (passes_of rfl) rfl (pi_rng1D N.m_range (pa_consD (pd_ofV (pv 1)) pa_nilD)) (pg_nameD (i := 5) sc__law_signs.nd)
 (pss_consD (ps_setD (i := 3) sc__law_signs.nd (pd_ifExp (PWd.pt (pw_orD (pt_cmp2 (od_neA (hu65 hr)) (po_sl (pv 2)) (po_ev pd_int) (nomark _)) (pw_or1D (pt_cmp2 (od_eqA (hu65 hr)) (po_ev (pd_callI (i := 0) (C__law_take.G.mono (by decide)) hr (takes_of rfl rfl rfl rfl) C__law_take.m C__law_take.F.kp C__law_take.b (pa_consD pd_int pa_nilD) (fun S ds S' h => congrArg (· + 1) ((alen_cons alen_nil) S ds S' h)))) (po_ev pd_int) (nomark _))))) (pd_callI (i := 0) (C__law_take.G.mono (by decide)) hr (takes_of rfl rfl rfl rfl) C__law_take.m C__law_take.F.kp C__law_take.b (pa_consD pd_int pa_nilD) (fun S ds S' h => congrArg (· + 1) ((alen_cons alen_nil) S ds S' h))) (pd_ofV (pv 3))))
 (pss_oneD (ps_exprD (pd_app (pv 4) (pa_consD (pd_ix2 ix_seqD (po_ev pd_str) (po_sl (pv 3))) pa_nilD))))))
 (pss_consD (ps_setD (i := 6) sc__law_signs.nd (pd_join pd_str (pd_ofV (pv 4))))
 (pss_consD (ps_ifD (pt_cmp2 od_gt (po_sl (pv 2)) (po_ev pd_int) (nomark _))
 (pss_oneD (ps_forD (passes_of rfl) rfl (pi_rng1D N.m_range (pa_consD pd_int pa_nilD)) (pg_nameD (i := 7) sc__law_signs.nd)
 (pss_consD (ps_setD (i := 8) sc__law_signs.nd (pd_join pd_str (pe_lcD rfl sc__law_signs.nd (pi_rng1D N.m_range (pa_consD pd_int pa_nilD)) (⟨rfl, by decide +kernel, by decide +kernel, by decide +kernel, by decide +kernel⟩ : BlkOk N__law_signs (defScope (top 34)) _ [("k", 9)]) rfl (by decide) (.inr (by decide)) (fun _ _ _ _ _ => (pg_nameD (i := 9) sc__law_signs.nd)) ht_nil (fun _ _ _ _ _ => (pd_ix2 ix_seqD (po_ev pd_str) (po_ev (pd_op2 od_and (po_ev (pd_callTy cd_int N.m_int (by decide +kernel) (pa_consD (pd_op2 od_shr (po_sl (pv 7)) (po_sl (pv 9))) pa_nilD))) (po_ev pd_int))))))))
 (pss_oneD (ps_ifD (pt_cmp2 (od_eqA (hu65 hr)) (po_ev (pd_call (C__law_home.G.mono (by decide)) hr (takes_of rfl rfl rfl rfl) C__law_home.m C__law_home.F.kp C__law_home.b (pa_consD (pd_op2 od_add (po_ev (pd_slice (pd_ofV (pv 6)) po_noneD (po_someD (pd_neg pd_int)))) (po_sl (pv 8))) pa_nilD) (alen_cons alen_nil))) (po_ev (pd_tup (pa_consD pd_int (pa_consD pd_int (pa_consD pd_int pa_nilD))))) (nomark _))
 (pss_oneD (ps_retD (pd_op2 od_add (po_ev (pd_slice (pd_ofV (pv 6)) po_noneD (po_someD (pd_neg pd_int)))) (po_sl (pv 8)))))
 pss_nilD)))))
 pss_nilD)
 (pss_oneD (ps_retD (pd_ofMv (pv 6))))))))))
theorem ok__law_numbers {f : Addr} {fd : FuncData} (N : En K mg)  (F : FunD K "_law_numbers" "_law_numbers" (defArgs (top 29)) (defBody (top 29)) (defScope (top 29)) [] [] f fd) (hm : mg "_law_numbers" = some (.ref f)) : CalD P w K mg base "_law_numbers" (top 29) P__law_numbers 1 m__law_numbers f fd where
  m := hm
  F := F
  b := F.bindsN fun _ _ _ _ _ _ us hl => match us, hl with | [_], _ => rfl
  G := okD (k := 0) (io := false) (N := N__law_numbers) (b := b__law_numbers) F sc__law_numbers (by decide) fun cdv A outer s H E hr => (pss_consD (ps_setD (i := 1) sc__law_numbers.nd (pd_op2 od_mul (po_ev (pd_lst (pa_consD pd_int pa_nilD))) (po_ev (pd_op2 od_add (po_ev (pd_callBV cd_len N.m_len (by decide +kernel) (pv 0) pa_nilD)) (po_ev pd_int)))))
 (pss_consD (ps_forD (passes_of rfl) rfl (pi_valD (pd_ofV (pv 0))) (pg_tupD (n := 2) rfl (gs_len1 (gs_len1 gs_len0)) (pgs_consD (pg_nameD (i := 2) sc__law_numbers.nd) (pgs_consD (pg_nameD (i := 3) sc__law_numbers.nd) pgs_nilD)) fun h => pg_tup rfl h)
 (pss_oneD (ps_asgD (pd_tup (pa_consD (pd_op2 od_add (po_ev (pd_ix2 ix_seqD (po_sl (pv 1)) (po_sl (pv 2)))) (po_ev pd_int)) (pa_consD (pd_op2 od_add (po_ev (pd_ix2 ix_seqD (po_sl (pv 1)) (po_sl (pv 3)))) (po_ev pd_int)) pa_nilD))) (pg_tupD (n := 2) rfl (gs_len1 (gs_len1 gs_len0)) (pgs_consD (pg_subLD (W := WF) (pv 1) (pd_ofV (pv 2))) (pgs_consD (pg_subLD (W := WF) (pv 1) (pd_ofV (pv 3))) pgs_nilD)) fun h => pg_tup rfl h))))
 (pss_oneD (ps_retD (pd_ofMv (pv 1))))))
theorem ok__law_strip {f : Addr} {fd : FuncData} {f__law_numbers : Addr} {fd__law_numbers : FuncData} (N : En K mg) (C__law_numbers : CalD P w K mg base "_law_numbers" (top 29) P__law_numbers 1 m__law_numbers f__law_numbers fd__law_numbers) (F : FunD K "_law_strip" "_law_strip" (defArgs (top 30)) (defBody (top 30)) (defScope (top 30)) [] [] f fd) (hm : mg "_law_strip" = some (.ref f)) : CalD P w K mg base "_law_strip" (top 30) P__law_strip 2 m__law_strip f fd where
  m := hm
  F := F
  b := F.bindsN fun _ _ _ _ _ _ us hl => match us, hl with | [_], _ => rfl
  G := okD (k := 1) (io := false) (N := N__law_strip) (b := b__law_strip) F sc__law_strip (by decide) fun cdv A outer s H E hr => (pss_oneD (ps_retD (pd_join pd_str (pe_lcD rfl sc__law_strip.nd (pi_valD (pd_call (C__law_numbers.G.mono (by decide)) hr (takes_of rfl rfl rfl rfl) C__law_numbers.m C__law_numbers.F.kp C__law_numbers.b (pa_consD (pd_ofV (pv 0)) pa_nilD) (alen_cons alen_nil))) (⟨rfl, by decide +kernel, by decide +kernel, by decide +kernel, by decide +kernel⟩ : BlkOk N__law_strip (defScope (top 30)) _ [("number", 1)]) rfl (by decide) (.inl rfl) (fun _ _ _ _ _ => (pg_nameD (i := 1) sc__law_strip.nd)) ht_nil (fun _ _ _ _ _ => (pd_ifExp (pt_cmp2 (od_eqA (hu65 hr)) (po_ev (pd_op2 od_mod (po_ev (pd_callTyV cd_int N.m_int (by decide +kernel) (pv 1) pa_nilD)) (po_ev pd_int))) (po_ev pd_int) (nomark _)) pd_str pd_str))))))
theorem ok__law_drawn {f : Addr} {fd : FuncData} {f__law_take : Addr} {fd__law_take : FuncData} (N : En K mg) (C__law_take : CalD P w K mg base "_law_take" (top 26) P__law_take 1 m__law_take f__law_take fd__law_take) (F : FunD K "_law_drawn" "_law_drawn" (defArgs (top 28)) (defBody (top 28)) (defScope (top 28)) [] [] f fd) (hm : mg "_law_drawn" = some (.ref f)) : CalD P w K mg base "_law_drawn" (top 28) P__law_drawn 2 m__law_drawn f fd where
  m := hm
  F := F
  b := F.bindsN fun _ _ _ _ _ _ us hl => match us, hl with | [_, _], _ => rfl
  G := okD (k := 1) (io := true) (N := N__law_drawn) (b := b__law_drawn) F sc__law_drawn (by decide) fun cdv A outer s H E hr => (pss_consD (ps_par3D (i := 2) (j := 3) (l := 4) rfl sc__law_drawn.nd (pa_consD (pd_lst pa_nilD) (pa_consD (pd_lst (pa_consD (pd_tup (pa_consD pd_int (pa_consD (pd_op2 od_sub (po_sl (pv 1)) (po_ev pd_int)) pa_nilD))) pa_nilD)) (pa_consD (pd_callI (i := 0) (C__law_take.G.mono (by decide)) hr (takes_of rfl rfl rfl rfl) C__law_take.m C__law_take.F.kp C__law_take.b (pa_consD pd_int pa_nilD) (fun S ds S' h => congrArg (· + 1) ((alen_cons alen_nil) S ds S' h))) pa_nilD))))
 (pss_consD (ps_whileD (passes_of rfl) (pt_cmp2 (od_neA (hu65 hr)) (po_sl (pv 3)) (po_ev (pd_lst pa_nilD)) (nomark _))
 (pss_consD (ps_asgD (pd_pop (pv 3)) (pg_tupD (n := 2) rfl (gs_len1 (gs_len1 gs_len0)) (pgs_consD (pg_nameD (i := 5) sc__law_drawn.nd) (pgs_consD (pg_nameD (i := 6) sc__law_drawn.nd) pgs_nilD)) fun h => pg_tup rfl h))
 (pss_oneD (ps_ifD (pt_cmp2 od_gt (po_ev (pd_op2 od_sub (po_sl (pv 6)) (po_sl (pv 5)))) (po_ev pd_int) (nomark _))
 (pss_consD (ps_setD (i := 7) sc__law_drawn.nd (pd_op2 od_add (po_ev (pd_op2 od_add (po_sl (pv 5)) (po_ev pd_int))) (po_ev (pd_ix2 ix_seqD (po_ev (pd_lst (pa_consD (pd_callI (i := 0) (C__law_take.G.mono (by decide)) hr (takes_of rfl rfl rfl rfl) C__law_take.m C__law_take.F.kp C__law_take.b (pa_consD (pd_op2 od_sub (po_ev (pd_op2 od_sub (po_sl (pv 6)) (po_sl (pv 5)))) (po_ev pd_int)) pa_nilD) (fun S ds S' h => congrArg (· + 1) ((alen_cons alen_nil) S ds S' h))) (pa_consD pd_int (pa_consD (pd_op2 od_sub (po_ev (pd_op2 od_sub (po_sl (pv 6)) (po_sl (pv 5)))) (po_ev pd_int)) (pa_consD (pd_callI (i := 0) (C__law_take.G.mono (by decide)) hr (takes_of rfl rfl rfl rfl) C__law_take.m C__law_take.F.kp C__law_take.b (pa_consD (pd_op2 od_sub (po_ev (pd_op2 od_sub (po_sl (pv 6)) (po_sl (pv 5)))) (po_ev pd_int)) pa_nilD) (fun S ds S' h => congrArg (· + 1) ((alen_cons alen_nil) S ds S' h))) pa_nilD)))))) (po_sl (pv 4))))))
 (pss_consD (ps_ifD (pt_cmp2 od_gt (po_ev (pd_op2 od_sub (po_sl (pv 7)) (po_sl (pv 5)))) (po_ev pd_int) (nomark _))
 (pss_oneD (ps_exprD (pd_app (pv 2) (pa_consD (pd_tup (pa_consD (pd_ofV (pv 5)) (pa_consD (pd_ofV (pv 7)) pa_nilD))) pa_nilD))))
 pss_nilD)
 (pss_consD (ps_ifD (pt_cmp2 od_gt (po_ev (pd_op2 od_sub (po_sl (pv 6)) (po_sl (pv 7)))) (po_ev pd_int) (nomark _))
 (pss_oneD (ps_exprD (pd_app (pv 2) (pa_consD (pd_tup (pa_consD (pd_ofV (pv 7)) (pa_consD (pd_ofV (pv 6)) pa_nilD))) pa_nilD))))
 pss_nilD)
 (pss_oneD (ps_setD (i := 3) sc__law_drawn.nd (pd_op2 od_add (po_sl (pv 3)) (po_ev (pd_lst (pa_consD (pd_tup (pa_consD (pd_ofV (pv 5)) (pa_consD (pd_ofV (pv 7)) pa_nilD))) (pa_consD (pd_tup (pa_consD (pd_ofV (pv 7)) (pa_consD (pd_ofV (pv 6)) pa_nilD))) pa_nilD))))))))))
 pss_nilD))))
 (pss_consD (ps_setD (i := 8) sc__law_drawn.nd (pd_callI (i := 0) (C__law_take.G.mono (by decide)) hr (takes_of rfl rfl rfl rfl) C__law_take.m C__law_take.F.kp C__law_take.b (pa_consD (pd_ofV (pv 1)) pa_nilD) (fun S ds S' h => congrArg (· + 1) ((alen_cons alen_nil) S ds S' h))))
 (pss_oneD (ps_retD (pd_callTy (cd_tuple rfl) N.m_tuple (by decide +kernel) (pa_consD (pd_callB cd_sorted N.m_sorted (by decide +kernel) (pa_consD (pe_lcD rfl sc__law_drawn.nd (pi_valD (pd_ofV (pv 2))) (⟨rfl, by decide +kernel, by decide +kernel, by decide +kernel, by decide +kernel⟩ : BlkOk N__law_drawn (defScope (top 28)) _ [("one", 9), ("other", 10)]) rfl (by decide) (.inr (by decide)) (fun _ _ _ _ _ => (pg_tupD (n := 2) rfl (gs_len1 (gs_len1 gs_len0)) (pgs_consD (pg_nameD (i := 9) sc__law_drawn.nd) (pgs_consD (pg_nameD (i := 10) sc__law_drawn.nd) pgs_nilD)) fun h => pg_tup rfl h)) ht_nil (fun _ _ _ _ _ => (pd_callTy (cd_tuple rfl) N.m_tuple (by decide +kernel) (pa_consD (pd_callB cd_sorted N.m_sorted (by decide +kernel) (pa_consD (pd_lst (pa_consD (pd_op2 od_mod (po_ev (pd_callTy cd_int N.m_int (by decide +kernel) (pa_consD (pd_op2 od_add (po_sl (pv 9)) (po_sl (pv 8))) pa_nilD))) (po_sl (pv 1))) (pa_consD (pd_op2 od_mod (po_ev (pd_callTy cd_int N.m_int (by decide +kernel) (pa_consD (pd_op2 od_add (po_sl (pv 10)) (po_sl (pv 8))) pa_nilD))) (po_sl (pv 1))) pa_nilD))) pa_nilD)) pa_nilD)))) pa_nilD)) pa_nilD)))))))
theorem ok__law_counted {f : Addr} {fd : FuncData} (N : En K mg)  (F : FunD K "_law_counted" "_law_counted" (defArgs (top 31)) (defBody (top 31)) (defScope (top 31)) [] [] f fd) (hm : mg "_law_counted" = some (.ref f)) : CalD P w K mg base "_law_counted" (top 31) P__law_counted 1 m__law_counted f fd where
  m := hm
  F := F
  b := F.bindsN fun _ _ _ _ _ _ us hl => match us, hl with | [_], _ => rfl
  G := okD (k := 0) (io := false) (N := N__law_counted) (b := b__law_counted) F sc__law_counted (by decide) fun cdv A outer s H E hr => (pss_consD (ps_parD (i := 1) (j := 2) rfl sc__law_counted.nd (pa_consD (pd_callBV cd_len N.m_len (by decide +kernel) (pv 0) pa_nilD) (pa_consD pd_dnewT pa_nilD)))
 (pss_consD (ps_setLcD (i := 3) rfl sc__law_counted.nd (pi_valD (pd_ofV (pv 0))) (⟨rfl, by decide +kernel, by decide +kernel, by decide +kernel, by decide +kernel⟩ : BlkOk N__law_counted (defScope (top 31)) _ [("sign", 4)]) rfl (by decide) (.inl rfl) (fun _ _ _ _ _ => (pg_nameD (i := 4) sc__law_counted.nd)) ht_nil (fun _ _ _ _ _ => (pd_callTy cd_int N.m_int (by decide +kernel) (pa_consD (pd_cmp2 (od_eqA (hu65 hr)) (po_sl (pv 4)) (po_ev pd_str) (nomark _)) pa_nilD))))
 (pss_consD (ps_forD (passes_of rfl) rfl (pi_rng2D N.m_range (pa_consD pd_int (pa_consD (pd_ofV (pv 1)) pa_nilD))) (pg_nameD (i := 5) sc__law_counted.nd)
 (pss_oneD (ps_forD (passes_of rfl) rfl (pi_rng1D N.m_range (pa_consD (pd_op2 od_sub (po_sl (pv 1)) (po_sl (pv 5))) pa_nilD)) (pg_nameD (i := 6) sc__law_counted.nd)
 (pss_consD (ps_parD (i := 7) (j := 8) rfl sc__law_counted.nd (pa_consD (pd_op2 od_add (po_sl (pv 6)) (po_sl (pv 5))) (pa_consD pd_dnewT pa_nilD)))
 (pss_consD (ps_ifD (pt_cmp2 (od_eqA (hu65 hr)) (po_sl (pv 5)) (po_ev pd_int) (nomark _))
 (pss_oneD (ps_asgD pd_int (pg_subTD (W := WF) (hu01 hr) (pv 8) (pd_tup (pa_consD pd_int (pa_consD pd_int pa_nilD))))))
 pss_nilD)
 (pss_consD (ps_forD (passes_of rfl) rfl (pi_rng2D N.m_range (pa_consD (pd_op2 od_add (po_sl (pv 6)) (po_ev pd_int)) (pa_consD (pd_ofV (pv 7)) pa_nilD))) (pg_nameD (i := 9) sc__law_counted.nd)
 (pss_oneD (ps_forD (passes_of rfl) rfl (pi_valD (pd_callTy (cd_list rfl) N.m_list (by decide +kernel) (pa_consD (pd_ix2 (ix_dicD (hu01 hr)) (po_sl (pv 2)) (po_ev (pd_tup (pa_consD (pd_ofV (pv 6)) (pa_consD (pd_ofV (pv 9)) pa_nilD))))) pa_nilD))) (pg_nameD (i := 10) sc__law_counted.nd)
 (pss_oneD (ps_forD (passes_of rfl) rfl (pi_valD (pd_callTy (cd_list rfl) N.m_list (by decide +kernel) (pa_consD (pd_ix2 (ix_dicD (hu01 hr)) (po_sl (pv 2)) (po_ev (pd_tup (pa_consD (pd_ofV (pv 9)) (pa_consD (pd_ofV (pv 7)) pa_nilD))))) pa_nilD))) (pg_nameD (i := 11) sc__law_counted.nd)
 (pss_oneD (ps_ifD (pt_cmp2 (od_eqA (hu65 hr)) (po_ev (pd_op2 od_mod (po_ev (pd_callTy cd_int N.m_int (by decide +kernel) (pa_consD (pd_op2 od_add (po_ev (pd_op2 od_add (po_ev (pd_ix2 ix_seqD (po_sl (pv 10)) (po_ev pd_int))) (po_ev (pd_ix2 ix_seqD (po_sl (pv 11)) (po_ev pd_int))))) (po_ev pd_int)) pa_nilD))) (po_ev pd_int))) (po_ev (pd_ix2 ix_seqD (po_sl (pv 3)) (po_sl (pv 9)))) (nomark _))
 (pss_consD (ps_setD (i := 12) sc__law_counted.nd (pd_tup (pa_consD (pd_op2 od_sub (po_ev pd_int) (po_ev (pd_ix2 ix_seqD (po_sl (pv 10)) (po_ev pd_int)))) (pa_consD (pd_op2 od_sub (po_ev pd_int) (po_ev (pd_ix2 ix_seqD (po_sl (pv 11)) (po_ev pd_int)))) pa_nilD))))
 (pss_oneD (ps_asgD (pd_op2 od_add (po_ev (pd_get2 (hu01 hr) (po_sl (pv 8)) (pd_ofV (pv 12)) pd_int)) (po_ev (pd_op2 od_mul (po_ev (pd_ix2 (ix_dicD (hu01 hr)) (po_ev (pd_ix2 (ix_dicD (hu01 hr)) (po_sl (pv 2)) (po_ev (pd_tup (pa_consD (pd_ofV (pv 6)) (pa_consD (pd_ofV (pv 9)) pa_nilD)))))) (po_sl (pv 10)))) (po_ev (pd_ix2 (ix_dicD (hu01 hr)) (po_ev (pd_ix2 (ix_dicD (hu01 hr)) (po_sl (pv 2)) (po_ev (pd_tup (pa_consD (pd_ofV (pv 9)) (pa_consD (pd_ofV (pv 7)) pa_nilD)))))) (po_sl (pv 11))))))) (pg_subTD (W := WF) (hu01 hr) (pv 8) (pd_ofV (pv 12))))))
 pss_nilD)))))))
 (pss_oneD (ps_asgD (pd_ofV (pv 8)) (pg_subTD (W := WF) (hu01 hr) (pv 2) (pd_tup (pa_consD (pd_ofV (pv 6)) (pa_consD (pd_ofV (pv 7)) pa_nilD))))))))))))
 (pss_oneD (ps_retD (pd_get2 (hu01 hr) (po_ev (pd_ix2 (ix_dicD (hu01 hr)) (po_sl (pv 2)) (po_ev (pd_tup (pa_consD pd_int (pa_consD (pd_op2 od_sub (po_sl (pv 1)) (po_ev pd_int)) pa_nilD)))))) (pd_tup (pa_consD (pd_ix2 ix_seqD (po_sl (pv 3)) (po_ev pd_int)) (pa_consD (pd_ix2 ix_seqD (po_sl (pv 3)) (po_ev (pd_neg pd_int))) pa_nilD))) pd_int))))))
theorem ok__law_like {f : Addr} {fd : FuncData} (N : En K mg)  (F : FunD K "_law_like" "_law_like" (defArgs (top 27)) (defBody (top 27)) (defScope (top 27)) [] [] f fd) (hm : mg "_law_like" = some (.ref f)) : CalD P w K mg base "_law_like" (top 27) P__law_like 1 m__law_like f fd where
  m := hm
  F := F
  b := F.bindsN fun _ _ _ _ _ _ us hl => match us, hl with | [_, _], _ => rfl
  G := okD (k := 0) (io := false) (N := N__law_like) (b := b__law_like) F sc__law_like (by decide) fun cdv A outer s H E hr => (pss_consD (ps_setD (i := 2) sc__law_like.nd (pd_lst (pa_consD (pd_tup (pa_consD (pd_ofV (pv 0)) (pa_consD (pd_ofV (pv 1)) pa_nilD))) pa_nilD)))
 (pss_consD (ps_whileD (passes_of rfl) (pt_cmp2 (od_neA (hu65 hr)) (po_sl (pv 2)) (po_ev (pd_lst pa_nilD)) (nomark _))
 (pss_consD (ps_asgD (pd_pop (pv 2)) (pg_tupD (n := 2) rfl (gs_len1 (gs_len1 gs_len0)) (pgs_consD (pg_nameD (i := 3) sc__law_like.nd) (pgs_consD (pg_nameD (i := 4) sc__law_like.nd) pgs_nilD)) fun h => pg_tup rfl h))
 (pss_oneD (ps_ifD (PWd.pt (pw_orD (pt_cmp2 od_is (po_sl (pv 4)) (po_ev pd_non) (nomark _)) (pw_or1D (pt_tru2 (po_ev (pd_callBV cd_isi N.m_isinstance (by decide +kernel) (pv 4) (pa_consD (pd_ty N.m_bool (by decide +kernel)) pa_nilD)))))))
 (pss_oneD (ps_ifD (pt_notD (pt_ifD (pt_cmp2 od_is (po_sl (pv 4)) (po_ev pd_non) (nomark _)) (pt_cmp2 od_is (po_sl (pv 3)) (po_ev pd_non) (nomark _)) (pt_ifD (pt_tru2 (po_sl (pv 4))) (pt_cmp2 od_is (po_sl (pv 3)) (po_ev pd_bl) (nomark _)) (pt_cmp2 od_is (po_sl (pv 3)) (po_ev pd_bl) (nomark _)))))
 (pss_oneD (ps_retD pd_bl))
 pss_nilD))
 (pss_oneD (ps_ifD (pt_tru2 (po_ev (pd_callBV cd_isi N.m_isinstance (by decide +kernel) (pv 4) (pa_consD (pd_ty N.m_int (by decide +kernel)) pa_nilD))))
 (pss_oneD (ps_ifD (PWd.pt (pw_orD (pt_notD (pt_tru2 (po_ev (pd_callBV cd_isi N.m_isinstance (by decide +kernel) (pv 3) (pa_consD (pd_ty N.m_int (by decide +kernel)) pa_nilD))))) (pw_orD (pt_tru2 (po_ev (pd_callBV cd_isi N.m_isinstance (by decide +kernel) (pv 3) (pa_consD (pd_ty N.m_bool (by decide +kernel)) pa_nilD)))) (pw_or1D (pt_cmp2 (od_neA (hu65 hr)) (po_sl (pv 3)) (po_sl (pv 4)) (nomark _))))))
 (pss_oneD (ps_retD pd_bl))
 pss_nilD))
 (pss_oneD (ps_ifD (pt_tru2 (po_ev (pd_callBV cd_isi N.m_isinstance (by decide +kernel) (pv 4) (pa_consD (pd_ty N.m_str (by decide +kernel)) pa_nilD))))
 (pss_oneD (ps_ifD (PWd.pt (pw_orD (pt_notD (pt_tru2 (po_ev (pd_callBV cd_isi N.m_isinstance (by decide +kernel) (pv 3) (pa_consD (pd_ty N.m_str (by decide +kernel)) pa_nilD))))) (pw_or1D (pt_cmp2 (od_neA (hu65 hr)) (po_sl (pv 3)) (po_sl (pv 4)) (nomark _)))))
 (pss_oneD (ps_retD pd_bl))
 pss_nilD))
 (pss_oneD (ps_ifD (pt_tru2 (po_ev (pd_callBV cd_isi N.m_isinstance (by decide +kernel) (pv 4) (pa_consD (pd_ty N.m_dict (by decide +kernel)) pa_nilD))))
 (pss_consD (ps_ifD (PWd.pt (pw_orD (pt_notD (pt_tru2 (po_ev (pd_callBV cd_isi N.m_isinstance (by decide +kernel) (pv 3) (pa_consD (pd_ty N.m_dict (by decide +kernel)) pa_nilD))))) (pw_or1D (pt_cmp2 (od_neA (hu65 hr)) (po_ev (pd_callBV cd_len N.m_len (by decide +kernel) (pv 3) pa_nilD)) (po_ev (pd_callBV cd_len N.m_len (by decide +kernel) (pv 4) pa_nilD)) (nomark _)))))
 (pss_oneD (ps_retD pd_bl))
 pss_nilD)
 (pss_oneD (ps_forD (passes_of rfl) rfl (pi_valD (pd_callTyV (cd_list rfl) N.m_list (by decide +kernel) (pv 4) pa_nilD)) (pg_nameD (i := 5) sc__law_like.nd)
 pss_noD)))
 (pss_consD (ps_ifD (PWd.pt (pw_orD (pt_notD (pt_tru2 (po_ev (pd_callBV cd_isi N.m_isinstance (by decide +kernel) (pv 4) (pa_consD (pd_tup (pa_consD (pd_ty N.m_list (by decide +kernel)) (pa_consD (pd_ty N.m_tuple (by decide +kernel)) pa_nilD))) pa_nilD))))) (pw_orD (pt_notD (pt_tru2 (po_ev (pd_callBV cd_isi N.m_isinstance (by decide +kernel) (pv 3) (pa_consD (pd_tup (pa_consD (pd_ty N.m_list (by decide +kernel)) (pa_consD (pd_ty N.m_tuple (by decide +kernel)) pa_nilD))) pa_nilD))))) (pw_orD (pt_cmp2 (od_neA (hu65 hr)) (po_ev (pd_callBV cd_isi N.m_isinstance (by decide +kernel) (pv 3) (pa_consD (pd_ty N.m_list (by decide +kernel)) pa_nilD))) (po_ev (pd_callBV cd_isi N.m_isinstance (by decide +kernel) (pv 4) (pa_consD (pd_ty N.m_list (by decide +kernel)) pa_nilD))) (nomark _)) (pw_or1D (pt_cmp2 (od_neA (hu65 hr)) (po_ev (pd_callBV cd_len N.m_len (by decide +kernel) (pv 3) pa_nilD)) (po_ev (pd_callBV cd_len N.m_len (by decide +kernel) (pv 4) pa_nilD)) (nomark _)))))))
 (pss_oneD (ps_retD pd_bl))
 pss_nilD)
 (pss_oneD (ps_setD (i := 2) sc__law_like.nd (pd_op2 od_add (po_sl (pv 2)) (po_ev (pe_lcD rfl sc__law_like.nd (pi_rng1D N.m_range (pa_consD (pd_callBV cd_len N.m_len (by decide +kernel) (pv 4) pa_nilD) pa_nilD)) (⟨rfl, by decide +kernel, by decide +kernel, by decide +kernel, by decide +kernel⟩ : BlkOk N__law_like (defScope (top 27)) _ [("k", 6)]) rfl (by decide) (.inl rfl) (fun _ _ _ _ _ => (pg_nameD (i := 6) sc__law_like.nd)) ht_nil (fun _ _ _ _ _ => (pd_tup (pa_consD (pd_ix2 ix_seqD (po_sl (pv 3)) (po_sl (pv 6))) (pa_consD (pd_ix2 ix_seqD (po_sl (pv 4)) (po_sl (pv 6))) pa_nilD))))))))))))))))))))
 (pss_oneD (ps_retD pd_bl))))
theorem ok_is_strip {f : Addr} {fd : FuncData} (N : En K mg)  (F : FunD K "is_strip" "is_strip" (defArgs (top 9)) (defBody (top 9)) (defScope (top 9)) [] [] f fd) (hm : mg "is_strip" = some (.ref f)) : CalD P w K mg base "is_strip" (top 9) P_is_strip 1 m_is_strip f fd where
  m := hm
  F := F
  b := F.bindsN fun _ _ _ _ _ _ us hl => match us, hl with | [_], _ => rfl
  G := okD (k := 0) (io := false) (N := N_is_strip) (b := b_is_strip) F sc_is_strip (by decide) fun cdv A outer s H E hr => (pss_consD (ps_ifD (PWd.pt (pw_orD (pt_notD (pt_tru2 (po_ev (pd_callBV cd_isi N.m_isinstance (by decide +kernel) (pv 0) (pa_consD (pd_ty N.m_str (by decide +kernel)) pa_nilD))))) (pw_or1D (pt_notD (pt_chainD (pd_glo N.g_LEAST_FACES) (tc_link od_le (pd_callBV cd_len N.m_len (by decide +kernel) (pv 0) pa_nilD) (tc_last od_le (pd_glo N.g_MOST_FACES))))))))
 (pss_oneD (ps_retD pd_bl))
 pss_nilD)
 (pss_oneD (ps_retD (pd_callB (cd_all (cr_all rfl)) N.m_all (by decide +kernel) (pa_consD (pe_lcD rfl sc_is_strip.nd (pi_valD (pd_ofV (pv 0))) (⟨rfl, by decide +kernel, by decide +kernel, by decide +kernel, by decide +kernel⟩ : BlkOk N_is_strip (defScope (top 9)) _ [("sign", 1)]) rfl (by decide) (.inl rfl) (fun _ _ _ _ _ => (pg_nameD (i := 1) sc_is_strip.nd)) ht_nil (fun _ _ _ _ _ => (pd_cmp2 (od_in (hu65 hr)) (po_sl (pv 1)) (po_ev (pd_glo N.g_SIGNS)) rfl))) pa_nilD)))))
theorem ok_check_strip {f : Addr} {fd : FuncData} {f_is_strip C_InvalidStrip I_InvalidStrip : Addr} {fd_is_strip fd_InvalidStrip : FuncData} (N : En K mg) (C_is_strip : CalD P w K mg base "is_strip" (top 9) P_is_strip 1 m_is_strip f_is_strip fd_is_strip) (E_InvalidStrip : ErD P w K mg base "InvalidStrip" "given" C_InvalidStrip I_InvalidStrip fd_InvalidStrip ["self", "given"]) (F : FunD K "check_strip" "check_strip" (defArgs (top 10)) (defBody (top 10)) (defScope (top 10)) [] [] f fd) (hm : mg "check_strip" = some (.ref f)) : CalD P w K mg base "check_strip" (top 10) P_check_strip 3 m_check_strip f fd where
  m := hm
  F := F
  b := F.bindsN fun _ _ _ _ _ _ us hl => match us, hl with | [_], _ => rfl
  G := okD (k := 2) (io := false) (N := N_check_strip) (b := b_check_strip) F sc_check_strip (by decide) fun cdv A outer s H E hr => (pss_oneD (ps_ifD (pt_notD (pt_tru2 (po_ev (pd_call (C_is_strip.G.mono (by decide)) hr (takes_of rfl rfl rfl rfl) C_is_strip.m C_is_strip.F.kp C_is_strip.b (pa_consD (pd_ofV (pv 0)) pa_nilD) (alen_cons alen_nil)))))
 (pss_oneD (ps_raiseD (k := 1) (C := C_InvalidStrip) rfl (takes_of rfl rfl rfl rfl) E_InvalidStrip.T (E_InvalidStrip.F.mono (by decide)) (hr.mono (by decide)) E_InvalidStrip.b E_InvalidStrip.m (pd_ofV (pv 0))))
 pss_nilD))
theorem ok_turned_by {f : Addr} {fd : FuncData} (N : En K mg)  (F : FunD K "turned_by" "turned_by" (defArgs (top 14)) (defBody (top 14)) (defScope (top 14)) [] [] f fd) (hm : mg "turned_by" = some (.ref f)) : CalD P w K mg base "turned_by" (top 14) P_turned_by 1 m_turned_by f fd where
  m := hm
  F := F
  b := F.bindsN fun _ _ _ _ _ _ us hl => match us, hl with | [_, _], _ => rfl
  G := okD (k := 0) (io := false) (N := N_turned_by) (b := b_turned_by) F sc_turned_by (by decide) fun cdv A outer s H E hr => (pss_consD (ps_asgD (pd_ofV (pv 0)) (pg_tupD (n := 3) rfl (gs_len1 (gs_len1 (gs_len1 gs_len0))) (pgs_consD (pg_nameD (i := 2) sc_turned_by.nd) (pgs_consD (pg_nameD (i := 3) sc_turned_by.nd) (pgs_consD (pg_nameD (i := 4) sc_turned_by.nd) pgs_nilD))) fun h => pg_tup rfl h))
 (pss_oneD (ps_retD (pd_ifExp (pt_cmp2 (od_eqA (hu65 hr)) (po_sl (pv 1)) (po_ev (pd_glo N.g_STRAIGHT)) (nomark _)) (pd_tup (pa_consD (pd_ofV (pv 3)) (pa_consD (pd_ofV (pv 4)) (pa_consD (pd_ofV (pv 2)) pa_nilD)))) (pd_tup (pa_consD (pd_ofV (pv 3)) (pa_consD (pd_ofV (pv 2)) (pa_consD (pd_ofV (pv 4)) pa_nilD))))))))
theorem ok_walk_of {f : Addr} {fd : FuncData} {f_turned_by : Addr} {fd_turned_by : FuncData} (N : En K mg) (C_turned_by : CalD P w K mg base "turned_by" (top 14) P_turned_by 1 m_turned_by f_turned_by fd_turned_by) (F : FunD K "walk_of" "walk_of" (defArgs (top 15)) (defBody (top 15)) (defScope (top 15)) [] [] f fd) (hm : mg "walk_of" = some (.ref f)) : CalD P w K mg base "walk_of" (top 15) P_walk_of 2 m_walk_of f fd where
  m := hm
  F := F
  b := F.bindsN fun _ _ _ _ _ _ us hl => match us, hl with | [_], _ => rfl
  G := okD (k := 1) (io := false) (N := N_walk_of) (b := b_walk_of) F sc_walk_of (by decide) fun cdv A outer s H E hr => (pss_consD (ps_setD (i := 1) sc_walk_of.nd (pd_lst (pa_consD (pd_glo N.g_HOME) pa_nilD)))
 (pss_consD (ps_forD (passes_of rfl) rfl (pi_valD (pd_ofV (pv 0))) (pg_nameD (i := 2) sc_walk_of.nd)
 (pss_oneD (ps_exprD (pd_app (pv 1) (pa_consD (pd_call (C_turned_by.G.mono (by decide)) hr (takes_of rfl rfl rfl rfl) C_turned_by.m C_turned_by.F.kp C_turned_by.b (pa_consD (pd_ix2 ix_seqD (po_sl (pv 1)) (po_ev (pd_neg pd_int))) (pa_consD (pd_ofV (pv 2)) pa_nilD)) (alen_cons (alen_cons alen_nil))) pa_nilD)))))
 (pss_oneD (ps_retD (pd_ofMv (pv 1))))))
theorem ok_last_corners {f : Addr} {fd : FuncData} {f_walk_of : Addr} {fd_walk_of : FuncData} (N : En K mg) (C_walk_of : CalD P w K mg base "walk_of" (top 15) P_walk_of 2 m_walk_of f_walk_of fd_walk_of) (F : FunD K "last_corners" "last_corners" (defArgs (top 16)) (defBody (top 16)) (defScope (top 16)) [] [] f fd) (hm : mg "last_corners" = some (.ref f)) : CalD P w K mg base "last_corners" (top 16) P_last_corners 3 m_last_corners f fd where
  m := hm
  F := F
  b := F.bindsN fun _ _ _ _ _ _ us hl => match us, hl with | [_], _ => rfl
  G := okD (k := 2) (io := false) (N := N_last_corners) (b := b_last_corners) F sc_last_corners (by decide) fun cdv A outer s H E hr => (pss_oneD (ps_retD (pd_ix2 ix_seqD (po_ev (pd_call (C_walk_of.G.mono (by decide)) hr (takes_of rfl rfl rfl rfl) C_walk_of.m C_walk_of.F.kp C_walk_of.b (pa_consD (pd_ofV (pv 0)) pa_nilD) (alen_cons alen_nil))) (po_ev (pd_neg pd_int)))))
theorem ok_folds_of {f : Addr} {fd : FuncData} {f_last_corners : Addr} {fd_last_corners : FuncData} (N : En K mg) (C_last_corners : CalD P w K mg base "last_corners" (top 16) P_last_corners 3 m_last_corners f_last_corners fd_last_corners) (F : FunD K "folds_of" "folds_of" (defArgs (top 20)) (defBody (top 20)) (defScope (top 20)) [] [] f fd) (hm : mg "folds_of" = some (.ref f)) : CalD P w K mg base "folds_of" (top 20) P_folds_of 4 m_folds_of f fd where
  m := hm
  F := F
  b := F.bindsN fun _ _ _ _ _ _ us hl => match us, hl with | [_], _ => rfl
  G := okD (k := 3) (io := false) (N := N_folds_of) (b := b_folds_of) F sc_folds_of (by decide) fun cdv A outer s H E hr => (pss_oneD (ps_retD (pd_and (pd_cmp2 (od_eqA (hu65 hr)) (po_ev (pd_call (C_last_corners.G.mono (by decide)) hr (takes_of rfl rfl rfl rfl) C_last_corners.m C_last_corners.F.kp C_last_corners.b (pa_consD (pd_ofV (pv 0)) pa_nilD) (alen_cons alen_nil))) (po_ev (pd_glo N.g_HOME)) (nomark _)) (pd_one (pd_cmp2 (od_in (hu65 hr)) (po_ev (pd_glo N.g_STRAIGHT)) (po_sl (pv 0)) rfl)))))
theorem ok_folds {f : Addr} {fd : FuncData} {f_check_strip f_folds_of : Addr} {fd_check_strip fd_folds_of : FuncData} (N : En K mg) (C_check_strip : CalD P w K mg base "check_strip" (top 10) P_check_strip 3 m_check_strip f_check_strip fd_check_strip) (C_folds_of : CalD P w K mg base "folds_of" (top 20) P_folds_of 4 m_folds_of f_folds_of fd_folds_of) (F : FunD K "folds" "folds" (defArgs (top 21)) (defBody (top 21)) (defScope (top 21)) [] [] f fd) (hm : mg "folds" = some (.ref f)) : CalD P w K mg base "folds" (top 21) P_folds 5 m_folds f fd where
  m := hm
  F := F
  b := F.bindsN fun _ _ _ _ _ _ us hl => match us, hl with | [_], _ => rfl
  G := okD (k := 4) (io := false) (N := N_folds) (b := b_folds) F sc_folds (by decide) fun cdv A outer s H E hr => (pss_consD (ps_exprD (pd_call (C_check_strip.G.mono (by decide)) hr (takes_of rfl rfl rfl rfl) C_check_strip.m C_check_strip.F.kp C_check_strip.b (pa_consD (pd_ofV (pv 0)) pa_nilD) (alen_cons alen_nil)))
 (pss_oneD (ps_retD (pd_call (C_folds_of.G.mono (by decide)) hr (takes_of rfl rfl rfl rfl) C_folds_of.m C_folds_of.F.kp C_folds_of.b (pa_consD (pd_ofV (pv 0)) pa_nilD) (alen_cons alen_nil)))))
theorem ok_why_not {f : Addr} {fd : FuncData} {f_check_strip f_last_corners : Addr} {fd_check_strip fd_last_corners : FuncData} (N : En K mg) (C_check_strip : CalD P w K mg base "check_strip" (top 10) P_check_strip 3 m_check_strip f_check_strip fd_check_strip) (C_last_corners : CalD P w K mg base "last_corners" (top 16) P_last_corners 3 m_last_corners f_last_corners fd_last_corners) (F : FunD K "why_not" "why_not" (defArgs (top 22)) (defBody (top 22)) (defScope (top 22)) [] [] f fd) (hm : mg "why_not" = some (.ref f)) : CalD P w K mg base "why_not" (top 22) P_why_not 4 m_why_not f fd where
  m := hm
  F := F
  b := F.bindsN fun _ _ _ _ _ _ us hl => match us, hl with | [_], _ => rfl
  G := okD (k := 3) (io := false) (N := N_why_not) (b := b_why_not) F sc_why_not (by decide) fun cdv A outer s H E hr => (pss_consD (ps_exprD (pd_call (C_check_strip.G.mono (by decide)) hr (takes_of rfl rfl rfl rfl) C_check_strip.m C_check_strip.F.kp C_check_strip.b (pa_consD (pd_ofV (pv 0)) pa_nilD) (alen_cons alen_nil)))
 (pss_consD (ps_setD (i := 1) sc_why_not.nd (pd_call (C_last_corners.G.mono (by decide)) hr (takes_of rfl rfl rfl rfl) C_last_corners.m C_last_corners.F.kp C_last_corners.b (pa_consD (pd_ofV (pv 0)) pa_nilD) (alen_cons alen_nil)))
 (pss_consD (ps_ifD (pt_cmp2 (od_neA (hu65 hr)) (po_sl (pv 1)) (po_ev (pd_glo N.g_HOME)) (nomark _))
 (pss_oneD (ps_retD (pd_tup (pa_consD (pd_glo N.g_AWAY) (pa_consD (pd_ofV (pv 1)) pa_nilD)))))
 pss_nilD)
 (pss_oneD (ps_retD (pd_ifExp (pt_cmp2 (od_in (hu65 hr)) (po_ev (pd_glo N.g_STRAIGHT)) (po_sl (pv 0)) rfl) pd_non (pd_tup (pa_consD (pd_glo N.g_BENT) (pa_consD (pd_callBV cd_len N.m_len (by decide +kernel) (pv 0) pa_nilD) pa_nilD)))))))))
theorem ok__law_call {f : Addr} {fd : FuncData} {f_folds f_why_not C_InvalidStrip I_InvalidStrip : Addr} {fd_folds fd_why_not fd_InvalidStrip : FuncData} (N : En K mg) (C_folds : CalD P w K mg base "folds" (top 21) P_folds 5 m_folds f_folds fd_folds) (C_why_not : CalD P w K mg base "why_not" (top 22) P_why_not 4 m_why_not f_why_not fd_why_not) (E_InvalidStrip : ErD P w K mg base "InvalidStrip" "given" C_InvalidStrip I_InvalidStrip fd_InvalidStrip ["self", "given"]) (F : FunD K "_law_call" "_law_call" (defArgs (top 35)) (defBody (top 35)) (defScope (top 35)) [] [] f fd) (hm : mg "_law_call" = some (.ref f)) : CalD P w K mg base "_law_call" (top 35) P__law_call 6 m__law_call f fd where
  m := hm
  F := F
  b := F.bindsN fun _ _ _ _ _ _ us hl => match us, hl with | [_, _, _], _ => rfl
  G := okD (k := 5) (io := false) (N := N__law_call) (b := b__law_call) F sc__law_call (by decide) fun cdv A outer s H E hr => (pss_oneD (ps_try1D (i := 3) (its := [.inl "strip", .inr "given"]) rfl rfl sc__law_call.nd (takes_of rfl rfl rfl rfl) E_InvalidStrip.T E_InvalidStrip.m (fun W' pn xe tk' hp' => (pss_consD (ps_ifD (pt_cmp2 (od_eqA (hu65 hr)) (po_sl (pv 0)) (po_ev pd_int) (nomark _))
 (pss_oneD (ps_retD (pd_lst (pa_consD pd_str (pa_consD (pd_ifExp (pt_cmp2 (od_eqA (hu65 hr)) (po_sl (pv 2)) (po_ev pd_int) (nomark _)) (pd_call (C_folds.G.mono (by decide)) hr tk' C_folds.m C_folds.F.kp C_folds.b (pa_consD (pd_ofV (pv 1)) pa_nilD) (alen_cons alen_nil)) (pd_callK0 (ks := P_folds) (C_folds.G.mono (by decide)) hr tk' C_folds.m C_folds.F.kp (kbinds0 C_folds.F fun _ _ _ _ _ _ us hl => match us, hl with | [_], _ => rfl) (pk_consD (pd_ofV (pv 1)) pk_nilD) (alen_cons alen_nil))) pa_nilD)))))
 pss_nilD)
 (pss_oneD (ps_retD (pd_lst (pa_consD pd_str (pa_consD (pd_ifExp (pt_cmp2 (od_eqA (hu65 hr)) (po_sl (pv 2)) (po_ev pd_int) (nomark _)) (pd_call (C_why_not.G.mono (by decide)) hr tk' C_why_not.m C_why_not.F.kp C_why_not.b (pa_consD (pd_ofV (pv 1)) pa_nilD) (alen_cons alen_nil)) (pd_callK0 (ks := P_why_not) (C_why_not.G.mono (by decide)) hr tk' C_why_not.m C_why_not.F.kp (kbinds0 C_why_not.F fun _ _ _ _ _ _ us hl => match us, hl with | [_], _ => rfl) (pk_consD (pd_ofV (pv 1)) pk_nilD) (alen_cons alen_nil))) pa_nilD)))))))
 (fun a oe cls d pn hz hf => pss_one (ps_ret (pe_lst (pa_cons pe_str (pa_cons (pe_xf E_InvalidStrip.T.xf (E_InvalidStrip.T.nof _ (by decide)) hz hf (pv 3)) pa_nil)))))))
theorem ok__law_right {f : Addr} {fd : FuncData} {f__law_home f__law_counted f__law_like f__law_call : Addr} {fd__law_home fd__law_counted fd__law_like fd__law_call : FuncData} (N : En K mg) (C__law_home : CalD P w K mg base "_law_home" (top 33) P__law_home 2 m__law_home f__law_home fd__law_home) (C__law_counted : CalD P w K mg base "_law_counted" (top 31) P__law_counted 1 m__law_counted f__law_counted fd__law_counted) (C__law_like : CalD P w K mg base "_law_like" (top 27) P__law_like 1 m__law_like f__law_like fd__law_like) (C__law_call : CalD P w K mg base "_law_call" (top 35) P__law_call 6 m__law_call f__law_call fd__law_call) (F : FunD K "_law_right" "_law_right" (defArgs (top 36)) (defBody (top 36)) (defScope (top 36)) [] [] f fd) (hm : mg "_law_right" = some (.ref f)) : CalD P w K mg base "_law_right" (top 36) P__law_right 7 m__law_right f fd where
  m := hm
  F := F
  b := F.bindsN fun _ _ _ _ _ _ us hl => match us, hl with | [_, _], _ => rfl
  G := okD (k := 6) (io := false) (N := N__law_right) (b := b__law_right) F sc__law_right (by decide) fun cdv A outer s H E hr => (pss_consD (ps_parD (i := 2) (j := 3) rfl sc__law_right.nd (pa_consD (pd_call (C__law_home.G.mono (by decide)) hr (takes_of rfl rfl rfl rfl) C__law_home.m C__law_home.F.kp C__law_home.b (pa_consD (pd_ofV (pv 0)) pa_nilD) (alen_cons alen_nil)) (pa_consD (pd_cmp2 od_gt (po_ev (pd_call (C__law_counted.G.mono (by decide)) hr (takes_of rfl rfl rfl rfl) C__law_counted.m C__law_counted.F.kp C__law_counted.b (pa_consD (pd_ofV (pv 0)) pa_nilD) (alen_cons alen_nil))) (po_ev pd_int) (nomark _)) pa_nilD)))
 (pss_consD (ps_ifD (pt_cmp2 (od_neA (hu65 hr)) (po_sl (pv 3)) (po_ev (pd_and (pd_cmp2 (od_eqA (hu65 hr)) (po_sl (pv 2)) (po_ev (pd_tup (pa_consD pd_int (pa_consD pd_int (pa_consD pd_int pa_nilD))))) (nomark _)) (pd_one (pd_cmp2 (od_in (hu65 hr)) (po_ev pd_str) (po_sl (pv 0)) rfl)))) (nomark _))
 (pss_oneD (ps_retD pd_bl))
 pss_nilD)
 (pss_consD (ps_setD (i := 4) sc__law_right.nd (pd_ifExp (pt_tru2 (po_sl (pv 3))) pd_non (pd_ifExp (pt_cmp2 (od_neA (hu65 hr)) (po_sl (pv 2)) (po_ev (pd_tup (pa_consD pd_int (pa_consD pd_int (pa_consD pd_int pa_nilD))))) (nomark _)) (pd_tup (pa_consD pd_str (pa_consD (pd_ofV (pv 2)) pa_nilD))) (pd_tup (pa_consD pd_str (pa_consD (pd_callBV cd_len N.m_len (by decide +kernel) (pv 0) pa_nilD) pa_nilD))))))
 (pss_oneD (ps_retD (pd_call (C__law_like.G.mono (by decide)) hr (takes_of rfl rfl rfl rfl) C__law_like.m C__law_like.F.kp C__law_like.b (pa_consD (pd_lst (pa_consD (pd_call (C__law_call.G.mono (by decide)) hr (takes_of rfl rfl rfl rfl) C__law_call.m C__law_call.F.kp C__law_call.b (pa_consD pd_int (pa_consD (pd_ofV (pv 0)) (pa_consD (pd_ofV (pv 1)) pa_nilD))) (alen_cons (alen_cons (alen_cons alen_nil)))) (pa_consD (pd_call (C__law_call.G.mono (by decide)) hr (takes_of rfl rfl rfl rfl) C__law_call.m C__law_call.F.kp C__law_call.b (pa_consD pd_int (pa_consD (pd_ofV (pv 0)) (pa_consD (pd_op2 od_sub (po_ev pd_int) (po_sl (pv 1))) pa_nilD))) (alen_cons (alen_cons (alen_cons alen_nil)))) (pa_consD (pd_call (C__law_call.G.mono (by decide)) hr (takes_of rfl rfl rfl rfl) C__law_call.m C__law_call.F.kp C__law_call.b (pa_consD pd_int (pa_consD (pd_ofV (pv 0)) (pa_consD (pd_ofV (pv 1)) pa_nilD))) (alen_cons (alen_cons (alen_cons alen_nil)))) pa_nilD)))) (pa_consD (pd_lst (pa_consD (pd_lst (pa_consD pd_str (pa_consD (pd_ofV (pv 3)) pa_nilD))) (pa_consD (pd_lst (pa_consD pd_str (pa_consD (pd_ofV (pv 4)) pa_nilD))) (pa_consD (pd_lst (pa_consD pd_str (pa_consD (pd_ofV (pv 4)) pa_nilD))) pa_nilD)))) pa_nilD)) (alen_cons (alen_cons alen_nil))))))))
theorem ok_law {f : Addr} {fd : FuncData} {f__law_box f__law_cell f__law_take f__law_signs f__law_strip f__law_drawn f__law_right f__law_like f__law_call : Addr} {fd__law_box fd__law_cell fd__law_take fd__law_signs fd__law_strip fd__law_drawn fd__law_right fd__law_like fd__law_call : FuncData} (N : En K mg) (C__law_box : CalD P w K mg base "_law_box" (top 25) P__law_box 1 m__law_box f__law_box fd__law_box) (C__law_cell : CalD P w K mg base "_law_cell" (top 24) P__law_cell 1 m__law_cell f__law_cell fd__law_cell) (C__law_take : CalD P w K mg base "_law_take" (top 26) P__law_take 1 m__law_take f__law_take fd__law_take) (C__law_signs : CalD P w K mg base "_law_signs" (top 34) P__law_signs 3 m__law_signs f__law_signs fd__law_signs) (C__law_strip : CalD P w K mg base "_law_strip" (top 30) P__law_strip 2 m__law_strip f__law_strip fd__law_strip) (C__law_drawn : CalD P w K mg base "_law_drawn" (top 28) P__law_drawn 2 m__law_drawn f__law_drawn fd__law_drawn) (C__law_right : CalD P w K mg base "_law_right" (top 36) P__law_right 7 m__law_right f__law_right fd__law_right) (C__law_like : CalD P w K mg base "_law_like" (top 27) P__law_like 1 m__law_like f__law_like fd__law_like) (C__law_call : CalD P w K mg base "_law_call" (top 35) P__law_call 6 m__law_call f__law_call fd__law_call) (F : FunD K "law" "law" (defArgs (top 37)) (defBody (top 37)) (defScope (top 37)) [] [] f fd) (hm : mg "law" = some (.ref f)) : CalD P w K mg base "law" (top 37) P_law 8 m_law f fd where
  m := hm
  F := F
  b := F.bindsN fun _ _ _ _ _ _ us hl => match us, hl with | [_], _ => rfl
  G := okD (k := 7) (io := false) (N := N_law) (b := b_law) F sc_law (by decide) fun cdv A outer s H E hr => (pss_consD (ps_setD (i := 1) sc_law.nd (pd_cmp2 (od_eqA (hu65 hr)) (po_ev (pd_op2 od_mod (po_ev (pd_callTy cd_int N.m_int (by decide +kernel) (pa_consD (pd_callB (cd_sum rfl (cr_sum rfl)) N.m_sum (by decide +kernel) (pa_consD (pd_slice (pd_ofV (pv 0)) po_noneD (po_someD pd_int)) pa_nilD)) pa_nilD))) (po_ev pd_int))) (po_ev pd_int) (nomark _)))
 (pss_consD (ps_forD (passes_of rfl) rfl (pi_rng1D N.m_range (pa_consD (pd_callB (cd_max2 rfl) N.m_max (by decide +kernel) (pa_consD pd_int (pa_consD (pd_callB (cd_min2 rfl) N.m_min (by decide +kernel) (pa_consD pd_int (pa_consD (pd_callBV cd_len N.m_len (by decide +kernel) (pv 0) pa_nilD) pa_nilD))) pa_nilD))) pa_nilD)) (pg_nameD (i := 2) sc_law.nd)
 (pss_consD (ps_setD (i := 3) sc_law.nd (pd_call (C__law_box.G.mono (by decide)) hr (takes_of rfl rfl rfl rfl) C__law_box.m C__law_box.F.kp C__law_box.b (pa_consD (pd_call (C__law_cell.G.mono (by decide)) hr (takes_of rfl rfl rfl rfl) C__law_cell.m C__law_cell.F.kp C__law_cell.b (pa_consD (pd_ofV (pv 0)) (pa_consD (pd_ofV (pv 2)) pa_nilD)) (alen_cons (alen_cons alen_nil))) pa_nilD) (alen_cons alen_nil)))
 (pss_consD (ps_setD (i := 4) sc_law.nd (pd_callI (i := 3) (C__law_take.G.mono (by decide)) hr (takes_of rfl rfl rfl rfl) C__law_take.m C__law_take.F.kp C__law_take.b (pa_consD pd_int pa_nilD) (fun S ds S' h => congrArg (· + 1) ((alen_cons alen_nil) S ds S' h))))
 (pss_consD (ps_forD (passes_of rfl) rfl (pi_rng1D N.m_range (pa_consD pd_int pa_nilD)) (pg_nameD (i := 5) sc_law.nd)
 (pss_consD (ps_setD (i := 6) sc_law.nd (pd_ix2 ix_seqD (po_ev (pd_lst (pa_consD pd_int (pa_consD pd_int (pa_consD pd_int (pa_consD pd_int (pa_consD pd_int (pa_consD pd_int (pa_consD pd_int (pa_consD pd_int (pa_consD pd_int (pa_consD pd_int pa_nilD)))))))))))) (po_ev (pd_callI (i := 3) (C__law_take.G.mono (by decide)) hr (takes_of rfl rfl rfl rfl) C__law_take.m C__law_take.F.kp C__law_take.b (pa_consD pd_int pa_nilD) (fun S ds S' h => congrArg (· + 1) ((alen_cons alen_nil) S ds S' h))))))
 (pss_consD (ps_setD (i := 7) sc_law.nd (pd_ifExp (pt_cmp2 (od_lt (hu65 hr)) (po_sl (pv 5)) (po_ev pd_int) (nomark _)) (pd_callI (i := 3) (C__law_signs.G.mono (by decide)) hr (takes_of rfl rfl rfl rfl) C__law_signs.m C__law_signs.F.kp C__law_signs.b (pa_consD (pd_ofV (pv 6)) pa_nilD) (fun S ds S' h => congrArg (· + 1) ((alen_cons alen_nil) S ds S' h))) (pd_call (C__law_strip.G.mono (by decide)) hr (takes_of rfl rfl rfl rfl) C__law_strip.m C__law_strip.F.kp C__law_strip.b (pa_consD (pd_callI (i := 3) (C__law_drawn.G.mono (by decide)) hr (takes_of rfl rfl rfl rfl) C__law_drawn.m C__law_drawn.F.kp C__law_drawn.b (pa_consD (pd_ofV (pv 6)) pa_nilD) (fun S ds S' h => congrArg (· + 1) ((alen_cons alen_nil) S ds S' h))) pa_nilD) (alen_cons alen_nil))))
 (pss_consD (ps_ifD (pt_cmp2 (od_eqA (hu65 hr)) (po_sl (pv 5)) (po_ev pd_int) (nomark _))
 (pss_consD (ps_setD (i := 8) sc_law.nd (pd_callI (i := 3) (C__law_take.G.mono (by decide)) hr (takes_of rfl rfl rfl rfl) C__law_take.m C__law_take.F.kp C__law_take.b (pa_consD (pd_ofV (pv 6)) pa_nilD) (fun S ds S' h => congrArg (· + 1) ((alen_cons alen_nil) S ds S' h))))
 (pss_oneD (ps_setD (i := 7) sc_law.nd (pd_op2 od_add (po_ev (pd_op2 od_add (po_ev (pd_slice (pd_ofV (pv 7)) po_noneD (po_someD (pd_ofV (pv 8))))) (po_ev (pd_ifExp (pt_cmp2 (od_eqA (hu65 hr)) (po_ev (pd_ix2 ix_seqD (po_sl (pv 7)) (po_sl (pv 8)))) (po_ev pd_str) (nomark _)) pd_str pd_str)))) (po_ev (pd_slice (pd_ofV (pv 7)) (po_someD (pd_op2 od_add (po_sl (pv 8)) (po_ev pd_int))) po_noneD))))))
 pss_nilD)
 (pss_consD (ps_ifD (pt_notD (pt_tru2 (po_ev (pd_call (C__law_right.G.mono (by decide)) hr (takes_of rfl rfl rfl rfl) C__law_right.m C__law_right.F.kp C__law_right.b (pa_consD (pd_ofV (pv 7)) (pa_consD (pd_op2 od_mod (po_ev (pd_callTy cd_int N.m_int (by decide +kernel) (pa_consD (pd_op2 od_add (po_sl (pv 4)) (po_sl (pv 5))) pa_nilD))) (po_ev pd_int)) pa_nilD)) (alen_cons (alen_cons alen_nil))))))
 (pss_oneD (ps_retD pd_bl))
 pss_nilD)
 (pss_consD (ps_setD (i := 8) sc_law.nd (pd_callI (i := 3) (C__law_take.G.mono (by decide)) hr (takes_of rfl rfl rfl rfl) C__law_take.m C__law_take.F.kp C__law_take.b (pa_consD (pd_ofV (pv 6)) pa_nilD) (fun S ds S' h => congrArg (· + 1) ((alen_cons alen_nil) S ds S' h))))
 (pss_oneD (ps_ifD (PWd.pt (pw_orD (pt_notD (pt_tru2 (po_ev (pd_call (C__law_right.G.mono (by decide)) hr (takes_of rfl rfl rfl rfl) C__law_right.m C__law_right.F.kp C__law_right.b (pa_consD (pd_op2 od_add (po_ev (pd_slice (pd_ofV (pv 7)) (po_someD (pd_ofV (pv 8))) po_noneD)) (po_ev (pd_slice (pd_ofV (pv 7)) po_noneD (po_someD (pd_ofV (pv 8)))))) (pa_consD (pd_ofV (pv 4)) pa_nilD)) (alen_cons (alen_cons alen_nil)))))) (pw_or1D (pt_notD (pt_tru2 (po_ev (pd_call (C__law_right.G.mono (by decide)) hr (takes_of rfl rfl rfl rfl) C__law_right.m C__law_right.F.kp C__law_right.b (pa_consD (pd_revS (pd_ofV (pv 7))) (pa_consD (pd_op2 od_sub (po_ev pd_int) (po_sl (pv 4))) pa_nilD)) (alen_cons (alen_cons alen_nil)))))))))
 (pss_oneD (ps_retD pd_bl))
 pss_nilD))))))))
 (pss_consD (ps_ifD (PWd.pt (pw_andD (pt_tru2 (po_sl (pv 1))) (pw_and1D (pt_cmp2 (od_eqA (hu65 hr)) (po_sl (pv 2)) (po_ev pd_int) (nomark _)))))
 (pss_oneD (ps_forD (passes_of rfl) rfl (pi_valD (pd_fz (pd_lst (pa_consD pd_int (pa_consD pd_int (pa_consD pd_int (pa_consD pd_int (pa_consD pd_int pa_nilD)))))))) (pg_nameD (i := 6) sc_law.nd)
 (pss_oneD (ps_forD (passes_of rfl) rfl (pi_rng1D N.m_range (pa_consD (pd_op2 od_shl (po_ev pd_int) (po_sl (pv 6))) pa_nilD)) (pg_nameD (i := 9) sc_law.nd)
 (pss_oneD (ps_ifD (pt_notD (pt_tru2 (po_ev (pd_call (C__law_right.G.mono (by decide)) hr (takes_of rfl rfl rfl rfl) C__law_right.m C__law_right.F.kp C__law_right.b (pa_consD (pd_join pd_str (pe_lcD rfl sc_law.nd (pi_rng1D N.m_range (pa_consD (pd_ofV (pv 6)) pa_nilD)) (⟨rfl, by decide +kernel, by decide +kernel, by decide +kernel, by decide +kernel⟩ : BlkOk N_law (defScope (top 37)) _ [("j", 10)]) rfl (by decide) (.inl rfl) (fun _ _ _ _ _ => (pg_nameD (i := 10) sc_law.nd)) ht_nil (fun _ _ _ _ _ => (pd_ix2 ix_seqD (po_ev pd_str) (po_ev (pd_op2 od_and (po_ev (pd_callTy cd_int N.m_int (by decide +kernel) (pa_consD (pd_op2 od_shr (po_sl (pv 9)) (po_sl (pv 10))) pa_nilD))) (po_ev pd_int))))))) (pa_consD (pd_op2 od_mod (po_ev (pd_callTyV cd_int N.m_int (by decide +kernel) (pv 9) pa_nilD)) (po_ev pd_int)) pa_nilD)) (alen_cons (alen_cons alen_nil))))))
 (pss_oneD (ps_retD pd_bl))
 pss_nilD))))))
 pss_nilD)
 (pss_oneD (ps_forD (passes_of rfl) rfl (pi_valD (pd_fz (pd_lst (pa_consD pd_non (pa_consD pd_str (pa_consD pd_str (pa_consD (pd_op2 od_mul (po_ev pd_str) (po_ev pd_int)) (pa_consD pd_str (pa_consD (pd_callTyV (cd_list rfl) N.m_list (by decide +kernel) (pv 7) pa_nilD) (pa_consD (pd_callTyV (cd_tuple rfl) N.m_tuple (by decide +kernel) (pv 7) pa_nilD) (pa_consD pd_int (pa_consD pd_bl (pa_consD pd_dnewT (pa_consD (pd_op2 od_add (po_sl (pv 7)) (po_ev pd_str)) (pa_consD pd_str pa_nilD))))))))))))))) (pg_nameD (i := 11) sc_law.nd)
 (pss_oneD (ps_ifD (pt_notD (pt_tru2 (po_ev (pd_call (C__law_like.G.mono (by decide)) hr (takes_of rfl rfl rfl rfl) C__law_like.m C__law_like.F.kp C__law_like.b (pa_consD (pd_lst (pa_consD (pd_call (C__law_call.G.mono (by decide)) hr (takes_of rfl rfl rfl rfl) C__law_call.m C__law_call.F.kp C__law_call.b (pa_consD pd_int (pa_consD (pd_ofV (pv 11)) (pa_consD (pd_ofV (pv 4)) pa_nilD))) (alen_cons (alen_cons (alen_cons alen_nil)))) (pa_consD (pd_call (C__law_call.G.mono (by decide)) hr (takes_of rfl rfl rfl rfl) C__law_call.m C__law_call.F.kp C__law_call.b (pa_consD pd_int (pa_consD (pd_ofV (pv 11)) (pa_consD (pd_op2 od_sub (po_ev pd_int) (po_sl (pv 4))) pa_nilD))) (alen_cons (alen_cons (alen_cons alen_nil)))) pa_nilD))) (pa_consD (pd_lst (pa_consD (pd_lst (pa_consD pd_str (pa_consD (pd_ofV (pv 11)) pa_nilD))) (pa_consD (pd_lst (pa_consD pd_str (pa_consD (pd_ofV (pv 11)) pa_nilD))) pa_nilD))) pa_nilD)) (alen_cons (alen_cons alen_nil))))))
 (pss_oneD (ps_retD pd_bl))
 pss_nilD)))))))))
 (pss_oneD (ps_retD pd_bl))))
end
end Fk07

set_option maxHeartbeats 4000000
namespace Fk07
open PySem PySem.Spec PyProof.Rows L2 Fx
theorem atI_nat {α : Type} {l : List α} {k : Nat} (h : k < l.length) : L2.atI l (k : Int) = some l[k] := by
  have h1 : ixN l.length (k : Int) = some k := by
    unfold ixN
    rw [if_pos (by omega), if_pos (by omega)]
    simp
  unfold L2.atI
  rw [h1]
  show l[k]? = _
  exact List.getElem?_eq_getElem h
theorem gIx_lst {o : Ow} {ds : List D} {k : Nat} (h : k < ds.length) (n : noOwn ds[k] = true) : gIx (.lst o ds) (.int k) = some ds[k] := by
  show (L2.atI ds (k : Int)).bind _ = _
  rw [atI_nat h, Option.bind_some, if_pos n]
theorem gIx_tup {o : Bool} {ds : List D} {k : Nat} (h : k < ds.length) (n : noOwn ds[k] = true) : gIx (.tup o ds) (.int k) = some ds[k] := by
  show (L2.atI ds (k : Int)).bind _ = _
  rw [atI_nat h, Option.bind_some, if_pos n]
theorem gIx_str {s : Str} {k : Nat} (h : k < s.cps.toList.length) (hl : s.length ≤ 1000000) : gIx (.str s) (.int k) = some (.str ⟨#[s.cps.toList[k]]⟩) := by
  show (if s.length ≤ 1000000 then (L2.atI s.cps.toList (k : Int)).map _ else none) = _
  rw [if_pos hl, atI_nat h]
  rfl
theorem cutD_one (ns : List Int) : Fx.cutD (ns.map D.int) none (some 1) = (ns.take 1).map D.int := by
  cases ns <;> rfl
theorem cell_ok (ns : List Int) (k : Nat) : ∃ c : Int, m__law_cell [.lst .fix (ns.map .int), .int k] = some (.ok (.int c), none) := by
  by_cases h : (k : Int) < ns.length
  · have hk : k < ns.length := by omega
    refine ⟨ns[k], ?_⟩
    rw [u__law_cell]
    have e := gIx_lst (o := .fix) (ds := ns.map D.int) (k := k) (by simpa using hk) (by simp [noOwn])
    simp only [finM_ret, finM_nx, finM_err, finI_ret, sRet, sRetN, sEx, andThen, sAs, sSeq, sIf, sNx, sPar, sPar3, sRaise, mIf, bIf, bAnd, bOr, bNot, tVal, tTru, tTru2, asB, truD, mOp2, mOp, mC, mV, mMv, rd, mCBV, mCB, mCall, mCallI, mFz, mNeg, mTup, mLst, aCons, aNil, mAndV, mOrV, mNotV, mSl, oNone, oSome, gSl,
  bnd_ok, bnd_er, got_ok, gNm, gTp, gsCons, gsNil, gSubL, mMut, fApp, fPop, iVal, iRng, rngD1, rngD2, itemsD, mCh, cLast, cLink, tYesD,
  List.map_cons, List.map_nil, List.length_cons, List.length_nil, List.replicate, List.cons_append, List.nil_append, List.append_nil, List.getElem?_cons_zero, List.getElem?_cons_succ, List.set_cons_zero, List.set_cons_succ, Option.map_some, Option.join_some, Option.isSome_some, Option.bind_some,
  noOwn_int, noOwn_bl, noOwn_str, noOwn_non, noOwn_ty, noOwn_lst, noOwn_tup, noOwn_dit, noOwns_nil, noOwns_cons, noOwns_ints, fz_int, fz_bl, fz_str, fz_non, if_true, if_false, Bool.and_self, Bool.and_true, Bool.true_and, Bool.false_and, Bool.and_false, decide_true, decide_false, Bool.false_eq_true,
  gAdd_int, gSub_int, gLt_int, gLe_int, gGt_int, gGe_int, gEqA_int, gNeA_int, gEqA_str, gNeA_str, gLen, gInt, gAbs, gSum, intsOf_map, reduceCtorEq, ne_eq, not_false_eq_true, not_true_eq_false, and_self, and_true, true_and, and_false, false_and, Nat.reduceAdd, Nat.reduceSub, Nat.reduceMul, Nat.reduceLT, Nat.reduceLeDiff, Nat.zero_add, Int.reduceNeg, Int.reduceLT, Int.reduceLE, Int.reduceAdd, Int.reduceSub, Int.reduceMul, Int.reduceEq, Int.reduceNe, b__law_cell, List.length_map, h, e, List.getElem_map]
  · refine ⟨6793 * k + (((ns.take 1).sum).fmod 1000033), ?_⟩
    rw [u__law_cell]
    have e1 : gMul (.int 6793) (.int k) = some (.int (6793 * k)) := gMul_int (.inl ⟨by decide, by decide⟩)
    have e2 : gMod (.int (ns.take 1).sum) (.int 1000033) = some (.int ((ns.take 1).sum.fmod 1000033)) := gMod_int (by decide)
    simp only [finM_ret, finM_nx, finM_err, finI_ret, sRet, sRetN, sEx, andThen, sAs, sSeq, sIf, sNx, sPar, sPar3, sRaise, mIf, bIf, bAnd, bOr, bNot, tVal, tTru, tTru2, asB, truD, mOp2, mOp, mC, mV, mMv, rd, mCBV, mCB, mCall, mCallI, mFz, mNeg, mTup, mLst, aCons, aNil, mAndV, mOrV, mNotV, mSl, oNone, oSome, gSl,
  bnd_ok, bnd_er, got_ok, gNm, gTp, gsCons, gsNil, gSubL, mMut, fApp, fPop, iVal, iRng, rngD1, rngD2, itemsD, mCh, cLast, cLink, tYesD,
  List.map_cons, List.map_nil, List.length_cons, List.length_nil, List.replicate, List.cons_append, List.nil_append, List.append_nil, List.getElem?_cons_zero, List.getElem?_cons_succ, List.set_cons_zero, List.set_cons_succ, Option.map_some, Option.join_some, Option.isSome_some, Option.bind_some,
  noOwn_int, noOwn_bl, noOwn_str, noOwn_non, noOwn_ty, noOwn_lst, noOwn_tup, noOwn_dit, noOwns_nil, noOwns_cons, noOwns_ints, fz_int, fz_bl, fz_str, fz_non, if_true, if_false, Bool.and_self, Bool.and_true, Bool.true_and, Bool.false_and, Bool.and_false, decide_true, decide_false, Bool.false_eq_true,
  gAdd_int, gSub_int, gLt_int, gLe_int, gGt_int, gGe_int, gEqA_int, gNeA_int, gEqA_str, gNeA_str, gLen, gInt, gAbs, gSum, intsOf_map, reduceCtorEq, ne_eq, not_false_eq_true, not_true_eq_false, and_self, and_true, true_and, and_false, false_and, Nat.reduceAdd, Nat.reduceSub, Nat.reduceMul, Nat.reduceLT, Nat.reduceLeDiff, Nat.zero_add, Int.reduceNeg, Int.reduceLT, Int.reduceLE, Int.reduceAdd, Int.reduceSub, Int.reduceMul, Int.reduceEq, Int.reduceNe, b__law_cell, List.length_map, h, e1, e2, cutD_one]
def Bx (B : Nat) (d : D) : Prop := ∃ (a c : Int) (b : Bool) (n : Nat), d = .lst .own [.int a, .bl b, .int c, .int n] ∧ 0 ≤ a ∧ 0 ≤ c ∧ c < 2147483648 ∧ n ≤ B
theorem Bx.mono {B B' : Nat} {d : D} (h : Bx B d) (hb : B ≤ B') : Bx B' d := by
  obtain ⟨a, c, b, n, h1, h2, h3, h4, h5⟩ := h
  exact ⟨a, c, b, n, h1, h2, h3, h4, by omega⟩
theorem fm_nn {a b : Int} (hb : 0 < b) : 0 ≤ a.fmod b ∧ a.fmod b < b := ⟨Int.fmod_nonneg_of_pos a hb, Int.fmod_lt_of_pos a hb⟩
theorem box_ok (g : Int) : ∃ d, m__law_box [.int g] = some (.ok d, none) ∧ Bx 0 d := by
  have e1 : gPow (.int 10) (.int 18) = some (.int (10 ^ (18 : Int).toNat)) := gPow_int (by unfold CPow; decide)
  have e2 : gMod (.int (if g < 0 then -g else g)) (.int 2147483629) = some (.int ((if g < 0 then -g else g).fmod 2147483629)) := gMod_int (by decide)
  generalize hA : (if g < 0 then -g else g) = A at e2
  refine ⟨.lst .own [.int A, .bl (decide ((10 : Int) ^ (18 : Int).toNat ≤ A)), .int (A.fmod 2147483629), .int 0], ?_, A, A.fmod 2147483629, _, 0, rfl, ?_, (fm_nn (a := A) (b := 2147483629) (by decide)).1, ?_, Nat.le_refl _⟩
  · rw [u__law_box]
    simp only [finM_ret, finM_nx, finM_err, finI_ret, sRet, sRetN, sEx, andThen, sAs, sSeq, sIf, sNx, sPar, sPar3, sRaise, mIf, bIf, bAnd, bOr, bNot, tVal, tTru, tTru2, asB, truD, mOp2, mOp, mC, mV, mMv, rd, mCBV, mCB, mCall, mCallI, mFz, mNeg, mTup, mLst, aCons, aNil, mAndV, mOrV, mNotV, mSl, oNone, oSome, gSl,
  bnd_ok, bnd_er, got_ok, gNm, gTp, gsCons, gsNil, gSubL, mMut, fApp, fPop, iVal, iRng, rngD1, rngD2, itemsD, mCh, cLast, cLink, tYesD,
  List.map_cons, List.map_nil, List.length_cons, List.length_nil, List.replicate, List.cons_append, List.nil_append, List.append_nil, List.getElem?_cons_zero, List.getElem?_cons_succ, List.set_cons_zero, List.set_cons_succ, Option.map_some, Option.join_some, Option.isSome_some, Option.bind_some,
  noOwn_int, noOwn_bl, noOwn_str, noOwn_non, noOwn_ty, noOwn_lst, noOwn_tup, noOwn_dit, noOwns_nil, noOwns_cons, noOwns_ints, fz_int, fz_bl, fz_str, fz_non, if_true, if_false, Bool.and_self, Bool.and_true, Bool.true_and, Bool.false_and, Bool.and_false, decide_true, decide_false, Bool.false_eq_true,
  gAdd_int, gSub_int, gLt_int, gLe_int, gGt_int, gGe_int, gEqA_int, gNeA_int, gEqA_str, gNeA_str, gLen, gInt, gAbs, gSum, intsOf_map, reduceCtorEq, ne_eq, not_false_eq_true, not_true_eq_false, and_self, and_true, true_and, and_false, false_and, Nat.reduceAdd, Nat.reduceSub, Nat.reduceMul, Nat.reduceLT, Nat.reduceLeDiff, Nat.zero_add, Int.reduceNeg, Int.reduceLT, Int.reduceLE, Int.reduceAdd, Int.reduceSub, Int.reduceMul, Int.reduceEq, Int.reduceNe, b__law_box, e1, hA, e2]
  · rw [← hA]
    split <;> omega
  · have := (fm_nn (a := A) (b := 2147483629) (by decide)).2
    omega
theorem take_ok {B : Nat} {d : D} {many : Int} (h : Bx B d) (hB : B ≤ 1000000000) (h1 : 1 ≤ many) (h2 : many < 1073741824) : ∃ (k : Int) (d' : D), m__law_take [d, .int many] = some (.ok (.int k), some d') ∧ 0 ≤ k ∧ k < many ∧ Bx (B + 1) d' := by
  obtain ⟨a, c, b, n, rfl, ha, hc, hc2, hn⟩ := h
  have i0 : ∀ ds : List D, ∀ x, noOwn x = true → gIx (.lst .own (x :: ds)) (.int 0) = some x := fun ds x hx => gIx_lst (k := 0) (by simp) (by simpa using hx)
  have i1 : ∀ ds : List D, ∀ x y, noOwn y = true → gIx (.lst .own (x :: y :: ds)) (.int 1) = some y := fun ds x y hx => gIx_lst (k := 1) (by simp) (by simpa using hx)
  have i2 : ∀ ds : List D, ∀ x y z, noOwn z = true → gIx (.lst .own (x :: y :: z :: ds)) (.int 2) = some z := fun ds x y z hx => gIx_lst (k := 2) (by simp) (by simpa using hx)
  have i3 : ∀ ds : List D, ∀ x y z u, noOwn u = true → gIx (.lst .own (x :: y :: z :: u :: ds)) (.int 3) = some u := fun ds x y z u hx => gIx_lst (k := 3) (by simp) (by simpa using hx)
  have hm : ∀ i : Int, gMod (.int i) (.int many) = some (.int (i.fmod many)) := fun i => gMod_int (by omega)
  have x0 : ixN 4 0 = some 0 := rfl
  have x3 : ixN 4 3 = some 3 := rfl
  by_cases hb : b = true ∧ 0 < a
  · obtain ⟨rfl, ha0⟩ := hb
    have hd : gDiv (.int a) (.int many) = some (.int (a.fdiv many)) := gDiv_int (by unfold CDivN; omega)
    refine ⟨a.fmod many, .lst .own [.int (a.fdiv many), .bl true, .int c, .int n], ?_, (fm_nn (by omega)).1, (fm_nn (by omega)).2, _, _, _, n, rfl, Int.fdiv_nonneg ha (by omega), hc, hc2, by omega⟩
    rw [u__law_take]
    simp only [finM_ret, finM_nx, finM_err, finI_ret, sRet, sRetN, sEx, andThen, sAs, sSeq, sIf, sNx, sPar, sPar3, sRaise, mIf, bIf, bAnd, bOr, bNot, tVal, tTru, tTru2, asB, truD, mOp2, mOp, mC, mV, mMv, rd, mCBV, mCB, mCall, mCallI, mFz, mNeg, mTup, mLst, aCons, aNil, mAndV, mOrV, mNotV, mSl, oNone, oSome, gSl,
  bnd_ok, bnd_er, got_ok, gNm, gTp, gsCons, gsNil, gSubL, mMut, fApp, fPop, iVal, iRng, rngD1, rngD2, itemsD, mCh, cLast, cLink, tYesD,
  List.map_cons, List.map_nil, List.length_cons, List.length_nil, List.replicate, List.cons_append, List.nil_append, List.append_nil, List.getElem?_cons_zero, List.getElem?_cons_succ, List.set_cons_zero, List.set_cons_succ, Option.map_some, Option.join_some, Option.isSome_some, Option.bind_some,
  noOwn_int, noOwn_bl, noOwn_str, noOwn_non, noOwn_ty, noOwn_lst, noOwn_tup, noOwn_dit, noOwns_nil, noOwns_cons, noOwns_ints, fz_int, fz_bl, fz_str, fz_non, if_true, if_false, Bool.and_self, Bool.and_true, Bool.true_and, Bool.false_and, Bool.and_false, decide_true, decide_false, Bool.false_eq_true,
  gAdd_int, gSub_int, gLt_int, gLe_int, gGt_int, gGe_int, gEqA_int, gNeA_int, gEqA_str, gNeA_str, gLen, gInt, gAbs, gSum, intsOf_map, reduceCtorEq, ne_eq, not_false_eq_true, not_true_eq_false, and_self, and_true, true_and, and_false, false_and, Nat.reduceAdd, Nat.reduceSub, Nat.reduceMul, Nat.reduceLT, Nat.reduceLeDiff, Nat.zero_add, Int.reduceNeg, Int.reduceLT, Int.reduceLE, Int.reduceAdd, Int.reduceSub, Int.reduceMul, Int.reduceEq, Int.reduceNe, b__law_take, i0, i1, hm, hd, ha0, x0, x3]
  · have ht : (b && decide (0 < a)) = false := by
      cases b <;> simp_all
    have e1 : gMul (.int 15486971) (.int ((n : Int) + 1)) = some (.int (15486971 * ((n : Int) + 1))) := gMul_int (.inl ⟨by decide, by decide⟩)
    have e2 : gPow (.int (c + 15486971 * ((n : Int) + 1) + 179425601)) (.int 5) = some (.int ((c + 15486971 * ((n : Int) + 1) + 179425601) ^ (5 : Int).toNat)) := gPow_int ⟨by decide, by decide, by omega⟩
    have e3 : gMod (.int ((c + 15486971 * ((n : Int) + 1) + 179425601) ^ (5 : Int).toNat)) (.int 2147483647) = some (.int (((c + 15486971 * ((n : Int) + 1) + 179425601) ^ (5 : Int).toNat).fmod 2147483647)) := gMod_int (by decide)
    obtain ⟨hx1, hx2⟩ := fm_nn (a := (c + 15486971 * ((n : Int) + 1) + 179425601) ^ (5 : Int).toNat) (b := 2147483647) (by decide)
    generalize hx : ((c + 15486971 * ((n : Int) + 1) + 179425601) ^ (5 : Int).toNat).fmod 2147483647 = x at e3 hx1 hx2
    have e4 : gMul (.int x) (.int 48271) = some (.int (x * 48271)) := gMul_int (.inr ⟨by decide, by decide⟩)
    have e5 : gMul (.int 6793) (.int ((n : Int) + 1)) = some (.int (6793 * ((n : Int) + 1))) := gMul_int (.inl ⟨by decide, by decide⟩)
    have e6 : gPow (.int (x * 48271 + 6793 * ((n : Int) + 1))) (.int 3) = some (.int ((x * 48271 + 6793 * ((n : Int) + 1)) ^ (3 : Int).toNat)) := gPow_int ⟨by decide, by decide, by omega⟩
    have e7 : ∀ i : Int, gMod (.int i) (.int 2147483587) = some (.int (i.fmod 2147483587)) := fun i => gMod_int (by decide)
    have e8 : ∀ i : Int, gDiv (.int i) (.int 64) = some (.int (i.fdiv 64)) := fun i => gDiv_int (by unfold CDivN; decide)
    refine ⟨((((x * 48271 + 6793 * ((n : Int) + 1)) ^ (3 : Int).toNat).fmod 2147483587).fdiv 64).fmod many, .lst .own [.int a, .bl b, .int c, .int ((n : Int) + 1)], ?_, (fm_nn (a := (((x * 48271 + 6793 * ((n : Int) + 1)) ^ (3 : Int).toNat).fmod 2147483587).fdiv 64) (b := many) (by omega)).1, (fm_nn (by omega)).2, a, c, b, n + 1, by simp, ha, hc, hc2, by omega⟩
    rw [u__law_take]
    cases b with
    | true =>
      have ha0 : ¬ 0 < a := by simpa using ht
      simp only [finM_ret, finM_nx, finM_err, finI_ret, sRet, sRetN, sEx, andThen, sAs, sSeq, sIf, sNx, sPar, sPar3, sRaise, mIf, bIf, bAnd, bOr, bNot, tVal, tTru, tTru2, asB, truD, mOp2, mOp, mC, mV, mMv, rd, mCBV, mCB, mCall, mCallI, mFz, mNeg, mTup, mLst, aCons, aNil, mAndV, mOrV, mNotV, mSl, oNone, oSome, gSl,
  bnd_ok, bnd_er, got_ok, gNm, gTp, gsCons, gsNil, gSubL, mMut, fApp, fPop, iVal, iRng, rngD1, rngD2, itemsD, mCh, cLast, cLink, tYesD,
  List.map_cons, List.map_nil, List.length_cons, List.length_nil, List.replicate, List.cons_append, List.nil_append, List.append_nil, List.getElem?_cons_zero, List.getElem?_cons_succ, List.set_cons_zero, List.set_cons_succ, Option.map_some, Option.join_some, Option.isSome_some, Option.bind_some,
  noOwn_int, noOwn_bl, noOwn_str, noOwn_non, noOwn_ty, noOwn_lst, noOwn_tup, noOwn_dit, noOwns_nil, noOwns_cons, noOwns_ints, fz_int, fz_bl, fz_str, fz_non, if_true, if_false, Bool.and_self, Bool.and_true, Bool.true_and, Bool.false_and, Bool.and_false, decide_true, decide_false, Bool.false_eq_true,
  gAdd_int, gSub_int, gLt_int, gLe_int, gGt_int, gGe_int, gEqA_int, gNeA_int, gEqA_str, gNeA_str, gLen, gInt, gAbs, gSum, intsOf_map, reduceCtorEq, ne_eq, not_false_eq_true, not_true_eq_false, and_self, and_true, true_and, and_false, false_and, Nat.reduceAdd, Nat.reduceSub, Nat.reduceMul, Nat.reduceLT, Nat.reduceLeDiff, Nat.zero_add, Int.reduceNeg, Int.reduceLT, Int.reduceLE, Int.reduceAdd, Int.reduceSub, Int.reduceMul, Int.reduceEq, Int.reduceNe, b__law_take, i0, i1, i2, i3, hm, ha0, x0, x3, e1, e2, e3, e4, e5, e6, e7, e8]
    | false =>
      simp only [finM_ret, finM_nx, finM_err, finI_ret, sRet, sRetN, sEx, andThen, sAs, sSeq, sIf, sNx, sPar, sPar3, sRaise, mIf, bIf, bAnd, bOr, bNot, tVal, tTru, tTru2, asB, truD, mOp2, mOp, mC, mV, mMv, rd, mCBV, mCB, mCall, mCallI, mFz, mNeg, mTup, mLst, aCons, aNil, mAndV, mOrV, mNotV, mSl, oNone, oSome, gSl,
  bnd_ok, bnd_er, got_ok, gNm, gTp, gsCons, gsNil, gSubL, mMut, fApp, fPop, iVal, iRng, rngD1, rngD2, itemsD, mCh, cLast, cLink, tYesD,
  List.map_cons, List.map_nil, List.length_cons, List.length_nil, List.replicate, List.cons_append, List.nil_append, List.append_nil, List.getElem?_cons_zero, List.getElem?_cons_succ, List.set_cons_zero, List.set_cons_succ, Option.map_some, Option.join_some, Option.isSome_some, Option.bind_some,
  noOwn_int, noOwn_bl, noOwn_str, noOwn_non, noOwn_ty, noOwn_lst, noOwn_tup, noOwn_dit, noOwns_nil, noOwns_cons, noOwns_ints, fz_int, fz_bl, fz_str, fz_non, if_true, if_false, Bool.and_self, Bool.and_true, Bool.true_and, Bool.false_and, Bool.and_false, decide_true, decide_false, Bool.false_eq_true,
  gAdd_int, gSub_int, gLt_int, gLe_int, gGt_int, gGe_int, gEqA_int, gNeA_int, gEqA_str, gNeA_str, gLen, gInt, gAbs, gSum, intsOf_map, reduceCtorEq, ne_eq, not_false_eq_true, not_true_eq_false, and_self, and_true, true_and, and_false, false_and, Nat.reduceAdd, Nat.reduceSub, Nat.reduceMul, Nat.reduceLT, Nat.reduceLeDiff, Nat.zero_add, Int.reduceNeg, Int.reduceLT, Int.reduceLE, Int.reduceAdd, Int.reduceSub, Int.reduceMul, Int.reduceEq, Int.reduceNe, b__law_take, i0, i1, i2, i3, hm, x0, x3, e1, e2, e3, e4, e5, e6, e7, e8]
end Fk07

set_option maxHeartbeats 4000000
namespace Fk07
open PySem PySem.Spec PyProof.Rows L2 Fx
/-! ### strips as lists of signs -/
def cd (b : Bool) : Nat := if b = true then 43 else 45
def mkS (bs : List Bool) : Str := ⟨(bs.map cd).toArray⟩
def sg (b : Bool) : Str := ⟨#[cd b]⟩
theorem plus_eq : ("+" : Str) = sg true := by decide +kernel
theorem minus_eq : ("-" : Str) = sg false := by decide +kernel
theorem mkS_list (bs : List Bool) : (mkS bs).cps.toList = bs.map cd := by simp [mkS]
theorem mkS_len (bs : List Bool) : (mkS bs).length = bs.length := by simp [mkS, Str.length]
theorem signs_mkS (bs : List Bool) : Fx.signs (mkS bs) = bs.map fun b => D.str (sg b) := by
  unfold Fx.signs
  rw [mkS_list, List.map_map]
  rfl
theorem sg_inj {a b : Bool} : (sg a = sg b) ↔ a = b := by
  cases a <;> cases b <;> decide +kernel
theorem sg_plus {b : Bool} : decide (sg b = ("+" : Str)) = b := by
  rw [plus_eq]
  cases b <;> decide +kernel
theorem str_one {c : Nat} {b : Bool} : ((⟨#[c]⟩ : Str) = sg b) ↔ c = cd b := by
  unfold sg
  simp
/-! ### S3 -/
abbrev G := Fin 6
/-- id, c, cc, t, ct.. as what they make of (0, 1, 2) -/
def enc : G → Int × Int × Int
  | 0 => (0, 1, 2)
  | 1 => (1, 2, 0)
  | 2 => (2, 0, 1)
  | 3 => (1, 0, 2)
  | 4 => (0, 2, 1)
  | 5 => (2, 1, 0)
def stepT (x : Int × Int × Int) (b : Bool) : Int × Int × Int := if b = true then (x.2.1, x.2.2, x.1) else (x.2.1, x.1, x.2.2)
def act : G → Bool → G
  | 0, true => 1 | 1, true => 2 | 2, true => 0 | 3, true => 4 | 4, true => 5 | 5, true => 3
  | 0, false => 3 | 1, false => 5 | 2, false => 4 | 3, false => 0 | 4, false => 2 | 5, false => 1
theorem enc_step : ∀ (g : G) (b : Bool), stepT (enc g) b = enc (act g b) := by decide
theorem enc_inj : ∀ g h : G, enc g = enc h → g = h := by decide
def prod (bs : List Bool) : G := bs.foldl act 0
def tD (x : Int × Int × Int) : D := .tup false [.int x.1, .int x.2.1, .int x.2.2]
theorem turned_ok (c : Bool) (x : Int × Int × Int) (b : Bool) : m__law_turned [.tup c [.int x.1, .int x.2.1, .int x.2.2], .str (sg b)] = some (.ok (tD (stepT x b)), none) := by
  rw [u__law_turned]
  have e : gEqA (.str (sg b)) (.str "+") = some (.bl b) := by rw [gEqA_str, sg_plus]
  cases b with
  | true =>
    simp only [finM_ret, finM_nx, finM_err, finI_ret, sRet, sRetN, sEx, andThen, sAs, sSeq, sIf, sNx, sPar, sPar3, sRaise, mIf, bIf, bAnd, bOr, bNot, tVal, tTru, tTru2, asB, truD, mOp2, mOp, mC, mV, mMv, rd, mCBV, mCB, mCall, mCallI, mFz, mNeg, mTup, mLst, aCons, aNil, mAndV, mOrV, mNotV, mSl, oNone, oSome, gSl,
  bnd_ok, bnd_er, got_ok, gNm, gTp, gsCons, gsNil, gSubL, mMut, fApp, fPop, iVal, iRng, rngD1, rngD2, itemsD, mCh, cLast, cLink, tYesD,
  List.map_cons, List.map_nil, List.length_cons, List.length_nil, List.replicate, List.cons_append, List.nil_append, List.append_nil, List.getElem?_cons_zero, List.getElem?_cons_succ, List.set_cons_zero, List.set_cons_succ, Option.map_some, Option.join_some, Option.isSome_some, Option.bind_some,
  noOwn_int, noOwn_bl, noOwn_str, noOwn_non, noOwn_ty, noOwn_lst, noOwn_tup, noOwn_dit, noOwns_nil, noOwns_cons, noOwns_ints, fz_int, fz_bl, fz_str, fz_non, if_true, if_false, Bool.and_self, Bool.and_true, Bool.true_and, Bool.false_and, Bool.and_false, decide_true, decide_false, Bool.false_eq_true,
  gAdd_int, gSub_int, gLt_int, gLe_int, gGt_int, gGe_int, gEqA_int, gNeA_int, gEqA_str, gNeA_str, gLen, gInt, gAbs, gSum, intsOf_map, reduceCtorEq, ne_eq, not_false_eq_true, not_true_eq_false, and_self, and_true, true_and, and_false, false_and, Nat.reduceAdd, Nat.reduceSub, Nat.reduceMul, Nat.reduceLT, Nat.reduceLeDiff, Nat.zero_add, Int.reduceNeg, Int.reduceLT, Int.reduceLE, Int.reduceAdd, Int.reduceSub, Int.reduceMul, Int.reduceEq, Int.reduceNe, b__law_turned, e]
    rfl
  | false =>
    simp only [finM_ret, finM_nx, finM_err, finI_ret, sRet, sRetN, sEx, andThen, sAs, sSeq, sIf, sNx, sPar, sPar3, sRaise, mIf, bIf, bAnd, bOr, bNot, tVal, tTru, tTru2, asB, truD, mOp2, mOp, mC, mV, mMv, rd, mCBV, mCB, mCall, mCallI, mFz, mNeg, mTup, mLst, aCons, aNil, mAndV, mOrV, mNotV, mSl, oNone, oSome, gSl,
  bnd_ok, bnd_er, got_ok, gNm, gTp, gsCons, gsNil, gSubL, mMut, fApp, fPop, iVal, iRng, rngD1, rngD2, itemsD, mCh, cLast, cLink, tYesD,
  List.map_cons, List.map_nil, List.length_cons, List.length_nil, List.replicate, List.cons_append, List.nil_append, List.append_nil, List.getElem?_cons_zero, List.getElem?_cons_succ, List.set_cons_zero, List.set_cons_succ, Option.map_some, Option.join_some, Option.isSome_some, Option.bind_some,
  noOwn_int, noOwn_bl, noOwn_str, noOwn_non, noOwn_ty, noOwn_lst, noOwn_tup, noOwn_dit, noOwns_nil, noOwns_cons, noOwns_ints, fz_int, fz_bl, fz_str, fz_non, if_true, if_false, Bool.and_self, Bool.and_true, Bool.true_and, Bool.false_and, Bool.and_false, decide_true, decide_false, Bool.false_eq_true,
  gAdd_int, gSub_int, gLt_int, gLe_int, gGt_int, gGe_int, gEqA_int, gNeA_int, gEqA_str, gNeA_str, gLen, gInt, gAbs, gSum, intsOf_map, reduceCtorEq, ne_eq, not_false_eq_true, not_true_eq_false, and_self, and_true, true_and, and_false, false_and, Nat.reduceAdd, Nat.reduceSub, Nat.reduceMul, Nat.reduceLT, Nat.reduceLeDiff, Nat.zero_add, Int.reduceNeg, Int.reduceLT, Int.reduceLE, Int.reduceAdd, Int.reduceSub, Int.reduceMul, Int.reduceEq, Int.reduceNe, b__law_turned, e]
    rfl
theorem turnedP_ok (c : Bool) (x : Int × Int × Int) (b : Bool) : m_turned_by [.tup c [.int x.1, .int x.2.1, .int x.2.2], .str (sg b)] = some (.ok (tD (stepT x b)), none) := by
  rw [u_turned_by]
  have e : gEqA (.str (sg b)) (.str "+") = some (.bl b) := by rw [gEqA_str, sg_plus]
  cases b with
  | true =>
    simp only [finM_ret, finM_nx, finM_err, finI_ret, sRet, sRetN, sEx, andThen, sAs, sSeq, sIf, sNx, sPar, sPar3, sRaise, mIf, bIf, bAnd, bOr, bNot, tVal, tTru, tTru2, asB, truD, mOp2, mOp, mC, mV, mMv, rd, mCBV, mCB, mCall, mCallI, mFz, mNeg, mTup, mLst, aCons, aNil, mAndV, mOrV, mNotV, mSl, oNone, oSome, gSl,
  bnd_ok, bnd_er, got_ok, gNm, gTp, gsCons, gsNil, gSubL, mMut, fApp, fPop, iVal, iRng, rngD1, rngD2, itemsD, mCh, cLast, cLink, tYesD,
  List.map_cons, List.map_nil, List.length_cons, List.length_nil, List.replicate, List.cons_append, List.nil_append, List.append_nil, List.getElem?_cons_zero, List.getElem?_cons_succ, List.set_cons_zero, List.set_cons_succ, Option.map_some, Option.join_some, Option.isSome_some, Option.bind_some,
  noOwn_int, noOwn_bl, noOwn_str, noOwn_non, noOwn_ty, noOwn_lst, noOwn_tup, noOwn_dit, noOwns_nil, noOwns_cons, noOwns_ints, fz_int, fz_bl, fz_str, fz_non, if_true, if_false, Bool.and_self, Bool.and_true, Bool.true_and, Bool.false_and, Bool.and_false, decide_true, decide_false, Bool.false_eq_true,
  gAdd_int, gSub_int, gLt_int, gLe_int, gGt_int, gGe_int, gEqA_int, gNeA_int, gEqA_str, gNeA_str, gLen, gInt, gAbs, gSum, intsOf_map, reduceCtorEq, ne_eq, not_false_eq_true, not_true_eq_false, and_self, and_true, true_and, and_false, false_and, Nat.reduceAdd, Nat.reduceSub, Nat.reduceMul, Nat.reduceLT, Nat.reduceLeDiff, Nat.zero_add, Int.reduceNeg, Int.reduceLT, Int.reduceLE, Int.reduceAdd, Int.reduceSub, Int.reduceMul, Int.reduceEq, Int.reduceNe, b_turned_by, e]
    rfl
  | false =>
    simp only [finM_ret, finM_nx, finM_err, finI_ret, sRet, sRetN, sEx, andThen, sAs, sSeq, sIf, sNx, sPar, sPar3, sRaise, mIf, bIf, bAnd, bOr, bNot, tVal, tTru, tTru2, asB, truD, mOp2, mOp, mC, mV, mMv, rd, mCBV, mCB, mCall, mCallI, mFz, mNeg, mTup, mLst, aCons, aNil, mAndV, mOrV, mNotV, mSl, oNone, oSome, gSl,
  bnd_ok, bnd_er, got_ok, gNm, gTp, gsCons, gsNil, gSubL, mMut, fApp, fPop, iVal, iRng, rngD1, rngD2, itemsD, mCh, cLast, cLink, tYesD,
  List.map_cons, List.map_nil, List.length_cons, List.length_nil, List.replicate, List.cons_append, List.nil_append, List.append_nil, List.getElem?_cons_zero, List.getElem?_cons_succ, List.set_cons_zero, List.set_cons_succ, Option.map_some, Option.join_some, Option.isSome_some, Option.bind_some,
  noOwn_int, noOwn_bl, noOwn_str, noOwn_non, noOwn_ty, noOwn_lst, noOwn_tup, noOwn_dit, noOwns_nil, noOwns_cons, noOwns_ints, fz_int, fz_bl, fz_str, fz_non, if_true, if_false, Bool.and_self, Bool.and_true, Bool.true_and, Bool.false_and, Bool.and_false, decide_true, decide_false, Bool.false_eq_true,
  gAdd_int, gSub_int, gLt_int, gLe_int, gGt_int, gGe_int, gEqA_int, gNeA_int, gEqA_str, gNeA_str, gLen, gInt, gAbs, gSum, intsOf_map, reduceCtorEq, ne_eq, not_false_eq_true, not_true_eq_false, and_self, and_true, true_and, and_false, false_and, Nat.reduceAdd, Nat.reduceSub, Nat.reduceMul, Nat.reduceLT, Nat.reduceLeDiff, Nat.zero_add, Int.reduceNeg, Int.reduceLT, Int.reduceLE, Int.reduceAdd, Int.reduceSub, Int.reduceMul, Int.reduceEq, Int.reduceNe, b_turned_by, e]
    rfl
theorem items_str {bs : List Bool} : itemsD (.str (mkS bs)) = some (bs.map fun b => D.str (sg b)) := by rw [← signs_mkS]; rfl
theorem home_loop (g0 : GM) (b0 : SM) (hg : g0 = gNm 2) (hb : b0 = (sAs (mCall m__law_turned (aCons (mV 1) (aCons (mV 2) aNil))) (gNm 1))) (z : D) : ∀ (bs : List Bool) (g : G) (x : Option D), ∃ y, forL g0 b0 (bs.map fun b => D.str (sg b)) [some z, some (tD (enc g)), x] = some (.nx, [some z, some (tD (enc (bs.foldl act g))), y])
  | [], g, x => ⟨x, rfl⟩
  | b :: bs, g, x => by
    obtain ⟨y, hy⟩ := home_loop g0 b0 hg hb z bs (act g b) (some (.str (sg b)))
    refine ⟨y, ?_⟩
    rw [List.map_cons, forL_cons (S1 := [some z, some (tD (enc g)), some (.str (sg b))]) (S2 := [some z, some (tD (enc (act g b))), some (.str (sg b))]) (by subst hg; rfl) ?_, hy]
    · rfl
    · have e := turned_ok false (enc g) b
      rw [enc_step] at e
      subst hb
      have n1 : noOwn (tD (enc g)) = true := by simp [tD, noOwn, noOwns]
      simp only [finM_ret, finM_nx, finM_err, finI_ret, sRet, sRetN, sEx, andThen, sAs, sSeq, sIf, sNx, sPar, sPar3, sRaise, mIf, bIf, bAnd, bOr, bNot, tVal, tTru, tTru2, asB, truD, mOp2, mOp, mC, mV, mMv, rd, mCBV, mCB, mCall, mCallI, mFz, mNeg, mTup, mLst, aCons, aNil, mAndV, mOrV, mNotV, mSl, oNone, oSome, gSl,
  bnd_ok, bnd_er, got_ok, gNm, gTp, gsCons, gsNil, gSubL, mMut, fApp, fPop, iVal, iRng, rngD1, rngD2, itemsD, mCh, cLast, cLink, tYesD,
  List.map_cons, List.map_nil, List.length_cons, List.length_nil, List.replicate, List.cons_append, List.nil_append, List.append_nil, List.getElem?_cons_zero, List.getElem?_cons_succ, List.set_cons_zero, List.set_cons_succ, Option.map_some, Option.join_some, Option.isSome_some, Option.bind_some,
  noOwn_int, noOwn_bl, noOwn_str, noOwn_non, noOwn_ty, noOwn_lst, noOwn_tup, noOwn_dit, noOwns_nil, noOwns_cons, noOwns_ints, fz_int, fz_bl, fz_str, fz_non, if_true, if_false, Bool.and_self, Bool.and_true, Bool.true_and, Bool.false_and, Bool.and_false, decide_true, decide_false, Bool.false_eq_true,
  gAdd_int, gSub_int, gLt_int, gLe_int, gGt_int, gGe_int, gEqA_int, gNeA_int, gEqA_str, gNeA_str, gLen, gInt, gAbs, gSum, intsOf_map, reduceCtorEq, ne_eq, not_false_eq_true, not_true_eq_false, and_self, and_true, true_and, and_false, false_and, Nat.reduceAdd, Nat.reduceSub, Nat.reduceMul, Nat.reduceLT, Nat.reduceLeDiff, Nat.zero_add, Int.reduceNeg, Int.reduceLT, Int.reduceLE, Int.reduceAdd, Int.reduceSub, Int.reduceMul, Int.reduceEq, Int.reduceNe, n1]
      rw [show tD (enc g) = .tup false [.int (enc g).1, .int (enc g).2.1, .int (enc g).2.2] from rfl, e]
      rfl
theorem home_ok (bs : List Bool) : m__law_home [.str (mkS bs)] = some (.ok (tD (enc (prod bs))), none) := by
  rw [u__law_home]
  obtain ⟨y, hy⟩ := home_loop _ _ rfl rfl (.str (mkS bs)) bs 0 none
  have n1 : noOwn (tD (enc (prod bs))) = true := by simp [tD, noOwn, noOwns]
  have hy : forL (gNm 2) (sAs (mCall m__law_turned (aCons (mV 1) (aCons (mV 2) aNil))) (gNm 1)) (bs.map fun b => D.str (sg b)) [some (.str (mkS bs)), some (.tup false [.int 0, .int 1, .int 2]), none] = some (.nx, [some (.str (mkS bs)), some (tD (enc (prod bs))), y]) := hy
  unfold b__law_home
  rw [seq_nx (S1 := [some (.str (mkS bs)), some (.tup false [.int 0, .int 1, .int 2]), none]) (by simp only [finM_ret, finM_nx, finM_err, finI_ret, sRet, sRetN, sEx, andThen, sAs, sSeq, sIf, sNx, sPar, sPar3, sRaise, mIf, bIf, bAnd, bOr, bNot, tVal, tTru, tTru2, asB, truD, mOp2, mOp, mC, mV, mMv, rd, mCBV, mCB, mCall, mCallI, mFz, mNeg, mTup, mLst, aCons, aNil, mAndV, mOrV, mNotV, mSl, oNone, oSome, gSl,
  bnd_ok, bnd_er, got_ok, gNm, gTp, gsCons, gsNil, gSubL, mMut, fApp, fPop, iVal, iRng, rngD1, rngD2, itemsD, mCh, cLast, cLink, tYesD,
  List.map_cons, List.map_nil, List.length_cons, List.length_nil, List.replicate, List.cons_append, List.nil_append, List.append_nil, List.getElem?_cons_zero, List.getElem?_cons_succ, List.set_cons_zero, List.set_cons_succ, Option.map_some, Option.join_some, Option.isSome_some, Option.bind_some,
  noOwn_int, noOwn_bl, noOwn_str, noOwn_non, noOwn_ty, noOwn_lst, noOwn_tup, noOwn_dit, noOwns_nil, noOwns_cons, noOwns_ints, fz_int, fz_bl, fz_str, fz_non, if_true, if_false, Bool.and_self, Bool.and_true, Bool.true_and, Bool.false_and, Bool.and_false, decide_true, decide_false, Bool.false_eq_true,
  gAdd_int, gSub_int, gLt_int, gLe_int, gGt_int, gGe_int, gEqA_int, gNeA_int, gEqA_str, gNeA_str, gLen, gInt, gAbs, gSum, intsOf_map, reduceCtorEq, ne_eq, not_false_eq_true, not_true_eq_false, and_self, and_true, true_and, and_false, false_and, Nat.reduceAdd, Nat.reduceSub, Nat.reduceMul, Nat.reduceLT, Nat.reduceLeDiff, Nat.zero_add, Int.reduceNeg, Int.reduceLT, Int.reduceLE, Int.reduceAdd, Int.reduceSub, Int.reduceMul, Int.reduceEq, Int.reduceNe])]
  rw [seq_nx (S1 := [some (.str (mkS bs)), some (tD (enc (prod bs))), y]) ((for_of (ds := bs.map fun b => D.str (sg b)) (S1 := [some (.str (mkS bs)), some (.tup false [.int 0, .int 1, .int 2]), none]) (by simp only [finM_ret, finM_nx, finM_err, finI_ret, sRet, sRetN, sEx, andThen, sAs, sSeq, sIf, sNx, sPar, sPar3, sRaise, mIf, bIf, bAnd, bOr, bNot, tVal, tTru, tTru2, asB, truD, mOp2, mOp, mC, mV, mMv, rd, mCBV, mCB, mCall, mCallI, mFz, mNeg, mTup, mLst, aCons, aNil, mAndV, mOrV, mNotV, mSl, oNone, oSome, gSl,
  bnd_ok, bnd_er, got_ok, gNm, gTp, gsCons, gsNil, gSubL, mMut, fApp, fPop, iVal, iRng, rngD1, rngD2, itemsD, mCh, cLast, cLink, tYesD,
  List.map_cons, List.map_nil, List.length_cons, List.length_nil, List.replicate, List.cons_append, List.nil_append, List.append_nil, List.getElem?_cons_zero, List.getElem?_cons_succ, List.set_cons_zero, List.set_cons_succ, Option.map_some, Option.join_some, Option.isSome_some, Option.bind_some,
  noOwn_int, noOwn_bl, noOwn_str, noOwn_non, noOwn_ty, noOwn_lst, noOwn_tup, noOwn_dit, noOwns_nil, noOwns_cons, noOwns_ints, fz_int, fz_bl, fz_str, fz_non, if_true, if_false, Bool.and_self, Bool.and_true, Bool.true_and, Bool.false_and, Bool.and_false, decide_true, decide_false, Bool.false_eq_true,
  gAdd_int, gSub_int, gLt_int, gLe_int, gGt_int, gGe_int, gEqA_int, gNeA_int, gEqA_str, gNeA_str, gLen, gInt, gAbs, gSum, intsOf_map, reduceCtorEq, ne_eq, not_false_eq_true, not_true_eq_false, and_self, and_true, true_and, and_false, false_and, Nat.reduceAdd, Nat.reduceSub, Nat.reduceMul, Nat.reduceLT, Nat.reduceLeDiff, Nat.zero_add, Int.reduceNeg, Int.reduceLT, Int.reduceLE, Int.reduceAdd, Int.reduceSub, Int.reduceMul, Int.reduceEq, Int.reduceNe, signs_mkS]) rfl).trans hy)]
  simp only [finM_ret, finM_nx, finM_err, finI_ret, sRet, sRetN, sEx, andThen, sAs, sSeq, sIf, sNx, sPar, sPar3, sRaise, mIf, bIf, bAnd, bOr, bNot, tVal, tTru, tTru2, asB, truD, mOp2, mOp, mC, mV, mMv, rd, mCBV, mCB, mCall, mCallI, mFz, mNeg, mTup, mLst, aCons, aNil, mAndV, mOrV, mNotV, mSl, oNone, oSome, gSl,
  bnd_ok, bnd_er, got_ok, gNm, gTp, gsCons, gsNil, gSubL, mMut, fApp, fPop, iVal, iRng, rngD1, rngD2, itemsD, mCh, cLast, cLink, tYesD,
  List.map_cons, List.map_nil, List.length_cons, List.length_nil, List.replicate, List.cons_append, List.nil_append, List.append_nil, List.getElem?_cons_zero, List.getElem?_cons_succ, List.set_cons_zero, List.set_cons_succ, Option.map_some, Option.join_some, Option.isSome_some, Option.bind_some,
  noOwn_int, noOwn_bl, noOwn_str, noOwn_non, noOwn_ty, noOwn_lst, noOwn_tup, noOwn_dit, noOwns_nil, noOwns_cons, noOwns_ints, fz_int, fz_bl, fz_str, fz_non, if_true, if_false, Bool.and_self, Bool.and_true, Bool.true_and, Bool.false_and, Bool.and_false, decide_true, decide_false, Bool.false_eq_true,
  gAdd_int, gSub_int, gLt_int, gLe_int, gGt_int, gGe_int, gEqA_int, gNeA_int, gEqA_str, gNeA_str, gLen, gInt, gAbs, gSum, intsOf_map, reduceCtorEq, ne_eq, not_false_eq_true, not_true_eq_false, and_self, and_true, true_and, and_false, false_and, Nat.reduceAdd, Nat.reduceSub, Nat.reduceMul, Nat.reduceLT, Nat.reduceLeDiff, Nat.zero_add, Int.reduceNeg, Int.reduceLT, Int.reduceLE, Int.reduceAdd, Int.reduceSub, Int.reduceMul, Int.reduceEq, Int.reduceNe, n1]
/-! ### the program: corners, folds -/
def tH : D := .tup true ([V.int 0, V.int 1, V.int 2].map dOfV)
theorem walk_loop (z : D) : ∀ (bs : List Bool) (g : G) (c : Bool) (ds : List D) (x : Option D), noOwns ds = true → ds.length + bs.length ≤ 1000 → ∃ y ds', forL (gNm 2) (sEx (mMut 1 fApp (aCons (mCall m_turned_by (aCons (mOp2 gIx (.sl 1) (.ev (mNeg (mC (.int 1))))) (aCons (mV 2) aNil))) aNil))) (bs.map fun b => D.str (sg b))
    [some z, some (.lst .own (ds ++ [.tup c [.int (enc g).1, .int (enc g).2.1, .int (enc g).2.2]])), x] = some (.nx, [some z, some (.lst .own (ds' ++ [.tup (bs.isEmpty && c) [.int (enc (bs.foldl act g)).1, .int (enc (bs.foldl act g)).2.1, .int (enc (bs.foldl act g)).2.2]])), y]) ∧ noOwns ds' = true
  | [], g, c, ds, x, hn, hl => ⟨x, ds, rfl, hn⟩
  | b :: bs, g, c, ds, x, hn, hl => by
    have hn2 : noOwns (ds ++ [.tup c [.int (enc g).1, .int (enc g).2.1, .int (enc g).2.2]]) = true := by
      have : ∀ l : List D, noOwns l = true → noOwns (l ++ [.tup c [.int (enc g).1, .int (enc g).2.1, .int (enc g).2.2]]) = true := by
        intro l
        induction l with
        | nil => intro _; simp [noOwns, noOwn]
        | cons d l ih =>
          intro h
          simp only [noOwns, Bool.and_eq_true] at h
          simp only [List.cons_append, noOwns, h.1, ih h.2, Bool.and_self]
      exact this ds hn
    simp only [List.length_cons] at hl
    obtain ⟨y, ds', h1, h2⟩ := walk_loop z bs (act g b) false (ds ++ [.tup c [.int (enc g).1, .int (enc g).2.1, .int (enc g).2.2]]) (some (.str (sg b))) hn2 (by rw [List.length_append]; simp only [List.length_cons, List.length_nil]; omega)
    refine ⟨y, ds', ?_, h2⟩
    · rw [List.map_cons, forL_cons (S1 := [some z, some (.lst .own (ds ++ [.tup c [.int (enc g).1, .int (enc g).2.1, .int (enc g).2.2]])), some (.str (sg b))]) rfl ?_]
      · rw [Bool.and_false] at h1
        exact h1
      · have e := turnedP_ok c (enc g) b
        rw [enc_step] at e
        have ix : gIx (.lst .own (ds ++ [.tup c [.int (enc g).1, .int (enc g).2.1, .int (enc g).2.2]])) (.int (-1)) = some (.tup c [.int (enc g).1, .int (enc g).2.1, .int (enc g).2.2]) := by
          show (L2.atI _ (-1)).bind _ = _
          have : L2.atI (ds ++ [.tup c [.int (enc g).1, .int (enc g).2.1, .int (enc g).2.2]]) (-1) = some (.tup c [.int (enc g).1, .int (enc g).2.1, .int (enc g).2.2]) := L2.atI_last _ _
          rw [this]
          rfl
        have hl2 : (ds ++ [D.tup c [.int (enc g).1, .int (enc g).2.1, .int (enc g).2.2]]).length < 1000000 := by rw [List.length_append]; simp only [List.length_cons, List.length_nil]; omega
        have n1 : noOwn (tD (enc (act g b))) = true := by simp [tD, noOwn, noOwns]
        simp only [finM_ret, finM_nx, finM_err, finI_ret, sRet, sRetN, sEx, andThen, sAs, sSeq, sIf, sNx, sPar, sPar3, sRaise, mIf, bIf, bAnd, bOr, bNot, tVal, tTru, tTru2, asB, truD, mOp2, mOp, mC, mV, mMv, rd, mCBV, mCB, mCall, mCallI, mFz, mNeg, mTup, mLst, aCons, aNil, mAndV, mOrV, mNotV, mSl, oNone, oSome, gSl,
  bnd_ok, bnd_er, got_ok, gNm, gTp, gsCons, gsNil, gSubL, mMut, fApp, fPop, iVal, iRng, rngD1, rngD2, itemsD, mCh, cLast, cLink, tYesD,
  List.map_cons, List.map_nil, List.length_cons, List.length_nil, List.replicate, List.cons_append, List.nil_append, List.append_nil, List.getElem?_cons_zero, List.getElem?_cons_succ, List.set_cons_zero, List.set_cons_succ, Option.map_some, Option.join_some, Option.isSome_some, Option.bind_some,
  noOwn_int, noOwn_bl, noOwn_str, noOwn_non, noOwn_ty, noOwn_lst, noOwn_tup, noOwn_dit, noOwns_nil, noOwns_cons, noOwns_ints, fz_int, fz_bl, fz_str, fz_non, if_true, if_false, Bool.and_self, Bool.and_true, Bool.true_and, Bool.false_and, Bool.and_false, decide_true, decide_false, Bool.false_eq_true,
  gAdd_int, gSub_int, gLt_int, gLe_int, gGt_int, gGe_int, gEqA_int, gNeA_int, gEqA_str, gNeA_str, gLen, gInt, gAbs, gSum, intsOf_map, reduceCtorEq, ne_eq, not_false_eq_true, not_true_eq_false, and_self, and_true, true_and, and_false, false_and, Nat.reduceAdd, Nat.reduceSub, Nat.reduceMul, Nat.reduceLT, Nat.reduceLeDiff, Nat.zero_add, Int.reduceNeg, Int.reduceLT, Int.reduceLE, Int.reduceAdd, Int.reduceSub, Int.reduceMul, Int.reduceEq, Int.reduceNe, ix, e, hn2, hl2, n1]
        rfl
theorem last_ok (bs : List Bool) (h0 : bs ≠ []) (hl : bs.length ≤ 100) : m_last_corners [.str (mkS bs)] = some (.ok (tD (enc (prod bs))), none) := by
  obtain ⟨y, ds', h1, h2⟩ := walk_loop (.str (mkS bs)) bs 0 true [] none rfl (by simp; omega)
  have h3 : (bs.isEmpty && true) = false := by cases bs <;> simp_all
  have hw : m_walk_of [.str (mkS bs)] = some (.ok (.lst .own (ds' ++ [tD (enc (prod bs))])), none) := by
    rw [u_walk_of]
    unfold b_walk_of
    rw [seq_nx (S1 := [some (.str (mkS bs)), some (.lst .own [tH]), none]) (by simp only [finM_ret, finM_nx, finM_err, finI_ret, sRet, sRetN, sEx, andThen, sAs, sSeq, sIf, sNx, sPar, sPar3, sRaise, mIf, bIf, bAnd, bOr, bNot, tVal, tTru, tTru2, asB, truD, mOp2, mOp, mC, mV, mMv, rd, mCBV, mCB, mCall, mCallI, mFz, mNeg, mTup, mLst, aCons, aNil, mAndV, mOrV, mNotV, mSl, oNone, oSome, gSl,
  bnd_ok, bnd_er, got_ok, gNm, gTp, gsCons, gsNil, gSubL, mMut, fApp, fPop, iVal, iRng, rngD1, rngD2, itemsD, mCh, cLast, cLink, tYesD,
  List.map_cons, List.map_nil, List.length_cons, List.length_nil, List.replicate, List.cons_append, List.nil_append, List.append_nil, List.getElem?_cons_zero, List.getElem?_cons_succ, List.set_cons_zero, List.set_cons_succ, Option.map_some, Option.join_some, Option.isSome_some, Option.bind_some,
  noOwn_int, noOwn_bl, noOwn_str, noOwn_non, noOwn_ty, noOwn_lst, noOwn_tup, noOwn_dit, noOwns_nil, noOwns_cons, noOwns_ints, fz_int, fz_bl, fz_str, fz_non, if_true, if_false, Bool.and_self, Bool.and_true, Bool.true_and, Bool.false_and, Bool.and_false, decide_true, decide_false, Bool.false_eq_true,
  gAdd_int, gSub_int, gLt_int, gLe_int, gGt_int, gGe_int, gEqA_int, gNeA_int, gEqA_str, gNeA_str, gLen, gInt, gAbs, gSum, intsOf_map, reduceCtorEq, ne_eq, not_false_eq_true, not_true_eq_false, and_self, and_true, true_and, and_false, false_and, Nat.reduceAdd, Nat.reduceSub, Nat.reduceMul, Nat.reduceLT, Nat.reduceLeDiff, Nat.zero_add, Int.reduceNeg, Int.reduceLT, Int.reduceLE, Int.reduceAdd, Int.reduceSub, Int.reduceMul, Int.reduceEq, Int.reduceNe]; rfl)]
    rw [h3] at h1
    rw [seq_nx ((for_of (ds := bs.map fun b => D.str (sg b)) (S1 := [some (.str (mkS bs)), some (.lst .own [tH]), none]) (by simp only [finM_ret, finM_nx, finM_err, finI_ret, sRet, sRetN, sEx, andThen, sAs, sSeq, sIf, sNx, sPar, sPar3, sRaise, mIf, bIf, bAnd, bOr, bNot, tVal, tTru, tTru2, asB, truD, mOp2, mOp, mC, mV, mMv, rd, mCBV, mCB, mCall, mCallI, mFz, mNeg, mTup, mLst, aCons, aNil, mAndV, mOrV, mNotV, mSl, oNone, oSome, gSl,
  bnd_ok, bnd_er, got_ok, gNm, gTp, gsCons, gsNil, gSubL, mMut, fApp, fPop, iVal, iRng, rngD1, rngD2, itemsD, mCh, cLast, cLink, tYesD,
  List.map_cons, List.map_nil, List.length_cons, List.length_nil, List.replicate, List.cons_append, List.nil_append, List.append_nil, List.getElem?_cons_zero, List.getElem?_cons_succ, List.set_cons_zero, List.set_cons_succ, Option.map_some, Option.join_some, Option.isSome_some, Option.bind_some,
  noOwn_int, noOwn_bl, noOwn_str, noOwn_non, noOwn_ty, noOwn_lst, noOwn_tup, noOwn_dit, noOwns_nil, noOwns_cons, noOwns_ints, fz_int, fz_bl, fz_str, fz_non, if_true, if_false, Bool.and_self, Bool.and_true, Bool.true_and, Bool.false_and, Bool.and_false, decide_true, decide_false, Bool.false_eq_true,
  gAdd_int, gSub_int, gLt_int, gLe_int, gGt_int, gGe_int, gEqA_int, gNeA_int, gEqA_str, gNeA_str, gLen, gInt, gAbs, gSum, intsOf_map, reduceCtorEq, ne_eq, not_false_eq_true, not_true_eq_false, and_self, and_true, true_and, and_false, false_and, Nat.reduceAdd, Nat.reduceSub, Nat.reduceMul, Nat.reduceLT, Nat.reduceLeDiff, Nat.zero_add, Int.reduceNeg, Int.reduceLT, Int.reduceLE, Int.reduceAdd, Int.reduceSub, Int.reduceMul, Int.reduceEq, Int.reduceNe, signs_mkS]) rfl).trans h1)]
    have hn : noOwn (.lst .own (ds' ++ [tD (enc (prod bs))])) = false := by simp [noOwn_lst]
    have e2 : mMv 1 [some (.str (mkS bs)), some (.lst .own (ds' ++ [tD (enc (prod bs))])), y] = some (.ok (.lst .own (ds' ++ [tD (enc (prod bs))])), [some (.str (mkS bs)), none, y]) := by
      unfold mMv
      simp only [List.getElem?_cons_succ, List.getElem?_cons_zero, hn, Bool.false_eq_true, if_false]
      rfl
    show finM false (sRet (mMv 1) [some (.str (mkS bs)), some (.lst .own (ds' ++ [tD (enc (prod bs))])), y]) = _
    unfold sRet
    rw [andThen_ok e2]
    rfl
  have ix : gIx (.lst .own (ds' ++ [tD (enc (prod bs))])) (.int (-1)) = some (tD (enc (prod bs))) := by
    show (L2.atI _ (-1)).bind _ = _
    have : L2.atI (ds' ++ [tD (enc (prod bs))]) (-1) = some (tD (enc (prod bs))) := L2.atI_last _ _
    rw [this]
    rfl
  rw [u_last_corners]
  simp only [finM_ret, finM_nx, finM_err, finI_ret, sRet, sRetN, sEx, andThen, sAs, sSeq, sIf, sNx, sPar, sPar3, sRaise, mIf, bIf, bAnd, bOr, bNot, tVal, tTru, tTru2, asB, truD, mOp2, mOp, mC, mV, mMv, rd, mCBV, mCB, mCall, mCallI, mFz, mNeg, mTup, mLst, aCons, aNil, mAndV, mOrV, mNotV, mSl, oNone, oSome, gSl,
  bnd_ok, bnd_er, got_ok, gNm, gTp, gsCons, gsNil, gSubL, mMut, fApp, fPop, iVal, iRng, rngD1, rngD2, itemsD, mCh, cLast, cLink, tYesD,
  List.map_cons, List.map_nil, List.length_cons, List.length_nil, List.replicate, List.cons_append, List.nil_append, List.append_nil, List.getElem?_cons_zero, List.getElem?_cons_succ, List.set_cons_zero, List.set_cons_succ, Option.map_some, Option.join_some, Option.isSome_some, Option.bind_some,
  noOwn_int, noOwn_bl, noOwn_str, noOwn_non, noOwn_ty, noOwn_lst, noOwn_tup, noOwn_dit, noOwns_nil, noOwns_cons, noOwns_ints, fz_int, fz_bl, fz_str, fz_non, if_true, if_false, Bool.and_self, Bool.and_true, Bool.true_and, Bool.false_and, Bool.and_false, decide_true, decide_false, Bool.false_eq_true,
  gAdd_int, gSub_int, gLt_int, gLe_int, gGt_int, gGe_int, gEqA_int, gNeA_int, gEqA_str, gNeA_str, gLen, gInt, gAbs, gSum, intsOf_map, reduceCtorEq, ne_eq, not_false_eq_true, not_true_eq_false, and_self, and_true, true_and, and_false, false_and, Nat.reduceAdd, Nat.reduceSub, Nat.reduceMul, Nat.reduceLT, Nat.reduceLeDiff, Nat.zero_add, Int.reduceNeg, Int.reduceLT, Int.reduceLE, Int.reduceAdd, Int.reduceSub, Int.reduceMul, Int.reduceEq, Int.reduceNe, b_last_corners, hw, ix]
end Fk07

set_option maxHeartbeats 4000000
namespace Fk07
open PySem PySem.Spec PyProof.Rows L2 Fx
def okc (c : Nat) : Bool := decide (c = 43) || decide (c = 45)
theorem in_signs (c : Nat) : gIn (fun b => b) (.str ⟨#[c]⟩) (.tup true ([V.str "+", V.str "-"].map dOfV)) = some (.bl (okc c)) := by
  have e : gIn (fun b => b) (.str ⟨#[c]⟩) (.tup true ([V.str "+", V.str "-"].map dOfV)) = (if okPy (.str ⟨#[c]⟩) = true ∧ okPys ([V.str "+", V.str "-"].map dOfV) = true ∧ min (PyData.depthAll (pys ([V.str "+", V.str "-"].map dOfV))) (py (.str ⟨#[c]⟩)).depth ≤ 60 then some (.bl (([V.str "+", V.str "-"].map dOfV).any fun e => eqD e (.str ⟨#[c]⟩))) else none) := rfl
  rw [e, if_pos ⟨by simp [okPy], by simp [okPys, okPy, dOfV], by simp [py, PyData.depth]⟩]
  have h1 : eqD (.str "+") (.str ⟨#[c]⟩) = decide (c = 43) := by
    rw [eqD_str, plus_eq]
    apply decide_eq_decide.mpr
    exact eq_comm.trans str_one
  have h2 : eqD (.str "-") (.str ⟨#[c]⟩) = decide (c = 45) := by
    rw [eqD_str, minus_eq]
    apply decide_eq_decide.mpr
    exact eq_comm.trans str_one
  simp only [List.map_cons, List.map_nil, dOfV, List.any_cons, List.any_nil, h1, h2, Bool.or_false]
  rfl
theorem blsOf_map (l : List Nat) (f : Nat → Bool) : blsOf (l.map fun c => D.bl (f c)) = some (l.map f) := by
  induction l with
  | nil => rfl
  | cons c l ih => simp only [List.map_cons, blsOf, ih, Option.map_some]
theorem is_strip_str (z : Str) (hz : z.length ≤ 1000) : m_is_strip [.str z] = some (.ok (.bl (decide (3 ≤ z.length) && (decide (z.length ≤ 24) && z.cps.toList.all okc))), none) := by
  have e1 : ∀ x : Str, gIsi [.str x, .ty "str"] = some (.bl true) := fun x => rfl
  have hl : z.length ≤ 1000000 := by omega
  rw [u_is_strip]
  unfold b_is_strip
  by_cases h3 : (3 : Int) ≤ (z.length : Int)
  · by_cases h4 : (z.length : Int) ≤ 24
    · rw [seq_nx (S1 := [some (.str z), none]) (by simp only [finM_ret, finM_nx, finM_err, finI_ret, sRet, sRetN, sEx, andThen, sAs, sSeq, sIf, sNx, sPar, sPar3, sRaise, mIf, bIf, bAnd, bOr, bNot, tVal, tTru, tTru2, asB, truD, mOp2, mOp, mC, mV, mMv, rd, mCBV, mCB, mCall, mCallI, mFz, mNeg, mTup, mLst, aCons, aNil, mAndV, mOrV, mNotV, mSl, oNone, oSome, gSl,
  bnd_ok, bnd_er, got_ok, gNm, gTp, gsCons, gsNil, gSubL, mMut, fApp, fPop, iVal, iRng, rngD1, rngD2, itemsD, mCh, cLast, cLink, tYesD,
  List.map_cons, List.map_nil, List.length_cons, List.length_nil, List.replicate, List.cons_append, List.nil_append, List.append_nil, List.getElem?_cons_zero, List.getElem?_cons_succ, List.set_cons_zero, List.set_cons_succ, Option.map_some, Option.join_some, Option.isSome_some, Option.bind_some,
  noOwn_int, noOwn_bl, noOwn_str, noOwn_non, noOwn_ty, noOwn_lst, noOwn_tup, noOwn_dit, noOwns_nil, noOwns_cons, noOwns_ints, fz_int, fz_bl, fz_str, fz_non, if_true, if_false, Bool.and_self, Bool.and_true, Bool.true_and, Bool.false_and, Bool.and_false, decide_true, decide_false, Bool.false_eq_true,
  gAdd_int, gSub_int, gLt_int, gLe_int, gGt_int, gGe_int, gEqA_int, gNeA_int, gEqA_str, gNeA_str, gLen, gInt, gAbs, gSum, intsOf_map, reduceCtorEq, ne_eq, not_false_eq_true, not_true_eq_false, and_self, and_true, true_and, and_false, false_and, Nat.reduceAdd, Nat.reduceSub, Nat.reduceMul, Nat.reduceLT, Nat.reduceLeDiff, Nat.zero_add, Int.reduceNeg, Int.reduceLT, Int.reduceLE, Int.reduceAdd, Int.reduceSub, Int.reduceMul, Int.reduceEq, Int.reduceNe, e1, hl, h3, h4, Bool.not_true, Bool.false_or, Bool.or_false])]
      have hi : Fx.signs z = z.cps.toList.map fun c => D.str ⟨#[c]⟩ := rfl
      have hm : mLc [1] (iVal (mV 0)) (gNm 1) tYesD (mOp2 (gIn fun b => b) (.sl 1) (.ev (mC (.tup true ([V.str "+", V.str "-"].map dOfV))))) [some (.str z), none] = some (.ok (.lst .own ((z.cps.toList.map fun c => D.str ⟨#[c]⟩).map fun d => match d with | .str s => .bl (okc (s.cps.getD 0 0)) | _ => .non)), [some (.str z), none]) := by
        refine mLc_map (ds := z.cps.toList.map fun c => D.str ⟨#[c]⟩) _ (by simp only [finM_ret, finM_nx, finM_err, finI_ret, sRet, sRetN, sEx, andThen, sAs, sSeq, sIf, sNx, sPar, sPar3, sRaise, mIf, bIf, bAnd, bOr, bNot, tVal, tTru, tTru2, asB, truD, mOp2, mOp, mC, mV, mMv, rd, mCBV, mCB, mCall, mCallI, mFz, mNeg, mTup, mLst, aCons, aNil, mAndV, mOrV, mNotV, mSl, oNone, oSome, gSl,
  bnd_ok, bnd_er, got_ok, gNm, gTp, gsCons, gsNil, gSubL, mMut, fApp, fPop, iVal, iRng, rngD1, rngD2, itemsD, mCh, cLast, cLink, tYesD,
  List.map_cons, List.map_nil, List.length_cons, List.length_nil, List.replicate, List.cons_append, List.nil_append, List.append_nil, List.getElem?_cons_zero, List.getElem?_cons_succ, List.set_cons_zero, List.set_cons_succ, Option.map_some, Option.join_some, Option.isSome_some, Option.bind_some,
  noOwn_int, noOwn_bl, noOwn_str, noOwn_non, noOwn_ty, noOwn_lst, noOwn_tup, noOwn_dit, noOwns_nil, noOwns_cons, noOwns_ints, fz_int, fz_bl, fz_str, fz_non, if_true, if_false, Bool.and_self, Bool.and_true, Bool.true_and, Bool.false_and, Bool.and_false, decide_true, decide_false, Bool.false_eq_true,
  gAdd_int, gSub_int, gLt_int, gLe_int, gGt_int, gGe_int, gEqA_int, gNeA_int, gEqA_str, gNeA_str, gLen, gInt, gAbs, gSum, intsOf_map, reduceCtorEq, ne_eq, not_false_eq_true, not_true_eq_false, and_self, and_true, true_and, and_false, false_and, Nat.reduceAdd, Nat.reduceSub, Nat.reduceMul, Nat.reduceLT, Nat.reduceLeDiff, Nat.zero_add, Int.reduceNeg, Int.reduceLT, Int.reduceLE, Int.reduceAdd, Int.reduceSub, Int.reduceMul, Int.reduceEq, Int.reduceNe, hi]) rfl (fun d hd => ?_) ?_ rfl
        · obtain ⟨c, hc, rfl⟩ := List.mem_map.mp hd
          refine ⟨[some (.str z), some (.str ⟨#[c]⟩)], [some (.str z), some (.str ⟨#[c]⟩)], rfl, ?_, rfl⟩
          have e := in_signs c
          generalize (D.tup true ([V.str "+", V.str "-"].map dOfV)) = T at e ⊢
          simp only [finM_ret, finM_nx, finM_err, finI_ret, sRet, sRetN, sEx, andThen, sAs, sSeq, sIf, sNx, sPar, sPar3, sRaise, mIf, bIf, bAnd, bOr, bNot, tVal, tTru, tTru2, asB, truD, mOp2, mOp, mC, mV, mMv, rd, mCBV, mCB, mCall, mCallI, mFz, mNeg, mTup, mLst, aCons, aNil, mAndV, mOrV, mNotV, mSl, oNone, oSome, gSl,
  bnd_ok, bnd_er, got_ok, gNm, gTp, gsCons, gsNil, gSubL, mMut, fApp, fPop, iVal, iRng, rngD1, rngD2, itemsD, mCh, cLast, cLink, tYesD,
  List.map_cons, List.map_nil, List.length_cons, List.length_nil, List.replicate, List.cons_append, List.nil_append, List.append_nil, List.getElem?_cons_zero, List.getElem?_cons_succ, List.set_cons_zero, List.set_cons_succ, Option.map_some, Option.join_some, Option.isSome_some, Option.bind_some,
  noOwn_int, noOwn_bl, noOwn_str, noOwn_non, noOwn_ty, noOwn_lst, noOwn_tup, noOwn_dit, noOwns_nil, noOwns_cons, noOwns_ints, fz_int, fz_bl, fz_str, fz_non, if_true, if_false, Bool.and_self, Bool.and_true, Bool.true_and, Bool.false_and, Bool.and_false, decide_true, decide_false, Bool.false_eq_true,
  gAdd_int, gSub_int, gLt_int, gLe_int, gGt_int, gGe_int, gEqA_int, gNeA_int, gEqA_str, gNeA_str, gLen, gInt, gAbs, gSum, intsOf_map, reduceCtorEq, ne_eq, not_false_eq_true, not_true_eq_false, and_self, and_true, true_and, and_false, false_and, Nat.reduceAdd, Nat.reduceSub, Nat.reduceMul, Nat.reduceLT, Nat.reduceLeDiff, Nat.zero_add, Int.reduceNeg, Int.reduceLT, Int.reduceLE, Int.reduceAdd, Int.reduceSub, Int.reduceMul, Int.reduceEq, Int.reduceNe, e]
          rfl
        · simp only [List.length_map, Array.length_toList]
          have : z.cps.size = z.length := rfl
          omega
      have hf : ((z.cps.toList.map fun c => D.str ⟨#[c]⟩).map fun d => match d with | .str s => D.bl (okc (s.cps.getD 0 0)) | _ => .non) = z.cps.toList.map fun c => D.bl (okc c) := by
        rw [List.map_map]
        rfl
      rw [hf] at hm
      have h3' : 3 ≤ z.length := by omega
      have h4' : z.length ≤ 24 := by omega
      generalize mLc [1] (iVal (mV 0)) (gNm 1) tYesD (mOp2 (gIn fun b => b) (.sl 1) (.ev (mC (.tup true ([V.str "+", V.str "-"].map dOfV))))) = q at hm ⊢
      simp only [finM_ret, finM_nx, finM_err, finI_ret, sRet, sRetN, sEx, andThen, sAs, sSeq, sIf, sNx, sPar, sPar3, sRaise, mIf, bIf, bAnd, bOr, bNot, tVal, tTru, tTru2, asB, truD, mOp2, mOp, mC, mV, mMv, rd, mCBV, mCB, mCall, mCallI, mFz, mNeg, mTup, mLst, aCons, aNil, mAndV, mOrV, mNotV, mSl, oNone, oSome, gSl,
  bnd_ok, bnd_er, got_ok, gNm, gTp, gsCons, gsNil, gSubL, mMut, fApp, fPop, iVal, iRng, rngD1, rngD2, itemsD, mCh, cLast, cLink, tYesD,
  List.map_cons, List.map_nil, List.length_cons, List.length_nil, List.replicate, List.cons_append, List.nil_append, List.append_nil, List.getElem?_cons_zero, List.getElem?_cons_succ, List.set_cons_zero, List.set_cons_succ, Option.map_some, Option.join_some, Option.isSome_some, Option.bind_some,
  noOwn_int, noOwn_bl, noOwn_str, noOwn_non, noOwn_ty, noOwn_lst, noOwn_tup, noOwn_dit, noOwns_nil, noOwns_cons, noOwns_ints, fz_int, fz_bl, fz_str, fz_non, if_true, if_false, Bool.and_self, Bool.and_true, Bool.true_and, Bool.false_and, Bool.and_false, decide_true, decide_false, Bool.false_eq_true,
  gAdd_int, gSub_int, gLt_int, gLe_int, gGt_int, gGe_int, gEqA_int, gNeA_int, gEqA_str, gNeA_str, gLen, gInt, gAbs, gSum, intsOf_map, reduceCtorEq, ne_eq, not_false_eq_true, not_true_eq_false, and_self, and_true, true_and, and_false, false_and, Nat.reduceAdd, Nat.reduceSub, Nat.reduceMul, Nat.reduceLT, Nat.reduceLeDiff, Nat.zero_add, Int.reduceNeg, Int.reduceLT, Int.reduceLE, Int.reduceAdd, Int.reduceSub, Int.reduceMul, Int.reduceEq, Int.reduceNe, hm, gAll, blsOf_map, h3', h4', List.all_map]
      rfl
    · have h4' : ¬ z.length ≤ 24 := by omega
      rw [seq_ret (d := .bl false) (S1 := [some (.str z), none]) (by simp only [finM_ret, finM_nx, finM_err, finI_ret, sRet, sRetN, sEx, andThen, sAs, sSeq, sIf, sNx, sPar, sPar3, sRaise, mIf, bIf, bAnd, bOr, bNot, tVal, tTru, tTru2, asB, truD, mOp2, mOp, mC, mV, mMv, rd, mCBV, mCB, mCall, mCallI, mFz, mNeg, mTup, mLst, aCons, aNil, mAndV, mOrV, mNotV, mSl, oNone, oSome, gSl,
  bnd_ok, bnd_er, got_ok, gNm, gTp, gsCons, gsNil, gSubL, mMut, fApp, fPop, iVal, iRng, rngD1, rngD2, itemsD, mCh, cLast, cLink, tYesD,
  List.map_cons, List.map_nil, List.length_cons, List.length_nil, List.replicate, List.cons_append, List.nil_append, List.append_nil, List.getElem?_cons_zero, List.getElem?_cons_succ, List.set_cons_zero, List.set_cons_succ, Option.map_some, Option.join_some, Option.isSome_some, Option.bind_some,
  noOwn_int, noOwn_bl, noOwn_str, noOwn_non, noOwn_ty, noOwn_lst, noOwn_tup, noOwn_dit, noOwns_nil, noOwns_cons, noOwns_ints, fz_int, fz_bl, fz_str, fz_non, if_true, if_false, Bool.and_self, Bool.and_true, Bool.true_and, Bool.false_and, Bool.and_false, decide_true, decide_false, Bool.false_eq_true,
  gAdd_int, gSub_int, gLt_int, gLe_int, gGt_int, gGe_int, gEqA_int, gNeA_int, gEqA_str, gNeA_str, gLen, gInt, gAbs, gSum, intsOf_map, reduceCtorEq, ne_eq, not_false_eq_true, not_true_eq_false, and_self, and_true, true_and, and_false, false_and, Nat.reduceAdd, Nat.reduceSub, Nat.reduceMul, Nat.reduceLT, Nat.reduceLeDiff, Nat.zero_add, Int.reduceNeg, Int.reduceLT, Int.reduceLE, Int.reduceAdd, Int.reduceSub, Int.reduceMul, Int.reduceEq, Int.reduceNe, e1, hl, h3, h4, Bool.not_true, Bool.not_false, Bool.false_or, Bool.or_false])]
      simp only [finM_ret, finM_nx, finM_err, finI_ret, sRet, sRetN, sEx, andThen, sAs, sSeq, sIf, sNx, sPar, sPar3, sRaise, mIf, bIf, bAnd, bOr, bNot, tVal, tTru, tTru2, asB, truD, mOp2, mOp, mC, mV, mMv, rd, mCBV, mCB, mCall, mCallI, mFz, mNeg, mTup, mLst, aCons, aNil, mAndV, mOrV, mNotV, mSl, oNone, oSome, gSl,
  bnd_ok, bnd_er, got_ok, gNm, gTp, gsCons, gsNil, gSubL, mMut, fApp, fPop, iVal, iRng, rngD1, rngD2, itemsD, mCh, cLast, cLink, tYesD,
  List.map_cons, List.map_nil, List.length_cons, List.length_nil, List.replicate, List.cons_append, List.nil_append, List.append_nil, List.getElem?_cons_zero, List.getElem?_cons_succ, List.set_cons_zero, List.set_cons_succ, Option.map_some, Option.join_some, Option.isSome_some, Option.bind_some,
  noOwn_int, noOwn_bl, noOwn_str, noOwn_non, noOwn_ty, noOwn_lst, noOwn_tup, noOwn_dit, noOwns_nil, noOwns_cons, noOwns_ints, fz_int, fz_bl, fz_str, fz_non, if_true, if_false, Bool.and_self, Bool.and_true, Bool.true_and, Bool.false_and, Bool.and_false, decide_true, decide_false, Bool.false_eq_true,
  gAdd_int, gSub_int, gLt_int, gLe_int, gGt_int, gGe_int, gEqA_int, gNeA_int, gEqA_str, gNeA_str, gLen, gInt, gAbs, gSum, intsOf_map, reduceCtorEq, ne_eq, not_false_eq_true, not_true_eq_false, and_self, and_true, true_and, and_false, false_and, Nat.reduceAdd, Nat.reduceSub, Nat.reduceMul, Nat.reduceLT, Nat.reduceLeDiff, Nat.zero_add, Int.reduceNeg, Int.reduceLT, Int.reduceLE, Int.reduceAdd, Int.reduceSub, Int.reduceMul, Int.reduceEq, Int.reduceNe, h4', Bool.and_false]
  · have h3' : ¬ 3 ≤ z.length := by omega
    rw [seq_ret (d := .bl false) (S1 := [some (.str z), none]) (by simp only [finM_ret, finM_nx, finM_err, finI_ret, sRet, sRetN, sEx, andThen, sAs, sSeq, sIf, sNx, sPar, sPar3, sRaise, mIf, bIf, bAnd, bOr, bNot, tVal, tTru, tTru2, asB, truD, mOp2, mOp, mC, mV, mMv, rd, mCBV, mCB, mCall, mCallI, mFz, mNeg, mTup, mLst, aCons, aNil, mAndV, mOrV, mNotV, mSl, oNone, oSome, gSl,
  bnd_ok, bnd_er, got_ok, gNm, gTp, gsCons, gsNil, gSubL, mMut, fApp, fPop, iVal, iRng, rngD1, rngD2, itemsD, mCh, cLast, cLink, tYesD,
  List.map_cons, List.map_nil, List.length_cons, List.length_nil, List.replicate, List.cons_append, List.nil_append, List.append_nil, List.getElem?_cons_zero, List.getElem?_cons_succ, List.set_cons_zero, List.set_cons_succ, Option.map_some, Option.join_some, Option.isSome_some, Option.bind_some,
  noOwn_int, noOwn_bl, noOwn_str, noOwn_non, noOwn_ty, noOwn_lst, noOwn_tup, noOwn_dit, noOwns_nil, noOwns_cons, noOwns_ints, fz_int, fz_bl, fz_str, fz_non, if_true, if_false, Bool.and_self, Bool.and_true, Bool.true_and, Bool.false_and, Bool.and_false, decide_true, decide_false, Bool.false_eq_true,
  gAdd_int, gSub_int, gLt_int, gLe_int, gGt_int, gGe_int, gEqA_int, gNeA_int, gEqA_str, gNeA_str, gLen, gInt, gAbs, gSum, intsOf_map, reduceCtorEq, ne_eq, not_false_eq_true, not_true_eq_false, and_self, and_true, true_and, and_false, false_and, Nat.reduceAdd, Nat.reduceSub, Nat.reduceMul, Nat.reduceLT, Nat.reduceLeDiff, Nat.zero_add, Int.reduceNeg, Int.reduceLT, Int.reduceLE, Int.reduceAdd, Int.reduceSub, Int.reduceMul, Int.reduceEq, Int.reduceNe, e1, hl, h3, Bool.not_true, Bool.not_false, Bool.false_or, Bool.or_false])]
    simp only [finM_ret, finM_nx, finM_err, finI_ret, sRet, sRetN, sEx, andThen, sAs, sSeq, sIf, sNx, sPar, sPar3, sRaise, mIf, bIf, bAnd, bOr, bNot, tVal, tTru, tTru2, asB, truD, mOp2, mOp, mC, mV, mMv, rd, mCBV, mCB, mCall, mCallI, mFz, mNeg, mTup, mLst, aCons, aNil, mAndV, mOrV, mNotV, mSl, oNone, oSome, gSl,
  bnd_ok, bnd_er, got_ok, gNm, gTp, gsCons, gsNil, gSubL, mMut, fApp, fPop, iVal, iRng, rngD1, rngD2, itemsD, mCh, cLast, cLink, tYesD,
  List.map_cons, List.map_nil, List.length_cons, List.length_nil, List.replicate, List.cons_append, List.nil_append, List.append_nil, List.getElem?_cons_zero, List.getElem?_cons_succ, List.set_cons_zero, List.set_cons_succ, Option.map_some, Option.join_some, Option.isSome_some, Option.bind_some,
  noOwn_int, noOwn_bl, noOwn_str, noOwn_non, noOwn_ty, noOwn_lst, noOwn_tup, noOwn_dit, noOwns_nil, noOwns_cons, noOwns_ints, fz_int, fz_bl, fz_str, fz_non, if_true, if_false, Bool.and_self, Bool.and_true, Bool.true_and, Bool.false_and, Bool.and_false, decide_true, decide_false, Bool.false_eq_true,
  gAdd_int, gSub_int, gLt_int, gLe_int, gGt_int, gGe_int, gEqA_int, gNeA_int, gEqA_str, gNeA_str, gLen, gInt, gAbs, gSum, intsOf_map, reduceCtorEq, ne_eq, not_false_eq_true, not_true_eq_false, and_self, and_true, true_and, and_false, false_and, Nat.reduceAdd, Nat.reduceSub, Nat.reduceMul, Nat.reduceLT, Nat.reduceLeDiff, Nat.zero_add, Int.reduceNeg, Int.reduceLT, Int.reduceLE, Int.reduceAdd, Int.reduceSub, Int.reduceMul, Int.reduceEq, Int.reduceNe, h3', Bool.false_and]
theorem is_strip_not (d : D) (t : String) (h : tyN d = some t) (hs : t ≠ "str") (ht : t ∈ tysN) (hn : noOwn d = true) : m_is_strip [d] = some (.ok (.bl false), none) := by
  have e1 : gIsi [d, .ty "str"] = some (.bl false) := by
    show (if "str" ∈ tysN then (tyN d).map fun t => D.bl (isiB t "str") else none) = _
    rw [if_pos (by decide), h]
    simp only [tysN, List.mem_cons, List.not_mem_nil, or_false] at ht
    rcases ht with rfl | rfl | rfl | rfl | rfl | rfl | rfl <;> first | rfl | exact absurd rfl hs
  rw [u_is_strip]
  unfold b_is_strip
  rw [seq_ret (d := .bl false) (S1 := [some d, none]) (by simp only [finM_ret, finM_nx, finM_err, finI_ret, sRet, sRetN, sEx, andThen, sAs, sSeq, sIf, sNx, sPar, sPar3, sRaise, mIf, bIf, bAnd, bOr, bNot, tVal, tTru, tTru2, asB, truD, mOp2, mOp, mC, mV, mMv, rd, mCBV, mCB, mCall, mCallI, mFz, mNeg, mTup, mLst, aCons, aNil, mAndV, mOrV, mNotV, mSl, oNone, oSome, gSl,
  bnd_ok, bnd_er, got_ok, gNm, gTp, gsCons, gsNil, gSubL, mMut, fApp, fPop, iVal, iRng, rngD1, rngD2, itemsD, mCh, cLast, cLink, tYesD,
  List.map_cons, List.map_nil, List.length_cons, List.length_nil, List.replicate, List.cons_append, List.nil_append, List.append_nil, List.getElem?_cons_zero, List.getElem?_cons_succ, List.set_cons_zero, List.set_cons_succ, Option.map_some, Option.join_some, Option.isSome_some, Option.bind_some,
  noOwn_int, noOwn_bl, noOwn_str, noOwn_non, noOwn_ty, noOwn_lst, noOwn_tup, noOwn_dit, noOwns_nil, noOwns_cons, noOwns_ints, fz_int, fz_bl, fz_str, fz_non, if_true, if_false, Bool.and_self, Bool.and_true, Bool.true_and, Bool.false_and, Bool.and_false, decide_true, decide_false, Bool.false_eq_true,
  gAdd_int, gSub_int, gLt_int, gLe_int, gGt_int, gGe_int, gEqA_int, gNeA_int, gEqA_str, gNeA_str, gLen, gInt, gAbs, gSum, intsOf_map, reduceCtorEq, ne_eq, not_false_eq_true, not_true_eq_false, and_self, and_true, true_and, and_false, false_and, Nat.reduceAdd, Nat.reduceSub, Nat.reduceMul, Nat.reduceLT, Nat.reduceLeDiff, Nat.zero_add, Int.reduceNeg, Int.reduceLT, Int.reduceLE, Int.reduceAdd, Int.reduceSub, Int.reduceMul, Int.reduceEq, Int.reduceNe, e1, Bool.not_true, Bool.not_false, Bool.false_or, Bool.or_false])]
  rfl
theorem mkS_all (bs : List Bool) : (mkS bs).cps.toList.all okc = true := by
  rw [mkS_list]
  simp only [List.all_map, List.all_eq_true, Function.comp]
  intro b _
  cases b <;> rfl
theorem check_ok (bs : List Bool) (h3 : 3 ≤ bs.length) (h24 : bs.length ≤ 24) : m_check_strip [.str (mkS bs)] = some (.ok .non, none) := by
  have e := is_strip_str (mkS bs) (by rw [mkS_len]; omega)
  rw [mkS_len, decide_eq_true h3, decide_eq_true h24, mkS_all] at e
  simp only [Bool.and_self] at e
  rw [u_check_strip]
  simp only [finM_ret, finM_nx, finM_err, finI_ret, sRet, sRetN, sEx, andThen, sAs, sSeq, sIf, sNx, sPar, sPar3, sRaise, mIf, bIf, bAnd, bOr, bNot, tVal, tTru, tTru2, asB, truD, mOp2, mOp, mC, mV, mMv, rd, mCBV, mCB, mCall, mCallI, mFz, mNeg, mTup, mLst, aCons, aNil, mAndV, mOrV, mNotV, mSl, oNone, oSome, gSl,
  bnd_ok, bnd_er, got_ok, gNm, gTp, gsCons, gsNil, gSubL, mMut, fApp, fPop, iVal, iRng, rngD1, rngD2, itemsD, mCh, cLast, cLink, tYesD,
  List.map_cons, List.map_nil, List.length_cons, List.length_nil, List.replicate, List.cons_append, List.nil_append, List.append_nil, List.getElem?_cons_zero, List.getElem?_cons_succ, List.set_cons_zero, List.set_cons_succ, Option.map_some, Option.join_some, Option.isSome_some, Option.bind_some,
  noOwn_int, noOwn_bl, noOwn_str, noOwn_non, noOwn_ty, noOwn_lst, noOwn_tup, noOwn_dit, noOwns_nil, noOwns_cons, noOwns_ints, fz_int, fz_bl, fz_str, fz_non, if_true, if_false, Bool.and_self, Bool.and_true, Bool.true_and, Bool.false_and, Bool.and_false, decide_true, decide_false, Bool.false_eq_true,
  gAdd_int, gSub_int, gLt_int, gLe_int, gGt_int, gGe_int, gEqA_int, gNeA_int, gEqA_str, gNeA_str, gLen, gInt, gAbs, gSum, intsOf_map, reduceCtorEq, ne_eq, not_false_eq_true, not_true_eq_false, and_self, and_true, true_and, and_false, false_and, Nat.reduceAdd, Nat.reduceSub, Nat.reduceMul, Nat.reduceLT, Nat.reduceLeDiff, Nat.zero_add, Int.reduceNeg, Int.reduceLT, Int.reduceLE, Int.reduceAdd, Int.reduceSub, Int.reduceMul, Int.reduceEq, Int.reduceNe, b_check_strip, e, Bool.not_true]
theorem check_bad (d : D) (hn : noOwn d = true) (h : m_is_strip [d] = some (.ok (.bl false), none)) : m_check_strip [d] = some (.error ("InvalidStrip", [("given", d)]), none) := by
  rw [u_check_strip]
  simp only [finM_ret, finM_nx, finM_err, finI_ret, sRet, sRetN, sEx, andThen, sAs, sSeq, sIf, sNx, sPar, sPar3, sRaise, mIf, bIf, bAnd, bOr, bNot, tVal, tTru, tTru2, asB, truD, mOp2, mOp, mC, mV, mMv, rd, mCBV, mCB, mCall, mCallI, mFz, mNeg, mTup, mLst, aCons, aNil, mAndV, mOrV, mNotV, mSl, oNone, oSome, gSl,
  bnd_ok, bnd_er, got_ok, gNm, gTp, gsCons, gsNil, gSubL, mMut, fApp, fPop, iVal, iRng, rngD1, rngD2, itemsD, mCh, cLast, cLink, tYesD,
  List.map_cons, List.map_nil, List.length_cons, List.length_nil, List.replicate, List.cons_append, List.nil_append, List.append_nil, List.getElem?_cons_zero, List.getElem?_cons_succ, List.set_cons_zero, List.set_cons_succ, Option.map_some, Option.join_some, Option.isSome_some, Option.bind_some,
  noOwn_int, noOwn_bl, noOwn_str, noOwn_non, noOwn_ty, noOwn_lst, noOwn_tup, noOwn_dit, noOwns_nil, noOwns_cons, noOwns_ints, fz_int, fz_bl, fz_str, fz_non, if_true, if_false, Bool.and_self, Bool.and_true, Bool.true_and, Bool.false_and, Bool.and_false, decide_true, decide_false, Bool.false_eq_true,
  gAdd_int, gSub_int, gLt_int, gLe_int, gGt_int, gGe_int, gEqA_int, gNeA_int, gEqA_str, gNeA_str, gLen, gInt, gAbs, gSum, intsOf_map, reduceCtorEq, ne_eq, not_false_eq_true, not_true_eq_false, and_self, and_true, true_and, and_false, false_and, Nat.reduceAdd, Nat.reduceSub, Nat.reduceMul, Nat.reduceLT, Nat.reduceLeDiff, Nat.zero_add, Int.reduceNeg, Int.reduceLT, Int.reduceLE, Int.reduceAdd, Int.reduceSub, Int.reduceMul, Int.reduceEq, Int.reduceNe, b_check_strip, hn, h, Bool.not_false]
def hasP (bs : List Bool) : Bool := bs.any id
theorem in_plus (bs : List Bool) : gIn (fun b => b) (.str "+") (.str (mkS bs)) = some (.bl (hasP bs)) := by
  have e : gIn (fun b => b) (.str "+") (.str (mkS bs)) = some (.bl (!(Builtin.Str.occurrences (mkS bs) "+" 0 (mkS bs).length 1).isEmpty)) := rfl
  rw [e, plus_eq, show sg true = ⟨#[43]⟩ from rfl, PySem.StrLaws.found_one, mkS_list]
  congr 2
  unfold hasP
  rw [Bool.eq_iff_iff]
  simp only [decide_eq_true_eq, List.mem_map, List.any_eq_true, id]
  constructor
  · rintro ⟨b, hb, hc⟩
    refine ⟨b, hb, ?_⟩
    cases b
    · cases hc
    · rfl
  · rintro ⟨b, hb, rfl⟩
    exact ⟨true, hb, rfl⟩
theorem eqv_ints : ∀ x y : Int × Int × Int, PyData.eqv (.tuple [.int x.1, .int x.2.1, .int x.2.2]) (.tuple [.int y.1, .int y.2.1, .int y.2.2]) = decide (x = y) := by
  intro ⟨a, b, c⟩ ⟨d, e, f⟩
  simp only [PyData.eqv, PyData.eqvAll, Bool.and_true]
  by_cases h1 : a = d <;> by_cases h2 : b = e <;> by_cases h3 : c = f <;> simp [h1, h2, h3]
theorem eq_home {c c' : Bool} (g : G) : gEqA (.tup c [.int (enc g).1, .int (enc g).2.1, .int (enc g).2.2]) (.tup c' [.int 0, .int 1, .int 2]) = some (.bl (decide (g = 0))) := by
  have e : eqOk (.tup c [.int (enc g).1, .int (enc g).2.1, .int (enc g).2.2]) (.tup c' [.int 0, .int 1, .int 2]) = true := by
    simp [eqOk, okPy, okPys, py, pys, PyData.depth, PyData.depthAll]
  show gOr (gLenNe false) gEq _ _ = _
  unfold gOr
  show gEq _ _ = _
  unfold gEq
  rw [if_pos e]
  unfold eqD
  simp only [py, pys]
  rw [eqv_ints (enc g) (0, 1, 2)]
  congr 2
  apply decide_eq_decide.mpr
  exact ⟨fun h => enc_inj g 0 h, fun h => by rw [h]; rfl⟩
theorem ne_home {c c' : Bool} (g : G) : gNeA (.tup c [.int (enc g).1, .int (enc g).2.1, .int (enc g).2.2]) (.tup c' [.int 0, .int 1, .int 2]) = some (.bl (!decide (g = 0))) := by
  have e : eqOk (.tup c [.int (enc g).1, .int (enc g).2.1, .int (enc g).2.2]) (.tup c' [.int 0, .int 1, .int 2]) = true := by
    simp [eqOk, okPy, okPys, py, pys, PyData.depth, PyData.depthAll]
  show gOr (gLenNe true) gNe _ _ = _
  unfold gOr
  show gNe _ _ = _
  unfold gNe
  rw [if_pos e]
  unfold eqD
  simp only [py, pys]
  rw [eqv_ints (enc g) (0, 1, 2)]
  congr 3
  apply decide_eq_decide.mpr
  exact ⟨fun h => enc_inj g 0 h, fun h => by rw [h]; rfl⟩
def fits (bs : List Bool) : Bool := decide (prod bs = 0) && hasP bs
theorem folds_ok (bs : List Bool) (h3 : 3 ≤ bs.length) (h24 : bs.length ≤ 24) : m_folds [.str (mkS bs)] = some (.ok (.bl (fits bs)), none) := by
  have e1 := last_ok bs (by intro h; subst h; simp at h3) (by omega)
  have e2 := check_ok bs h3 h24
  have e3 : gEqA (tD (enc (prod bs))) (.tup true [.int 0, .int 1, .int 2]) = some (.bl (decide (prod bs = 0))) := eq_home (c := false) (c' := true) (prod bs)
  have e4 := in_plus bs
  have hf : m_folds_of [.str (mkS bs)] = some (.ok (.bl (fits bs)), none) := by
    rw [u_folds_of]
    unfold fits
    by_cases h : prod bs = 0
    · rw [decide_eq_true h] at e3 ⊢
      simp only [finM_ret, finM_nx, finM_err, finI_ret, sRet, sRetN, sEx, andThen, sAs, sSeq, sIf, sNx, sPar, sPar3, sRaise, mIf, bIf, bAnd, bOr, bNot, tVal, tTru, tTru2, asB, truD, mOp2, mOp, mC, mV, mMv, rd, mCBV, mCB, mCall, mCallI, mFz, mNeg, mTup, mLst, aCons, aNil, mAndV, mOrV, mNotV, mSl, oNone, oSome, gSl,
  bnd_ok, bnd_er, got_ok, gNm, gTp, gsCons, gsNil, gSubL, mMut, fApp, fPop, iVal, iRng, rngD1, rngD2, itemsD, mCh, cLast, cLink, tYesD,
  List.map_cons, List.map_nil, List.length_cons, List.length_nil, List.replicate, List.cons_append, List.nil_append, List.append_nil, List.getElem?_cons_zero, List.getElem?_cons_succ, List.set_cons_zero, List.set_cons_succ, Option.map_some, Option.join_some, Option.isSome_some, Option.bind_some,
  noOwn_int, noOwn_bl, noOwn_str, noOwn_non, noOwn_ty, noOwn_lst, noOwn_tup, noOwn_dit, noOwns_nil, noOwns_cons, noOwns_ints, fz_int, fz_bl, fz_str, fz_non, if_true, if_false, Bool.and_self, Bool.and_true, Bool.true_and, Bool.false_and, Bool.and_false, decide_true, decide_false, Bool.false_eq_true,
  gAdd_int, gSub_int, gLt_int, gLe_int, gGt_int, gGe_int, gEqA_int, gNeA_int, gEqA_str, gNeA_str, gLen, gInt, gAbs, gSum, intsOf_map, reduceCtorEq, ne_eq, not_false_eq_true, not_true_eq_false, and_self, and_true, true_and, and_false, false_and, Nat.reduceAdd, Nat.reduceSub, Nat.reduceMul, Nat.reduceLT, Nat.reduceLeDiff, Nat.zero_add, Int.reduceNeg, Int.reduceLT, Int.reduceLE, Int.reduceAdd, Int.reduceSub, Int.reduceMul, Int.reduceEq, Int.reduceNe, b_folds_of, dOfV, e1, e3, e4]
    · rw [decide_eq_false h] at e3 ⊢
      simp only [finM_ret, finM_nx, finM_err, finI_ret, sRet, sRetN, sEx, andThen, sAs, sSeq, sIf, sNx, sPar, sPar3, sRaise, mIf, bIf, bAnd, bOr, bNot, tVal, tTru, tTru2, asB, truD, mOp2, mOp, mC, mV, mMv, rd, mCBV, mCB, mCall, mCallI, mFz, mNeg, mTup, mLst, aCons, aNil, mAndV, mOrV, mNotV, mSl, oNone, oSome, gSl,
  bnd_ok, bnd_er, got_ok, gNm, gTp, gsCons, gsNil, gSubL, mMut, fApp, fPop, iVal, iRng, rngD1, rngD2, itemsD, mCh, cLast, cLink, tYesD,
  List.map_cons, List.map_nil, List.length_cons, List.length_nil, List.replicate, List.cons_append, List.nil_append, List.append_nil, List.getElem?_cons_zero, List.getElem?_cons_succ, List.set_cons_zero, List.set_cons_succ, Option.map_some, Option.join_some, Option.isSome_some, Option.bind_some,
  noOwn_int, noOwn_bl, noOwn_str, noOwn_non, noOwn_ty, noOwn_lst, noOwn_tup, noOwn_dit, noOwns_nil, noOwns_cons, noOwns_ints, fz_int, fz_bl, fz_str, fz_non, if_true, if_false, Bool.and_self, Bool.and_true, Bool.true_and, Bool.false_and, Bool.and_false, decide_true, decide_false, Bool.false_eq_true,
  gAdd_int, gSub_int, gLt_int, gLe_int, gGt_int, gGe_int, gEqA_int, gNeA_int, gEqA_str, gNeA_str, gLen, gInt, gAbs, gSum, intsOf_map, reduceCtorEq, ne_eq, not_false_eq_true, not_true_eq_false, and_self, and_true, true_and, and_false, false_and, Nat.reduceAdd, Nat.reduceSub, Nat.reduceMul, Nat.reduceLT, Nat.reduceLeDiff, Nat.zero_add, Int.reduceNeg, Int.reduceLT, Int.reduceLE, Int.reduceAdd, Int.reduceSub, Int.reduceMul, Int.reduceEq, Int.reduceNe, b_folds_of, dOfV, e1, e3, e4]
  rw [u_folds]
  simp only [finM_ret, finM_nx, finM_err, finI_ret, sRet, sRetN, sEx, andThen, sAs, sSeq, sIf, sNx, sPar, sPar3, sRaise, mIf, bIf, bAnd, bOr, bNot, tVal, tTru, tTru2, asB, truD, mOp2, mOp, mC, mV, mMv, rd, mCBV, mCB, mCall, mCallI, mFz, mNeg, mTup, mLst, aCons, aNil, mAndV, mOrV, mNotV, mSl, oNone, oSome, gSl,
  bnd_ok, bnd_er, got_ok, gNm, gTp, gsCons, gsNil, gSubL, mMut, fApp, fPop, iVal, iRng, rngD1, rngD2, itemsD, mCh, cLast, cLink, tYesD,
  List.map_cons, List.map_nil, List.length_cons, List.length_nil, List.replicate, List.cons_append, List.nil_append, List.append_nil, List.getElem?_cons_zero, List.getElem?_cons_succ, List.set_cons_zero, List.set_cons_succ, Option.map_some, Option.join_some, Option.isSome_some, Option.bind_some,
  noOwn_int, noOwn_bl, noOwn_str, noOwn_non, noOwn_ty, noOwn_lst, noOwn_tup, noOwn_dit, noOwns_nil, noOwns_cons, noOwns_ints, fz_int, fz_bl, fz_str, fz_non, if_true, if_false, Bool.and_self, Bool.and_true, Bool.true_and, Bool.false_and, Bool.and_false, decide_true, decide_false, Bool.false_eq_true,
  gAdd_int, gSub_int, gLt_int, gLe_int, gGt_int, gGe_int, gEqA_int, gNeA_int, gEqA_str, gNeA_str, gLen, gInt, gAbs, gSum, intsOf_map, reduceCtorEq, ne_eq, not_false_eq_true, not_true_eq_false, and_self, and_true, true_and, and_false, false_and, Nat.reduceAdd, Nat.reduceSub, Nat.reduceMul, Nat.reduceLT, Nat.reduceLeDiff, Nat.zero_add, Int.reduceNeg, Int.reduceLT, Int.reduceLE, Int.reduceAdd, Int.reduceSub, Int.reduceMul, Int.reduceEq, Int.reduceNe, b_folds, e2, hf]
def whyD (bs : List Bool) : D := if fits bs = true then .non else if prod bs = 0 then .tup false [.str "bent", .int bs.length] else .tup false [.str "away", tD (enc (prod bs))]
theorem why_ok (bs : List Bool) (h3 : 3 ≤ bs.length) (h24 : bs.length ≤ 24) : m_why_not [.str (mkS bs)] = some (.ok (whyD bs), none) := by
  have e1 := last_ok bs (by intro h; subst h; simp at h3) (by omega)
  have e2 := check_ok bs h3 h24
  have e3 : gNeA (tD (enc (prod bs))) (.tup true [.int 0, .int 1, .int 2]) = some (.bl (!decide (prod bs = 0))) := ne_home (c := false) (c' := true) (prod bs)
  have e4 := in_plus bs
  have hl : bs.length ≤ 1000000 := by omega
  have n1 : noOwn (tD (enc (prod bs))) = true := by simp [tD, noOwn, noOwns]
  rw [u_why_not]
  unfold whyD fits
  by_cases h : prod bs = 0
  · rw [decide_eq_true h] at e3 ⊢
    rw [h] at e1 e3 n1
    by_cases hp : hasP bs = true
    · rw [hp] at e4 ⊢
      simp only [finM_ret, finM_nx, finM_err, finI_ret, sRet, sRetN, sEx, andThen, sAs, sSeq, sIf, sNx, sPar, sPar3, sRaise, mIf, bIf, bAnd, bOr, bNot, tVal, tTru, tTru2, asB, truD, mOp2, mOp, mC, mV, mMv, rd, mCBV, mCB, mCall, mCallI, mFz, mNeg, mTup, mLst, aCons, aNil, mAndV, mOrV, mNotV, mSl, oNone, oSome, gSl,
  bnd_ok, bnd_er, got_ok, gNm, gTp, gsCons, gsNil, gSubL, mMut, fApp, fPop, iVal, iRng, rngD1, rngD2, itemsD, mCh, cLast, cLink, tYesD,
  List.map_cons, List.map_nil, List.length_cons, List.length_nil, List.replicate, List.cons_append, List.nil_append, List.append_nil, List.getElem?_cons_zero, List.getElem?_cons_succ, List.set_cons_zero, List.set_cons_succ, Option.map_some, Option.join_some, Option.isSome_some, Option.bind_some,
  noOwn_int, noOwn_bl, noOwn_str, noOwn_non, noOwn_ty, noOwn_lst, noOwn_tup, noOwn_dit, noOwns_nil, noOwns_cons, noOwns_ints, fz_int, fz_bl, fz_str, fz_non, if_true, if_false, Bool.and_self, Bool.and_true, Bool.true_and, Bool.false_and, Bool.and_false, decide_true, decide_false, Bool.false_eq_true,
  gAdd_int, gSub_int, gLt_int, gLe_int, gGt_int, gGe_int, gEqA_int, gNeA_int, gEqA_str, gNeA_str, gLen, gInt, gAbs, gSum, intsOf_map, reduceCtorEq, ne_eq, not_false_eq_true, not_true_eq_false, and_self, and_true, true_and, and_false, false_and, Nat.reduceAdd, Nat.reduceSub, Nat.reduceMul, Nat.reduceLT, Nat.reduceLeDiff, Nat.zero_add, Int.reduceNeg, Int.reduceLT, Int.reduceLE, Int.reduceAdd, Int.reduceSub, Int.reduceMul, Int.reduceEq, Int.reduceNe, b_why_not, dOfV, e1, e2, e3, e4, Bool.not_true, h]
    · have hp : hasP bs = false := by simpa using hp
      rw [hp] at e4 ⊢
      simp only [finM_ret, finM_nx, finM_err, finI_ret, sRet, sRetN, sEx, andThen, sAs, sSeq, sIf, sNx, sPar, sPar3, sRaise, mIf, bIf, bAnd, bOr, bNot, tVal, tTru, tTru2, asB, truD, mOp2, mOp, mC, mV, mMv, rd, mCBV, mCB, mCall, mCallI, mFz, mNeg, mTup, mLst, aCons, aNil, mAndV, mOrV, mNotV, mSl, oNone, oSome, gSl,
  bnd_ok, bnd_er, got_ok, gNm, gTp, gsCons, gsNil, gSubL, mMut, fApp, fPop, iVal, iRng, rngD1, rngD2, itemsD, mCh, cLast, cLink, tYesD,
  List.map_cons, List.map_nil, List.length_cons, List.length_nil, List.replicate, List.cons_append, List.nil_append, List.append_nil, List.getElem?_cons_zero, List.getElem?_cons_succ, List.set_cons_zero, List.set_cons_succ, Option.map_some, Option.join_some, Option.isSome_some, Option.bind_some,
  noOwn_int, noOwn_bl, noOwn_str, noOwn_non, noOwn_ty, noOwn_lst, noOwn_tup, noOwn_dit, noOwns_nil, noOwns_cons, noOwns_ints, fz_int, fz_bl, fz_str, fz_non, if_true, if_false, Bool.and_self, Bool.and_true, Bool.true_and, Bool.false_and, Bool.and_false, decide_true, decide_false, Bool.false_eq_true,
  gAdd_int, gSub_int, gLt_int, gLe_int, gGt_int, gGe_int, gEqA_int, gNeA_int, gEqA_str, gNeA_str, gLen, gInt, gAbs, gSum, intsOf_map, reduceCtorEq, ne_eq, not_false_eq_true, not_true_eq_false, and_self, and_true, true_and, and_false, false_and, Nat.reduceAdd, Nat.reduceSub, Nat.reduceMul, Nat.reduceLT, Nat.reduceLeDiff, Nat.zero_add, Int.reduceNeg, Int.reduceLT, Int.reduceLE, Int.reduceAdd, Int.reduceSub, Int.reduceMul, Int.reduceEq, Int.reduceNe, b_why_not, dOfV, e1, e2, e3, e4, Bool.not_true, h, hl, mkS_len, Nat.reduceLeDiff]
  · rw [decide_eq_false h] at e3 ⊢
    simp only [finM_ret, finM_nx, finM_err, finI_ret, sRet, sRetN, sEx, andThen, sAs, sSeq, sIf, sNx, sPar, sPar3, sRaise, mIf, bIf, bAnd, bOr, bNot, tVal, tTru, tTru2, asB, truD, mOp2, mOp, mC, mV, mMv, rd, mCBV, mCB, mCall, mCallI, mFz, mNeg, mTup, mLst, aCons, aNil, mAndV, mOrV, mNotV, mSl, oNone, oSome, gSl,
  bnd_ok, bnd_er, got_ok, gNm, gTp, gsCons, gsNil, gSubL, mMut, fApp, fPop, iVal, iRng, rngD1, rngD2, itemsD, mCh, cLast, cLink, tYesD,
  List.map_cons, List.map_nil, List.length_cons, List.length_nil, List.replicate, List.cons_append, List.nil_append, List.append_nil, List.getElem?_cons_zero, List.getElem?_cons_succ, List.set_cons_zero, List.set_cons_succ, Option.map_some, Option.join_some, Option.isSome_some, Option.bind_some,
  noOwn_int, noOwn_bl, noOwn_str, noOwn_non, noOwn_ty, noOwn_lst, noOwn_tup, noOwn_dit, noOwns_nil, noOwns_cons, noOwns_ints, fz_int, fz_bl, fz_str, fz_non, if_true, if_false, Bool.and_self, Bool.and_true, Bool.true_and, Bool.false_and, Bool.and_false, decide_true, decide_false, Bool.false_eq_true,
  gAdd_int, gSub_int, gLt_int, gLe_int, gGt_int, gGe_int, gEqA_int, gNeA_int, gEqA_str, gNeA_str, gLen, gInt, gAbs, gSum, intsOf_map, reduceCtorEq, ne_eq, not_false_eq_true, not_true_eq_false, and_self, and_true, true_and, and_false, false_and, Nat.reduceAdd, Nat.reduceSub, Nat.reduceMul, Nat.reduceLT, Nat.reduceLeDiff, Nat.zero_add, Int.reduceNeg, Int.reduceLT, Int.reduceLE, Int.reduceAdd, Int.reduceSub, Int.reduceMul, Int.reduceEq, Int.reduceNe, b_why_not, dOfV, e1, e2, e3, e4, Bool.not_false, h, n1, Nat.reduceLeDiff]
end Fk07

set_option maxHeartbeats 4000000
namespace Fk07
/-! ### which signs a polygon's triangles can leave -/
def wd : G → List Bool
  | 0 => [] | 1 => [true] | 2 => [true, true] | 3 => [false] | 4 => [false, true] | 5 => [false, true, true]
def mul (g h : G) : G := (wd h).foldl act g
def tn (b : Bool) : G := act 0 b
theorem mul_act : ∀ (g : G) (b : Bool), mul g (act 0 b) = act g b := by decide +kernel
theorem mul_as : ∀ g h k : G, mul (mul g h) k = mul g (mul h k) := by decide +kernel
theorem mul_one : ∀ g : G, mul g 0 = g := by decide +kernel
theorem one_mul : ∀ g : G, mul 0 g = g := by decide +kernel
theorem fold_mul : ∀ (w : List Bool) (g : G), w.foldl act g = mul g (prod w)
  | [], g => (mul_one g).symm
  | b :: w, g => by
    have h1 := fold_mul w (act g b)
    have h2 := fold_mul w (act 0 b)
    show w.foldl act (act g b) = mul g (w.foldl act (act 0 b))
    rw [h1, h2, ← mul_as, mul_act]
theorem prod_app (v w : List Bool) : prod (v ++ w) = mul (prod v) (prod w) := by
  show (v ++ w).foldl act 0 = _
  rw [List.foldl_append, fold_mul w]
  rfl
theorem prod_cons (b : Bool) (w : List Bool) : prod (b :: w) = mul (tn b) (prod w) := fold_mul w (act 0 b)
theorem prod_one (b : Bool) : prod [b] = tn b := rfl
inductive Kp (od : Nat → Bool) : Nat → Nat → Bool → Bool → Prop
  | one (l : Nat) : Kp od 1 l false false
  | two {a b l : Nat} {p r r' q : Bool} : Kp od a l p r → Kp od b (l + a) r' q → od (l + a) = !(r ^^ r') → Kp od (a + b) l (!p) (!q)
def W (od : Nat → Bool) : Nat → Nat → List Bool
  | 0, _ => []
  | 1, _ => []
  | s + 2, l => od (l + 1) :: W od (s + 1) (l + 1)
theorem Kp.pos {od : Nat → Bool} {s l : Nat} {p q : Bool} (h : Kp od s l p q) : 1 ≤ s := by
  induction h with
  | one => exact Nat.le_refl 1
  | two _ _ _ ih1 ih2 => omega
theorem W_split (od : Nat → Bool) : ∀ (a b l : Nat), 1 ≤ a → 1 ≤ b → W od (a + b) l = W od a l ++ od (l + a) :: W od b (l + a)
  | 0, _, _, h, _ => by omega
  | 1, 0, _, _, h => by omega
  | 1, b + 1, l, _, _ => by
    rw [show 1 + (b + 1) = b + 2 by omega]
    rfl
  | a + 2, b, l, _, hb => by
    rw [show a + 2 + b = (a + b) + 2 by omega]
    show od (l + 1) :: W od (a + b + 1) (l + 1) = _
    rw [show a + b + 1 = (a + 1) + b by omega, W_split od (a + 1) b (l + 1) (by omega) hb, show l + 1 + (a + 1) = l + (a + 2) by omega]
    rfl
theorem glue : ∀ (w1 w2 : G) (p r r' q : Bool), mul (mul (tn p) w1) (tn r) = 0 → mul (mul (tn r') w2) (tn q) = 0 → mul (mul (tn (!p)) (mul w1 (mul (tn (!(r ^^ r'))) w2))) (tn (!q)) = 0 := by decide +kernel
theorem Kp.prod {od : Nat → Bool} {s l : Nat} {p q : Bool} (h : Kp od s l p q) : mul (mul (tn p) (prod (W od s l))) (tn q) = 0 := by
  induction h with
  | one => exact (by decide : mul (mul (tn false) 0) (tn false) = 0)
  | @two a b l p r r' q h1 h2 ho ih1 ih2 =>
    rw [W_split od a b l h1.pos h2.pos, prod_app, prod_cons, ho]
    exact glue _ _ p r r' q ih1 ih2
theorem Kp.plus {od : Nat → Bool} {s l : Nat} {p q : Bool} (h : Kp od s l p q) : 2 ≤ s → ∃ i, l < i ∧ i < l + s ∧ od i = true := by
  induction h with
  | one => omega
  | @two a b l p r r' q h1 h2 ho ih1 ih2 =>
    intro _
    have p1 := h1.pos
    have p2 := h2.pos
    by_cases ha : 2 ≤ a
    · obtain ⟨i, q1, q2, q3⟩ := ih1 ha
      exact ⟨i, q1, by omega, q3⟩
    · by_cases hb : 2 ≤ b
      · obtain ⟨i, q1, q2, q3⟩ := ih2 hb
        exact ⟨i, by omega, by omega, q3⟩
      · have ea : a = 1 := by omega
        have eb : b = 1 := by omega
        have f1 : ∀ {s l : Nat} {p q : Bool}, Kp od s l p q → s = 1 → p = false ∧ q = false := by
          intro s l p q h e
          cases h with
          | one => exact ⟨rfl, rfl⟩
          | two g1 g2 _ =>
            have := g1.pos
            have := g2.pos
            omega
        obtain ⟨_, r1⟩ := f1 h1 ea
        obtain ⟨r2, _⟩ := f1 h2 eb
        subst r1 r2
        exact ⟨l + a, by omega, by omega, by rw [ho]; rfl⟩
theorem A1 : ∀ (o : Bool) (w : G) (q : Bool), mul (mul (tn true) (mul (tn o) w)) (tn q) = 0 → mul (mul (tn (!o)) w) (tn (!q)) = 0 := by decide +kernel
theorem A2 : ∀ (p o : Bool) (w : G), mul (mul (tn p) (mul w (tn o))) (tn true) = 0 → mul (mul (tn (!p)) w) (tn (!o)) = 0 := by decide +kernel
theorem A3 : ∀ (P w2 : G) (o r : Bool), mul (mul (tn false) (mul P (mul (tn o) w2))) (tn false) = 0 → mul (mul (tn true) P) (tn r) = 0 → mul (mul (tn (!(r ^^ o))) w2) (tn true) = 0 := by decide +kernel
theorem A4 : ∀ (p q : Bool), mul (mul (tn p) 0) (tn q) = 0 → p = false ∧ q = false := by decide +kernel
/-- minuses, then a plus -/
theorem A5 : ∀ (P : G), P = 0 ∨ P = 3 → (∃ r : Bool, mul (mul (tn true) (mul P (tn true))) (tn r) = 0) ∧ mul (mul (tn false) (mul P (tn true))) (tn false) ≠ 0 := by decide +kernel
theorem minuses (od : Nat → Bool) : ∀ (j l : Nat), (∀ i, l < i → i < l + (j + 1) → od i = false) → prod (W od (j + 1) l) = 0 ∨ prod (W od (j + 1) l) = 3
  | 0, l, _ => .inl rfl
  | j + 1, l, h => by
    have ih := minuses od j (l + 1) fun i h1 h2 => h i (by omega) (by omega)
    show prod (od (l + 1) :: W od (j + 1) (l + 1)) = 0 ∨ prod (od (l + 1) :: W od (j + 1) (l + 1)) = 3
    rw [h (l + 1) (by omega) (by omega), prod_cons]
    rcases ih with ih | ih <;> rw [ih] <;> decide
theorem Kp.of (od : Nat → Bool) : ∀ (s l : Nat) (p q : Bool), 1 ≤ s → mul (mul (tn p) (Fk07.prod (W od s l))) (tn q) = 0 → (s = 1 ∨ p = true ∨ q = true ∨ ∃ i, l < i ∧ i < l + s ∧ od i = true) → Kp od s l p q := by
  intro s
  induction s using Nat.strongRecOn with
  | ind s ih =>
    intro l p q hs hp hn
    by_cases h1 : s = 1
    · subst h1
      obtain ⟨rfl, rfl⟩ := A4 p q hp
      exact .one l
    have h2 : 2 ≤ s := by omega
    -- the apex at the last but one
    have right : q = true → (s = 2 ∨ p = false ∨ (∃ i, l < i ∧ i < l + (s - 1) ∧ od i = true)) → Kp od s l p q := fun hq hn' => by
      subst hq
      have e := W_split od (s - 1) 1 l (by omega) (by omega)
      rw [show s - 1 + 1 = s by omega] at e
      rw [e, prod_app, prod_cons, show Fk07.prod (W od 1 (l + (s - 1))) = 0 from rfl, mul_one] at hp
      have hp' := A2 p _ _ hp
      have k := ih (s - 1) (by omega) l (!p) (!od (l + (s - 1))) (by omega) hp' (by
        rcases hn' with h | h | h
        · exact .inl (by omega)
        · exact .inr (.inl (by rw [h]; rfl))
        · exact .inr (.inr (.inr h)))
      have := Kp.two k (.one (l + (s - 1))) (by cases od (l + (s - 1)) <;> rfl)
      rw [show s - 1 + 1 = s by omega, Bool.not_not] at this
      exact this
    cases p with
    | true =>
      have e := W_split od 1 (s - 1) l (by omega) (by omega)
      rw [show 1 + (s - 1) = s by omega] at e
      have hp0 := hp
      rw [e, prod_app, prod_cons, show Fk07.prod (W od 1 l) = 0 from rfl, one_mul] at hp
      have hp' := A1 _ _ q hp
      by_cases hr : s - 1 = 1 ∨ (!od (l + 1)) = true ∨ (!q) = true ∨ ∃ i, l + 1 < i ∧ i < l + 1 + (s - 1) ∧ od i = true
      · have k := ih (s - 1) (by omega) (l + 1) (!od (l + 1)) (!q) (by omega) hp' hr
        have := Kp.two (.one l) k (by cases od (l + 1) <;> rfl)
        rw [show 1 + (s - 1) = s by omega, Bool.not_not] at this
        exact this
      · simp only [not_or] at hr
        obtain ⟨n1, n2, n3, n4⟩ := hr
        refine right (by simpa using n3) (.inr (.inr ⟨l + 1, by omega, by omega, by simpa using n2⟩))
    | false =>
      cases q with
      | true => exact right rfl (.inr (.inl rfl))
      | false =>
        have hx : ∃ i, l < i ∧ i < l + s ∧ od i = true := by
          rcases hn with h | h | h | h
          · exact absurd h h1
          · cases h
          · cases h
          · exact h
        -- the first plus
        have first : ∀ n, (∃ i, l < i ∧ i < l + 1 + n ∧ od i = true) → ∃ j, l + 1 + j < l + 1 + n ∧ od (l + 1 + j) = true ∧ ∀ i, l < i → i < l + (j + 1) → od i = false := by
          intro n
          induction n with
          | zero => rintro ⟨i, q1, q2, _⟩; omega
          | succ n ihn =>
            intro hi
            by_cases hm : ∃ i, l < i ∧ i < l + 1 + n ∧ od i = true
            · obtain ⟨j, q1, q2, q3⟩ := ihn hm
              exact ⟨j, by omega, q2, q3⟩
            · obtain ⟨i, q1, q2, q3⟩ := hi
              have ei : i = l + 1 + n := by
                apply Classical.byContradiction
                intro ne
                exact hm ⟨i, q1, by omega, q3⟩
              subst ei
              refine ⟨n, by omega, q3, fun i h1 h2 => ?_⟩
              cases hb : od i with
              | false => rfl
              | true => exact absurd ⟨i, h1, by omega, hb⟩ hm
        obtain ⟨j, q1, q2, q3⟩ := first (s - 1) (by
          obtain ⟨i, a1, a2, a3⟩ := hx
          exact ⟨i, a1, by omega, a3⟩)
        have hj : j + 2 ≤ s := by omega
        have hP := minuses od j l q3
        have ew := W_split od (j + 1) 1 l (by omega) (by omega)
        rw [show l + (j + 1) = l + 1 + j by omega, q2] at ew
        have pw : Fk07.prod (W od (j + 2) l) = mul (Fk07.prod (W od (j + 1) l)) (tn true) := by
          rw [show j + 2 = j + 1 + 1 by omega, ew, prod_app, prod_cons, show Fk07.prod (W od 1 (l + 1 + j)) = 0 from rfl, mul_one]
        obtain ⟨⟨r, hr⟩, hno⟩ := A5 _ hP
        rw [← pw] at hr hno
        by_cases he : j + 2 = s
        · rw [← he] at hp
          exact absurd hp hno
        · have es := W_split od (j + 2) (s - (j + 2)) l (by omega) (by omega)
          rw [show j + 2 + (s - (j + 2)) = s by omega] at es
          rw [es, prod_app, prod_cons] at hp
          have hq := A3 _ _ _ r hp hr
          have k1 := ih (j + 2) (by omega) l true r (by omega) hr (.inr (.inl rfl))
          have k2 := ih (s - (j + 2)) (by omega) (l + (j + 2)) (!(r ^^ od (l + (j + 2)))) true (by omega) hq (.inr (.inr (.inl rfl)))
          have := Kp.two k1 k2 (by cases od (l + (j + 2)) <;> cases r <;> rfl)
          rw [show j + 2 + (s - (j + 2)) = s by omega] at this
          exact this
theorem W_get (bs : List Bool) : ∀ (s l : Nat), l + s < bs.length → W (fun i => bs.getD i false) s l = (bs.drop (l + 1)).take (s - 1)
  | 0, l, _ => by simp [W]
  | 1, l, _ => by simp [W]
  | s + 2, l, h => by
    show bs.getD (l + 1) false :: W (fun i => bs.getD i false) (s + 1) (l + 1) = _
    rw [W_get bs (s + 1) (l + 1) (by omega), show s + 2 - 1 = s + 1 by omega, show s + 1 - 1 = s by omega]
    have hl : l + 1 < bs.length := by omega
    rw [List.drop_eq_getElem_cons hl, List.take_succ_cons, List.getD_eq_getElem?_getD, List.getElem?_eq_getElem hl]
    rfl
theorem split_ends (bs : List Bool) (h : 3 ≤ bs.length) : bs = bs.getD 0 false :: (W (fun i => bs.getD i false) (bs.length - 1) 0 ++ [bs.getD (bs.length - 1) false]) := by
  rw [W_get bs (bs.length - 1) 0 (by omega)]
  have h0 : 0 < bs.length := by omega
  have hl : bs.length - 1 < bs.length := by omega
  have e1 : bs = bs[0] :: bs.drop 1 := by
    have := List.drop_eq_getElem_cons h0
    rw [List.drop_zero] at this
    exact this
  have e2 : bs.drop 1 = (bs.drop 1).take (bs.length - 1 - 1) ++ [bs[bs.length - 1]] := by
    have h2 : bs.length - 1 - 1 < (bs.drop 1).length := by rw [List.length_drop]; omega
    have h3 := List.take_append_drop (bs.length - 1 - 1) (bs.drop 1)
    rw [List.drop_drop, show 1 + (bs.length - 1 - 1) = bs.length - 1 by omega, List.drop_eq_getElem_cons hl, show bs.length - 1 + 1 = bs.length by omega, List.drop_length] at h3
    exact h3.symm
  have g0 : bs.getD 0 false = bs[0] := by rw [List.getD_eq_getElem?_getD, List.getElem?_eq_getElem h0]; rfl
  have g1 : bs.getD (bs.length - 1) false = bs[bs.length - 1] := by rw [List.getD_eq_getElem?_getD, List.getElem?_eq_getElem hl]; rfl
  rw [g0, g1, Nat.zero_add, ← e2]
  exact e1
/-- the law's claim, in plain words -/
theorem fits_iff (bs : List Bool) (h3 : 3 ≤ bs.length) : Kp (fun i => bs.getD i false) (bs.length - 1) 0 (bs.getD 0 false) (bs.getD (bs.length - 1) false) ↔ (prod bs = 0 ∧ bs.any id = true) := by
  have es := split_ends bs h3
  have ep : prod bs = mul (mul (tn (bs.getD 0 false)) (prod (W (fun i => bs.getD i false) (bs.length - 1) 0))) (tn (bs.getD (bs.length - 1) false)) := by
    rw [mul_as]
    have := congrArg prod es
    rw [prod_cons, prod_app, prod_one] at this
    exact this
  constructor
  · intro k
    refine ⟨by rw [ep]; exact k.prod, ?_⟩
    obtain ⟨i, h1, h2, h4⟩ := k.plus (by omega)
    refine List.any_eq_true.mpr ⟨true, ?_, rfl⟩
    have hi : i < bs.length := by omega
    have h4 : bs.getD i false = true := h4
    rw [List.getD_eq_getElem?_getD, List.getElem?_eq_getElem hi] at h4
    have : bs[i] = true := h4
    rw [← this]
    exact List.getElem_mem hi
  · rintro ⟨hp, ha⟩
    rw [ep] at hp
    refine Kp.of _ _ _ _ _ (by omega) hp ?_
    obtain ⟨b, hb, hbt⟩ := List.any_eq_true.mp ha
    have hb' : b = true := hbt
    subst hb'
    obtain ⟨i, hi, ei⟩ := List.mem_iff_getElem.mp hb
    have gi : bs.getD i false = true := by rw [List.getD_eq_getElem?_getD, List.getElem?_eq_getElem hi]; exact ei
    by_cases h0 : i = 0
    · subst h0
      exact .inr (.inl gi)
    · by_cases hl : i = bs.length - 1
      · subst hl
        exact .inr (.inr (.inl gi))
      · exact .inr (.inr (.inr ⟨i, by omega, by omega, gi⟩))
end Fk07

set_option maxHeartbeats 4000000
namespace Fk07
open PySem PySem.Spec PyProof.Rows L2 Fx
/-! ### tables: how many ways leave which signs at the two ends -/
abbrev Ky := Bool × Bool
abbrev Tm := List (Ky × Nat)
def b2i (b : Bool) : Int := if b = true then 1 else 0
def kk (k : Ky) : List Key := [.inl (b2i k.1), .inl (b2i k.2)]
def kD (k : Ky) : D := .tup false [.int (b2i k.1), .int (b2i k.2)]
theorem kk_inj {a b : Ky} : kk a = kk b ↔ a = b := by
  obtain ⟨a1, a2⟩ := a
  obtain ⟨b1, b2⟩ := b
  cases a1 <;> cases a2 <;> cases b1 <;> cases b2 <;> decide
def encT (m : Tm) : List (List Key × D) := m.map fun x => (kk x.1, D.int x.2)
def lkM : Tm → Ky → Option Nat
  | [], _ => none
  | (a, n) :: m, k => if a = k then some n else lkM m k
def addM : Tm → Ky → Nat → Tm
  | [], k, n => [(k, n)]
  | (a, c) :: m, k, n => if a = k then (a, c + n) :: m else (a, c) :: addM m k n
def tot (m : Tm) : Nat := (m.map (·.2)).sum
structure Ok (m : Tm) : Prop where
  nd : (m.map (·.1)).Nodup
  pos : ∀ x ∈ m, 0 < x.2
theorem valD_enc (k : Ky) : ∀ m : Tm, valD (encT m) (kk k) = (lkM m k).map fun n => D.int n
  | [] => rfl
  | (a, n) :: m => by
    show valD ((kk a, D.int n) :: encT m) (kk k) = _
    rw [valD_cons, valD_enc k m]
    by_cases h : a = k
    · rw [if_pos (kk_inj.mpr h)]
      simp [lkM, h]
    · rw [if_neg fun z => h (kk_inj.mp z)]
      simp [lkM, h]
theorem noOwn_enc (m : Tm) : noOwnT (encT m) = true := by
  rw [noOwnT_eq]
  induction m with
  | nil => rfl
  | cons x m ih =>
    show noOwns (D.int x.2 :: (encT m).map (·.2)) = true
    simp only [noOwns, noOwn, Bool.true_and]
    exact ih
theorem addM_keys (k k' : Ky) (n : Nat) : ∀ m : Tm, k' ∈ (addM m k n).map (·.1) ↔ k' ∈ m.map (·.1) ∨ k' = k
  | [] => by simp [addM]
  | (a, c) :: m => by
    unfold addM
    by_cases h : a = k
    · subst h
      simp only [if_true, List.map_cons, List.mem_cons]
      constructor
      · rintro (h | h)
        · exact .inl (.inl h)
        · exact .inl (.inr h)
      · rintro ((h | h) | h)
        · exact .inl h
        · exact .inr h
        · exact .inl h
    · simp only [h, if_false, List.map_cons, List.mem_cons, addM_keys k k' n m]
      exact or_assoc.symm
theorem addM_ok {m : Tm} (h : Ok m) (k : Ky) {n : Nat} (hn : 0 < n) : Ok (addM m k n) := by
  obtain ⟨nd, pos⟩ := h
  induction m with
  | nil => exact ⟨by simp [addM], fun x hx => by simp [addM] at hx; rw [hx]; exact hn⟩
  | cons x m ih =>
    obtain ⟨a, c⟩ := x
    simp only [List.map_cons, List.nodup_cons] at nd
    unfold addM
    by_cases e : a = k
    · rw [if_pos e]
      refine ⟨by simp only [List.map_cons, List.nodup_cons]; exact nd, fun x hx => ?_⟩
      rcases List.mem_cons.mp hx with rfl | hx
      · show 0 < c + n
        omega
      · exact pos x (List.mem_cons_of_mem _ hx)
    · rw [if_neg e]
      obtain ⟨i1, i2⟩ := ih nd.2 fun x hx => pos x (List.mem_cons_of_mem _ hx)
      refine ⟨?_, fun x hx => ?_⟩
      · simp only [List.map_cons, List.nodup_cons]
        refine ⟨fun z => ?_, i1⟩
        rcases (addM_keys k a n m).mp z with z | z
        · exact nd.1 z
        · exact e z
      · rcases List.mem_cons.mp hx with rfl | hx
        · exact pos _ List.mem_cons_self
        · exact i2 x hx
theorem addM_tot (k : Ky) (n : Nat) : ∀ m : Tm, tot (addM m k n) = tot m + n
  | [] => by simp [addM, tot]
  | (a, c) :: m => by
    have ih := addM_tot k n m
    unfold tot at ih ⊢
    unfold addM
    by_cases e : a = k
    · rw [if_pos e]
      simp only [List.map_cons, List.sum_cons]
      omega
    · rw [if_neg e]
      simp only [List.map_cons, List.sum_cons, ih]
      omega
theorem lk_mem {m : Tm} (nd : (m.map (·.1)).Nodup) : ∀ x ∈ m, lkM m x.1 = some x.2 := by
  induction m with
  | nil => intro x h; cases h
  | cons y m ih =>
    intro x hx
    simp only [List.map_cons, List.nodup_cons] at nd
    rcases List.mem_cons.mp hx with rfl | hx'
    · simp [lkM]
    · have : y.1 ≠ x.1 := fun z => nd.1 (z ▸ List.mem_map.mpr ⟨x, hx', rfl⟩)
      obtain ⟨a, c⟩ := y
      simp only [lkM]
      rw [if_neg this]
      exact ih nd.2 x hx'
theorem mapD_id {l : List (List Key × D)} {k : List Key} {d : D} (h : ∀ x ∈ l, x.1 ≠ k) : (l.map fun kv => if kv.1 = k then (kv.1, d) else kv) = l := by
  induction l with
  | nil => rfl
  | cons x l ih =>
    rw [List.map_cons, if_neg (h x List.mem_cons_self), ih fun y hy => h y (List.mem_cons_of_mem _ hy)]
theorem putD_cons {a k : List Key} {v d : D} {l : List (List Key × D)} (h : a ≠ k) : putD ((a, v) :: l) k d = (a, v) :: putD l k d := by
  unfold putD
  rw [List.any_cons, decide_eq_false h, Bool.false_or]
  split
  · rw [List.map_cons, if_neg h]
  · rfl
theorem put_enc (k : Ky) (n : Nat) : ∀ {m : Tm}, (m.map (·.1)).Nodup → putD (encT m) (kk k) (.int ((((lkM m k).getD 0 + n : Nat) : Int))) = encT (addM m k n)
  | [], _ => by
    show [(kk k, D.int (((0 + n : Nat) : Int)))] = [(kk k, D.int (n : Int))]
    rw [Nat.zero_add]
  | (a, c) :: m, nd => by
    simp only [List.map_cons, List.nodup_cons] at nd
    by_cases e : a = k
    · subst e
      have h1 : lkM ((a, c) :: m) a = some c := by simp [lkM]
      have h2 : addM ((a, c) :: m) a n = (a, c + n) :: m := by simp [addM]
      rw [h1, h2]
      show putD ((kk a, D.int c) :: encT m) (kk a) (.int ((c + n : Nat) : Int)) = (kk a, D.int ((c + n : Nat) : Int)) :: encT m
      unfold putD
      rw [List.any_cons, decide_eq_true rfl, Bool.true_or, if_pos rfl, List.map_cons, if_pos rfl, mapD_id fun x hx => ?_]
      obtain ⟨y, hy, rfl⟩ := List.mem_map.mp hx
      intro z
      exact nd.1 (List.mem_map.mpr ⟨y, hy, kk_inj.mp z⟩)
    · have h1 : lkM ((a, c) :: m) k = lkM m k := by simp [lkM, e]
      have h2 : addM ((a, c) :: m) k n = (a, c) :: addM m k n := by simp [addM, e]
      rw [h1, h2]
      show putD ((kk a, D.int c) :: encT m) (kk k) _ = (kk a, D.int (c : Int)) :: encT (addM m k n)
      rw [putD_cons fun z => e (kk_inj.mp z), put_enc k n nd.2]
def step (o : Bool) (x : Ky × Nat) (m : Tm) (y : Ky × Nat) : Tm := if o = (!(x.1.2 ^^ y.1.1)) then addM m (!x.1.1, !y.1.2) (x.2 * y.2) else m
def inn (o : Bool) (M2 : Tm) (m : Tm) (x : Ky × Nat) : Tm := M2.foldl (step o x) m
def mid (o : Bool) (M1 M2 m : Tm) : Tm := M1.foldl (inn o M2) m
theorem step_ok {o : Bool} {x y : Ky × Nat} {m : Tm} (h : Ok m) (hx : 0 < x.2) (hy : 0 < y.2) : Ok (step o x m y) := by
  unfold step
  split
  · exact addM_ok h _ (Nat.mul_pos hx hy)
  · exact h
theorem inn_ok {o : Bool} {x : Ky × Nat} : ∀ {M2 m : Tm}, Ok m → 0 < x.2 → (∀ y ∈ M2, 0 < y.2) → Ok (inn o M2 m x)
  | [], m, h, _, _ => h
  | y :: M2, m, h, hx, hy => inn_ok (M2 := M2) (step_ok h hx (hy y List.mem_cons_self)) hx fun z hz => hy z (List.mem_cons_of_mem _ hz)
theorem mid_ok {o : Bool} {M2 : Tm} (h2 : ∀ y ∈ M2, 0 < y.2) : ∀ {M1 m : Tm}, Ok m → (∀ y ∈ M1, 0 < y.2) → Ok (mid o M1 M2 m)
  | [], m, h, _ => h
  | x :: M1, m, h, hx => mid_ok h2 (M1 := M1) (inn_ok h (hx x List.mem_cons_self) h2) fun z hz => hx z (List.mem_cons_of_mem _ hz)
theorem inn_keys {o : Bool} {x : Ky × Nat} {k : Ky} : ∀ {M2 m : Tm}, k ∈ (inn o M2 m x).map (·.1) ↔ k ∈ m.map (·.1) ∨ ∃ y ∈ M2, o = (!(x.1.2 ^^ y.1.1)) ∧ k = (!x.1.1, !y.1.2)
  | [], m => by simp [inn]
  | y :: M2, m => by
    show k ∈ (inn o M2 (step o x m y) x).map (·.1) ↔ _
    rw [inn_keys (M2 := M2)]
    have e : k ∈ (step o x m y).map (·.1) ↔ k ∈ m.map (·.1) ∨ (o = (!(x.1.2 ^^ y.1.1)) ∧ k = (!x.1.1, !y.1.2)) := by
      unfold step
      by_cases h : o = (!(x.1.2 ^^ y.1.1))
      · rw [if_pos h, addM_keys]
        simp only [← h, true_and]
      · rw [if_neg h]
        simp only [h, false_and, or_false]
    rw [e]
    simp only [List.mem_cons, exists_eq_or_imp]
    exact or_assoc
theorem mid_keys {o : Bool} {M2 : Tm} {k : Ky} : ∀ {M1 m : Tm}, k ∈ (mid o M1 M2 m).map (·.1) ↔ k ∈ m.map (·.1) ∨ ∃ x ∈ M1, ∃ y ∈ M2, o = (!(x.1.2 ^^ y.1.1)) ∧ k = (!x.1.1, !y.1.2)
  | [], m => by simp [mid]
  | x :: M1, m => by
    show k ∈ (mid o M1 M2 (inn o M2 m x)).map (·.1) ↔ _
    rw [mid_keys (M1 := M1), inn_keys]
    simp only [List.mem_cons, exists_eq_or_imp]
    exact or_assoc
theorem inn_tot {o : Bool} {x : Ky × Nat} : ∀ {M2 m : Tm}, tot (inn o M2 m x) ≤ tot m + x.2 * tot M2
  | [], m => by simp [inn, tot]
  | y :: M2, m => by
    show tot (inn o M2 (step o x m y) x) ≤ _
    have h1 := inn_tot (o := o) (x := x) (M2 := M2) (m := step o x m y)
    have h2 : tot (step o x m y) ≤ tot m + x.2 * y.2 := by
      unfold step
      split
      · rw [addM_tot]; exact Nat.le_refl _
      · exact Nat.le_add_right _ _
    have h3 : tot (y :: M2) = y.2 + tot M2 := by simp [tot]
    rw [h3, Nat.mul_add]
    omega
theorem mid_tot {o : Bool} {M2 : Tm} : ∀ {M1 m : Tm}, tot (mid o M1 M2 m) ≤ tot m + tot M1 * tot M2
  | [], m => by simp [mid, tot]
  | x :: M1, m => by
    show tot (mid o M1 M2 (inn o M2 m x)) ≤ _
    have h1 := mid_tot (o := o) (M2 := M2) (M1 := M1) (m := inn o M2 m x)
    have h2 := inn_tot (o := o) (x := x) (M2 := M2) (m := m)
    have h3 : tot (x :: M1) = x.2 + tot M1 := by simp [tot]
    rw [h3, Nat.add_mul]
    omega
theorem tot_mem {m : Tm} : ∀ x ∈ m, x.2 ≤ tot m := by
  induction m with
  | nil => intro x h; cases h
  | cons y m ih =>
    intro x hx
    have h3 : tot (y :: m) = y.2 + tot m := by simp [tot]
    rcases List.mem_cons.mp hx with rfl | hx
    · omega
    · have := ih x hx
      omega
/-- how many triangulations: a bound -/
def catT : List Nat := [0, 1, 1, 2, 5, 14, 42, 132, 429, 1430, 4862, 16796, 58786, 208012, 742900, 2674440, 9694845, 35357670, 129644790, 477638700, 1767263190, 6564120420, 24466267020, 91482563640]
def cat (s : Nat) : Nat := catT.getD s 0
def sumC (s : Nat) : Nat → Nat
  | 0 => 0
  | j + 1 => sumC s j + cat (j + 1) * cat (s - (j + 1))
theorem sumC_le : ∀ s, s < 24 → 2 ≤ s → sumC s (s - 1) ≤ cat s := by decide +kernel
theorem cat_small : ∀ s, s < 24 → cat s < 18446744073709551616 := by decide +kernel
end Fk07

set_option maxHeartbeats 4000000
namespace Fk07
open PySem PySem.Spec PyProof.Rows L2 Fx
/-! ### counted, evaluated -/
theorem len4 : ∀ (l u : List Ky), l.Nodup → (∀ x ∈ l, x ∈ u) → l.length ≤ u.length
  | [], u, _, _ => Nat.zero_le _
  | x :: l, u, nd, h => by
    rw [List.nodup_cons] at nd
    have hx := h x List.mem_cons_self
    have := len4 l (u.erase x) nd.2 fun y hy => (List.mem_erase_of_ne fun (z : y = x) => nd.1 (by rw [← z]; exact hy)).mpr (h y (List.mem_cons_of_mem _ hy))
    rw [List.length_erase_of_mem hx] at this
    have : 0 < u.length := List.length_pos_of_mem hx
    simp only [List.length_cons]
    omega
theorem Ok.len {m : Tm} (h : Ok m) : m.length ≤ 4 := by
  have := len4 (m.map (·.1)) [(false, false), (false, true), (true, false), (true, true)] h.nd (fun x _ => by obtain ⟨a, b⟩ := x; cases a <;> cases b <;> simp)
  simpa using this
theorem enc_len (m : Tm) : (encT m).length = m.length := by simp [encT]
theorem get_enc {o : Ow} (m : Tm) (k : Ky) : getD' (.dit o (encT m)) (.tup false [.int (b2i k.1), .int (b2i k.2)]) = some ((lkM m k).map fun n => D.int n) := by
  show (if noOwnT (encT m) = true then (tkey (.tup false [.int (b2i k.1), .int (b2i k.2)])).map fun k => valD (encT m) k else none) = _
  rw [if_pos (noOwn_enc m)]
  show some (valD (encT m) (kk k)) = _
  rw [valD_enc]
theorem dx_enc {o : Ow} {m : Tm} {k : Ky} {n : Nat} (h : lkM m k = some n) : gDx (.dit o (encT m)) (.tup false [.int (b2i k.1), .int (b2i k.2)]) = some (.int n) := by
  unfold gDx
  rw [get_enc, h]
  rfl
theorem dx_kn {o : Ow} {kn : List (List Key × D)} {i j : Int} {z : D} (hn : noOwnT kn = true) (h : valD kn [.inl i, .inl j] = some z) : gDx (.dit o kn) (.tup false [.int i, .int j]) = some z := gDx_T hn rfl h
theorem neg_b (b : Bool) : 1 - b2i b = b2i (!b) := by cases b <;> rfl
theorem par_b : ∀ r r' o : Bool, decide ((b2i r + b2i r' + 1).fmod 2 = b2i o) = decide (o = !(r ^^ r')) := by decide
theorem no_enc {m : Tm} : noOwn (.dit .frz (encT m)) = true := by
  rw [noOwn_dit, ← noOwnT_eq, noOwn_enc]
  rfl
theorem ix0 {c : Bool} {a b : Int} : gIx (.tup c [.int a, .int b]) (.int 0) = some (.int a) := gIx_tup (k := 0) (by simp) (by simp [noOwn])
theorem ix1 {c : Bool} {a b : Int} : gIx (.tup c [.int a, .int b]) (.int 1) = some (.int b) := gIx_tup (k := 1) (by simp) (by simp [noOwn])
theorem list_enc {o : Ow} (m : Tm) : gList [.dit o (encT m)] = some (.lst .own (m.map fun x => kD x.1)) := by
  show some (D.lst .own ((encT m).map fun kv => .tup false (kv.1.map keyO))) = _
  rw [encT, List.map_map]
  rfl
theorem no_keys (m : Tm) : noOwns (m.map fun x => kD x.1) = true := by
  induction m with
  | nil => rfl
  | cons x m ih =>
    rw [List.map_cons, noOwns_cons, ih]
    simp [kD, noOwn, noOwns]
noncomputable def bIn : SM := (sIf (tVal (mOp2 gEqA (.ev (mOp2 gMod (.ev (mCB gInt (aCons (mOp2 gAdd (.ev (mOp2 gAdd (.ev (mOp2 gIx (.sl 10) (.ev (mC (.int 1))))) (.ev (mOp2 gIx (.sl 11) (.ev (mC (.int 0))))))) (.ev (mC (.int 1)))) aNil))) (.ev (mC (.int 2))))) (.ev (mOp2 gIx (.sl 3) (.sl 9)))))
 (sSeq (sAs (mTup (aCons (mOp2 gSub (.ev (mC (.int 1))) (.ev (mOp2 gIx (.sl 10) (.ev (mC (.int 0)))))) (aCons (mOp2 gSub (.ev (mC (.int 1))) (.ev (mOp2 gIx (.sl 11) (.ev (mC (.int 1)))))) aNil))) (gNm 12)) (sAs (mOp2 gAdd (.ev (mGet2 (.sl 8) (mV 12) (mC (.int 0)))) (.ev (mOp2 gMul (.ev (mOp2 gDx (.ev (mOp2 gDx (.sl 2) (.ev (mTup (aCons (mV 6) (aCons (mV 9) aNil)))))) (.sl 10))) (.ev (mOp2 gDx (.ev (mOp2 gDx (.sl 2) (.ev (mTup (aCons (mV 9) (aCons (mV 7) aNil)))))) (.sl 11)))))) (gSubT 8 (mV 12))))
 sNx)
noncomputable def bOne : SM := (sFor (iVal (mCB gList (aCons (mOp2 gDx (.sl 2) (.ev (mTup (aCons (mV 9) (aCons (mV 7) aNil))))) aNil))) (gNm 11) bIn)
noncomputable def bMid : SM := (sFor (iVal (mCB gList (aCons (mOp2 gDx (.sl 2) (.ev (mTup (aCons (mV 6) (aCons (mV 9) aNil))))) aNil))) (gNm 10) bOne)
noncomputable def bLow : SM := (sSeq (sPar 7 8 (aCons (mOp2 gAdd (.sl 6) (.sl 5)) (aCons (mC (.dit .own [])) aNil))) (sSeq (sIf (tVal (mOp2 gEqA (.sl 5) (.ev (mC (.int 1)))))
 (sAs (mC (.int 1)) (gSubT 8 (mTup (aCons (mC (.int 0)) (aCons (mC (.int 0)) aNil)))))
 sNx) (sSeq (sFor (iRng rngD2 (aCons (mOp2 gAdd (.sl 6) (.ev (mC (.int 1)))) (aCons (mV 7) aNil))) (gNm 9) bMid) (sAs (mV 8) (gSubT 2 (mTup (aCons (mV 6) (aCons (mV 7) aNil))))))))
noncomputable def bSz : SM := (sFor (iRng rngD1 (aCons (mOp2 gSub (.sl 1) (.sl 5)) aNil)) (gNm 6) bLow)
theorem counted_eq : b__law_counted = (sSeq (sPar 1 2 (aCons (mCBV 0 gLen aNil) (aCons (mC (.dit .own [])) aNil))) (sSeq (sAs (mLc [4] (iVal (mV 0)) (gNm 4) tYesD (mCB gInt (aCons (mOp2 gEqA (.sl 4) (.ev (mC (.str "+")))) aNil))) (gNm 3)) (sSeq (sFor (iRng rngD2 (aCons (mC (.int 1)) (aCons (mV 1) aNil))) (gNm 5) bSz) (sRet (mGet2 (.ev (mOp2 gDx (.sl 2) (.ev (mTup (aCons (mC (.int 0)) (aCons (mOp2 gSub (.sl 1) (.ev (mC (.int 1)))) aNil)))))) (mTup (aCons (mOp2 gIx (.sl 3) (.ev (mC (.int 0)))) (aCons (mOp2 gIx (.sl 3) (.ev (mNeg (mC (.int 1))))) aNil))) (mC (.int 0))))))) := rfl
theorem mul_nat {a b : Nat} (h : a < 18446744073709551616) : gMul (.int a) (.int b) = some (.int ((a : Int) * b)) := gMul_int (.inl ⟨by omega, by omega⟩)
section
variable {z0 z1 x4 x5 x12 : Option D} {kn : List (List Key × D)} {ods : List D} {l mi h : Int} {m M1 M2 : Tm} {x y k : Ky} {o : Bool}
theorem in_t (ho : gIx (.lst .own ods) (.int mi) = some (.int (b2i o))) : (tVal (mOp2 gEqA (.ev (mOp2 gMod (.ev (mCB gInt (aCons (mOp2 gAdd (.ev (mOp2 gAdd (.ev (mOp2 gIx (.sl 10) (.ev (mC (.int 1))))) (.ev (mOp2 gIx (.sl 11) (.ev (mC (.int 0))))))) (.ev (mC (.int 1)))) aNil))) (.ev (mC (.int 2))))) (.ev (mOp2 gIx (.sl 3) (.sl 9))))) [z0, z1, some (.dit .own kn), some (.lst .own ods), x4, x5, some (.int l), some (.int h), some (.dit .own (encT m)), some (.int mi), some (kD x), some (kD y), x12] = some (.ok (decide (o = (!(x.2 ^^ y.1)))), [z0, z1, some (.dit .own kn), some (.lst .own ods), x4, x5, some (.int l), some (.int h), some (.dit .own (encT m)), some (.int mi), some (kD x), some (kD y), x12]) := by
  have e1 := par_b x.2 y.1 o
  have e2 : gMod (.int (b2i x.2 + b2i y.1 + 1)) (.int 2) = some (.int ((b2i x.2 + b2i y.1 + 1).fmod 2)) := gMod_int (by decide)
  simp only [finM_ret, finM_nx, finM_err, finI_ret, sRet, sRetN, sEx, andThen, sAs, sSeq, sIf, sNx, sPar, sPar3, sRaise, mIf, bIf, bAnd, bOr, bNot, tVal, tTru, tTru2, asB, truD, mOp2, mOp, mC, mV, mMv, rd, mCBV, mCB, mCall, mCallI, mFz, mNeg, mTup, mLst, aCons, aNil, mAndV, mOrV, mNotV, mSl, oNone, oSome, gSl,
  bnd_ok, bnd_er, got_ok, gNm, gTp, gsCons, gsNil, gSubL, mMut, fApp, fPop, iVal, iRng, rngD1, rngD2, itemsD, mCh, cLast, cLink, tYesD,
  List.map_cons, List.map_nil, List.length_cons, List.length_nil, List.replicate, List.cons_append, List.nil_append, List.append_nil, List.getElem?_cons_zero, List.getElem?_cons_succ, List.set_cons_zero, List.set_cons_succ, Option.map_some, Option.join_some, Option.isSome_some, Option.bind_some,
  noOwn_int, noOwn_bl, noOwn_str, noOwn_non, noOwn_ty, noOwn_lst, noOwn_tup, noOwn_dit, noOwns_nil, noOwns_cons, noOwns_ints, fz_int, fz_bl, fz_str, fz_non, if_true, if_false, Bool.and_self, Bool.and_true, Bool.true_and, Bool.false_and, Bool.and_false, decide_true, decide_false, Bool.false_eq_true,
  gAdd_int, gSub_int, gLt_int, gLe_int, gGt_int, gGe_int, gEqA_int, gNeA_int, gEqA_str, gNeA_str, gLen, gInt, gAbs, gSum, intsOf_map, reduceCtorEq, ne_eq, not_false_eq_true, not_true_eq_false, and_self, and_true, true_and, and_false, false_and, Nat.reduceAdd, Nat.reduceSub, Nat.reduceMul, Nat.reduceLT, Nat.reduceLeDiff, Nat.zero_add, Int.reduceNeg, Int.reduceLT, Int.reduceLE, Int.reduceAdd, Int.reduceSub, Int.reduceMul, Int.reduceEq, Int.reduceNe, kD, e2, ix0, ix1, ho]
  rw [e1]
theorem in_k : sAs (mTup (aCons (mOp2 gSub (.ev (mC (.int 1))) (.ev (mOp2 gIx (.sl 10) (.ev (mC (.int 0)))))) (aCons (mOp2 gSub (.ev (mC (.int 1))) (.ev (mOp2 gIx (.sl 11) (.ev (mC (.int 1)))))) aNil))) (gNm 12) [z0, z1, some (.dit .own kn), some (.lst .own ods), x4, x5, some (.int l), some (.int h), some (.dit .own (encT m)), some (.int mi), some (kD x), some (kD y), x12] = some (.nx, [z0, z1, some (.dit .own kn), some (.lst .own ods), x4, x5, some (.int l), some (.int h), some (.dit .own (encT m)), some (.int mi), some (kD x), some (kD y), some (kD (!x.1, !y.2))]) := by
  simp only [finM_ret, finM_nx, finM_err, finI_ret, sRet, sRetN, sEx, andThen, sAs, sSeq, sIf, sNx, sPar, sPar3, sRaise, mIf, bIf, bAnd, bOr, bNot, tVal, tTru, tTru2, asB, truD, mOp2, mOp, mC, mV, mMv, rd, mCBV, mCB, mCall, mCallI, mFz, mNeg, mTup, mLst, aCons, aNil, mAndV, mOrV, mNotV, mSl, oNone, oSome, gSl,
  bnd_ok, bnd_er, got_ok, gNm, gTp, gsCons, gsNil, gSubL, mMut, fApp, fPop, iVal, iRng, rngD1, rngD2, itemsD, mCh, cLast, cLink, tYesD,
  List.map_cons, List.map_nil, List.length_cons, List.length_nil, List.replicate, List.cons_append, List.nil_append, List.append_nil, List.getElem?_cons_zero, List.getElem?_cons_succ, List.set_cons_zero, List.set_cons_succ, Option.map_some, Option.join_some, Option.isSome_some, Option.bind_some,
  noOwn_int, noOwn_bl, noOwn_str, noOwn_non, noOwn_ty, noOwn_lst, noOwn_tup, noOwn_dit, noOwns_nil, noOwns_cons, noOwns_ints, fz_int, fz_bl, fz_str, fz_non, if_true, if_false, Bool.and_self, Bool.and_true, Bool.true_and, Bool.false_and, Bool.and_false, decide_true, decide_false, Bool.false_eq_true,
  gAdd_int, gSub_int, gLt_int, gLe_int, gGt_int, gGe_int, gEqA_int, gNeA_int, gEqA_str, gNeA_str, gLen, gInt, gAbs, gSum, intsOf_map, reduceCtorEq, ne_eq, not_false_eq_true, not_true_eq_false, and_self, and_true, true_and, and_false, false_and, Nat.reduceAdd, Nat.reduceSub, Nat.reduceMul, Nat.reduceLT, Nat.reduceLeDiff, Nat.zero_add, Int.reduceNeg, Int.reduceLT, Int.reduceLE, Int.reduceAdd, Int.reduceSub, Int.reduceMul, Int.reduceEq, Int.reduceNe, kD, ix0, ix1, neg_b]
theorem in_g : mGet2 (.sl 8) (mV 12) (mC (.int 0)) [z0, z1, some (.dit .own kn), some (.lst .own ods), x4, x5, some (.int l), some (.int h), some (.dit .own (encT m)), some (.int mi), some (kD x), some (kD y), some (kD k)] = some (.ok (.int ((lkM m k).getD 0 : Nat)), [z0, z1, some (.dit .own kn), some (.lst .own ods), x4, x5, some (.int l), some (.int h), some (.dit .own (encT m)), some (.int mi), some (kD x), some (kD y), some (kD k)]) := by
  have e3 := get_enc (o := .own) m k
  have e12 : ((lkM m k).map fun n => D.int n).getD (.int 0) = .int ((lkM m k).getD 0 : Nat) := by cases lkM m k <;> rfl
  simp only [finM_ret, finM_nx, finM_err, finI_ret, sRet, sRetN, sEx, andThen, sAs, sSeq, sIf, sNx, sPar, sPar3, sRaise, mIf, bIf, bAnd, bOr, bNot, tVal, tTru, tTru2, asB, truD, mOp2, mOp, mC, mV, mMv, rd, mCBV, mCB, mCall, mCallI, mFz, mNeg, mTup, mLst, aCons, aNil, mAndV, mOrV, mNotV, mSl, oNone, oSome, gSl,
  bnd_ok, bnd_er, got_ok, gNm, gTp, gsCons, gsNil, gSubL, mMut, fApp, fPop, iVal, iRng, rngD1, rngD2, itemsD, mCh, cLast, cLink, tYesD,
  List.map_cons, List.map_nil, List.length_cons, List.length_nil, List.replicate, List.cons_append, List.nil_append, List.append_nil, List.getElem?_cons_zero, List.getElem?_cons_succ, List.set_cons_zero, List.set_cons_succ, Option.map_some, Option.join_some, Option.isSome_some, Option.bind_some,
  noOwn_int, noOwn_bl, noOwn_str, noOwn_non, noOwn_ty, noOwn_lst, noOwn_tup, noOwn_dit, noOwns_nil, noOwns_cons, noOwns_ints, fz_int, fz_bl, fz_str, fz_non, if_true, if_false, Bool.and_self, Bool.and_true, Bool.true_and, Bool.false_and, Bool.and_false, decide_true, decide_false, Bool.false_eq_true,
  gAdd_int, gSub_int, gLt_int, gLe_int, gGt_int, gGe_int, gEqA_int, gNeA_int, gEqA_str, gNeA_str, gLen, gInt, gAbs, gSum, intsOf_map, reduceCtorEq, ne_eq, not_false_eq_true, not_true_eq_false, and_self, and_true, true_and, and_false, false_and, Nat.reduceAdd, Nat.reduceSub, Nat.reduceMul, Nat.reduceLT, Nat.reduceLeDiff, Nat.zero_add, Int.reduceNeg, Int.reduceLT, Int.reduceLE, Int.reduceAdd, Int.reduceSub, Int.reduceMul, Int.reduceEq, Int.reduceNe, mGet2, isDic, kD, e3, e12]
theorem in_a {n : Nat} (hk : noOwnT kn = true) (h1 : valD kn [.inl l, .inl mi] = some (.dit .frz (encT M1))) (k1 : lkM M1 x = some n) : mOp2 gDx (.ev (mOp2 gDx (.sl 2) (.ev (mTup (aCons (mV 6) (aCons (mV 9) aNil)))))) (.sl 10) [z0, z1, some (.dit .own kn), some (.lst .own ods), x4, x5, some (.int l), some (.int h), some (.dit .own (encT m)), some (.int mi), some (kD x), some (kD y), some (kD k)] = some (.ok (.int n), [z0, z1, some (.dit .own kn), some (.lst .own ods), x4, x5, some (.int l), some (.int h), some (.dit .own (encT m)), some (.int mi), some (kD x), some (kD y), some (kD k)]) := by
  have e4 := dx_kn (o := .own) hk h1
  have e6 := dx_enc (o := .frz) k1
  simp only [finM_ret, finM_nx, finM_err, finI_ret, sRet, sRetN, sEx, andThen, sAs, sSeq, sIf, sNx, sPar, sPar3, sRaise, mIf, bIf, bAnd, bOr, bNot, tVal, tTru, tTru2, asB, truD, mOp2, mOp, mC, mV, mMv, rd, mCBV, mCB, mCall, mCallI, mFz, mNeg, mTup, mLst, aCons, aNil, mAndV, mOrV, mNotV, mSl, oNone, oSome, gSl,
  bnd_ok, bnd_er, got_ok, gNm, gTp, gsCons, gsNil, gSubL, mMut, fApp, fPop, iVal, iRng, rngD1, rngD2, itemsD, mCh, cLast, cLink, tYesD,
  List.map_cons, List.map_nil, List.length_cons, List.length_nil, List.replicate, List.cons_append, List.nil_append, List.append_nil, List.getElem?_cons_zero, List.getElem?_cons_succ, List.set_cons_zero, List.set_cons_succ, Option.map_some, Option.join_some, Option.isSome_some, Option.bind_some,
  noOwn_int, noOwn_bl, noOwn_str, noOwn_non, noOwn_ty, noOwn_lst, noOwn_tup, noOwn_dit, noOwns_nil, noOwns_cons, noOwns_ints, fz_int, fz_bl, fz_str, fz_non, if_true, if_false, Bool.and_self, Bool.and_true, Bool.true_and, Bool.false_and, Bool.and_false, decide_true, decide_false, Bool.false_eq_true,
  gAdd_int, gSub_int, gLt_int, gLe_int, gGt_int, gGe_int, gEqA_int, gNeA_int, gEqA_str, gNeA_str, gLen, gInt, gAbs, gSum, intsOf_map, reduceCtorEq, ne_eq, not_false_eq_true, not_true_eq_false, and_self, and_true, true_and, and_false, false_and, Nat.reduceAdd, Nat.reduceSub, Nat.reduceMul, Nat.reduceLT, Nat.reduceLeDiff, Nat.zero_add, Int.reduceNeg, Int.reduceLT, Int.reduceLE, Int.reduceAdd, Int.reduceSub, Int.reduceMul, Int.reduceEq, Int.reduceNe, kD, e4, e6]
theorem in_b {n : Nat} (hk : noOwnT kn = true) (h1 : valD kn [.inl mi, .inl h] = some (.dit .frz (encT M2))) (k1 : lkM M2 y = some n) : mOp2 gDx (.ev (mOp2 gDx (.sl 2) (.ev (mTup (aCons (mV 9) (aCons (mV 7) aNil)))))) (.sl 11) [z0, z1, some (.dit .own kn), some (.lst .own ods), x4, x5, some (.int l), some (.int h), some (.dit .own (encT m)), some (.int mi), some (kD x), some (kD y), some (kD k)] = some (.ok (.int n), [z0, z1, some (.dit .own kn), some (.lst .own ods), x4, x5, some (.int l), some (.int h), some (.dit .own (encT m)), some (.int mi), some (kD x), some (kD y), some (kD k)]) := by
  have e4 := dx_kn (o := .own) hk h1
  have e6 := dx_enc (o := .frz) k1
  simp only [finM_ret, finM_nx, finM_err, finI_ret, sRet, sRetN, sEx, andThen, sAs, sSeq, sIf, sNx, sPar, sPar3, sRaise, mIf, bIf, bAnd, bOr, bNot, tVal, tTru, tTru2, asB, truD, mOp2, mOp, mC, mV, mMv, rd, mCBV, mCB, mCall, mCallI, mFz, mNeg, mTup, mLst, aCons, aNil, mAndV, mOrV, mNotV, mSl, oNone, oSome, gSl,
  bnd_ok, bnd_er, got_ok, gNm, gTp, gsCons, gsNil, gSubL, mMut, fApp, fPop, iVal, iRng, rngD1, rngD2, itemsD, mCh, cLast, cLink, tYesD,
  List.map_cons, List.map_nil, List.length_cons, List.length_nil, List.replicate, List.cons_append, List.nil_append, List.append_nil, List.getElem?_cons_zero, List.getElem?_cons_succ, List.set_cons_zero, List.set_cons_succ, Option.map_some, Option.join_some, Option.isSome_some, Option.bind_some,
  noOwn_int, noOwn_bl, noOwn_str, noOwn_non, noOwn_ty, noOwn_lst, noOwn_tup, noOwn_dit, noOwns_nil, noOwns_cons, noOwns_ints, fz_int, fz_bl, fz_str, fz_non, if_true, if_false, Bool.and_self, Bool.and_true, Bool.true_and, Bool.false_and, Bool.and_false, decide_true, decide_false, Bool.false_eq_true,
  gAdd_int, gSub_int, gLt_int, gLe_int, gGt_int, gGe_int, gEqA_int, gNeA_int, gEqA_str, gNeA_str, gLen, gInt, gAbs, gSum, intsOf_map, reduceCtorEq, ne_eq, not_false_eq_true, not_true_eq_false, and_self, and_true, true_and, and_false, false_and, Nat.reduceAdd, Nat.reduceSub, Nat.reduceMul, Nat.reduceLT, Nat.reduceLeDiff, Nat.zero_add, Int.reduceNeg, Int.reduceLT, Int.reduceLE, Int.reduceAdd, Int.reduceSub, Int.reduceMul, Int.reduceEq, Int.reduceNe, kD, e4, e6]
end
end Fk07

set_option maxHeartbeats 4000000
namespace Fk07
open PySem PySem.Spec PyProof.Rows L2 Fx
section
variable {z0 z1 x4 x5 x12 : Option D} {kn : List (List Key × D)} {ods : List D} {l mi h : Int} {m M1 M2 : Tm} {x y k : Ky} {o : Bool}
theorem add_mul {q1 q2 q3 : EM} {S : Sl} {g a b : Int} (g1 : q3 S = some (.ok (.int g), S)) (g2 : q1 S = some (.ok (.int a), S)) (g3 : q2 S = some (.ok (.int b), S)) (e8 : gMul (.int a) (.int b) = some (.int (a * b))) : mOp2 gAdd (.ev q3) (.ev (mOp2 gMul (.ev q1) (.ev q2))) S = some (.ok (.int (g + a * b)), S) := by
  simp only [mOp2, mOp, g1, g2, g3, bnd_ok, e8, got_ok, gAdd_int]
theorem in_s {a b : Nat} (hk : noOwnT kn = true) (h1 : valD kn [.inl l, .inl mi] = some (.dit .frz (encT M1))) (k1 : lkM M1 x = some a) (h2 : valD kn [.inl mi, .inl h] = some (.dit .frz (encT M2))) (k2 : lkM M2 y = some b) (b1 : a < 18446744073709551616) : mOp2 gAdd (.ev (mGet2 (.sl 8) (mV 12) (mC (.int 0)))) (.ev (mOp2 gMul (.ev (mOp2 gDx (.ev (mOp2 gDx (.sl 2) (.ev (mTup (aCons (mV 6) (aCons (mV 9) aNil)))))) (.sl 10))) (.ev (mOp2 gDx (.ev (mOp2 gDx (.sl 2) (.ev (mTup (aCons (mV 9) (aCons (mV 7) aNil)))))) (.sl 11))))) [z0, z1, some (.dit .own kn), some (.lst .own ods), x4, x5, some (.int l), some (.int h), some (.dit .own (encT m)), some (.int mi), some (kD x), some (kD y), some (kD k)] = some (.ok (.int (((lkM m k).getD 0 : Nat) + (a : Int) * b)), [z0, z1, some (.dit .own kn), some (.lst .own ods), x4, x5, some (.int l), some (.int h), some (.dit .own (encT m)), some (.int mi), some (kD x), some (kD y), some (kD k)]) := add_mul in_g (in_a hk h1 k1) (in_b hk h2 k2) (mul_nat b1)
theorem in_p {n : Nat} {e : EM} (he : e [z0, z1, some (.dit .own kn), some (.lst .own ods), x4, x5, some (.int l), some (.int h), some (.dit .own (encT m)), some (.int mi), some (kD x), some (kD y), some (kD k)] = some (.ok (.int (((lkM m k).getD 0 : Nat) + (n : Int))), [z0, z1, some (.dit .own kn), some (.lst .own ods), x4, x5, some (.int l), some (.int h), some (.dit .own (encT m)), some (.int mi), some (kD x), some (kD y), some (kD k)])) (hm : Ok m) : sAs e (gSubT 8 (mV 12)) [z0, z1, some (.dit .own kn), some (.lst .own ods), x4, x5, some (.int l), some (.int h), some (.dit .own (encT m)), some (.int mi), some (kD x), some (kD y), some (kD k)] = some (.nx, [z0, z1, some (.dit .own kn), some (.lst .own ods), x4, x5, some (.int l), some (.int h), some (.dit .own (encT (addM m k n))), some (.int mi), some (kD x), some (kD y), some (kD k)]) := by
  have e13 := put_enc k n hm.nd
  rw [Int.natCast_add] at e13
  have e9 := noOwn_enc m
  have e10 : (encT m).length < 1000000 := by have := hm.len; rw [enc_len]; omega
  have e11 : tkey (kD k) = some (kk k) := rfl
  have e14 : noOwn (kD k) = true := by simp [kD, noOwn, noOwns]
  generalize kD k = kx at he e11 e14 ⊢
  unfold sAs
  rw [andThen_ok he]
  simp only [finM_ret, finM_nx, finM_err, finI_ret, sRet, sRetN, sEx, andThen, sAs, sSeq, sIf, sNx, sPar, sPar3, sRaise, mIf, bIf, bAnd, bOr, bNot, tVal, tTru, tTru2, asB, truD, mOp2, mOp, mC, mV, mMv, rd, mCBV, mCB, mCall, mCallI, mFz, mNeg, mTup, mLst, aCons, aNil, mAndV, mOrV, mNotV, mSl, oNone, oSome, gSl,
  bnd_ok, bnd_er, got_ok, gNm, gTp, gsCons, gsNil, gSubL, mMut, fApp, fPop, iVal, iRng, rngD1, rngD2, itemsD, mCh, cLast, cLink, tYesD,
  List.map_cons, List.map_nil, List.length_cons, List.length_nil, List.replicate, List.cons_append, List.nil_append, List.append_nil, List.getElem?_cons_zero, List.getElem?_cons_succ, List.set_cons_zero, List.set_cons_succ, Option.map_some, Option.join_some, Option.isSome_some, Option.bind_some,
  noOwn_int, noOwn_bl, noOwn_str, noOwn_non, noOwn_ty, noOwn_lst, noOwn_tup, noOwn_dit, noOwns_nil, noOwns_cons, noOwns_ints, fz_int, fz_bl, fz_str, fz_non, if_true, if_false, Bool.and_self, Bool.and_true, Bool.true_and, Bool.false_and, Bool.and_false, decide_true, decide_false, Bool.false_eq_true,
  gAdd_int, gSub_int, gLt_int, gLe_int, gGt_int, gGe_int, gEqA_int, gNeA_int, gEqA_str, gNeA_str, gLen, gInt, gAbs, gSum, intsOf_map, reduceCtorEq, ne_eq, not_false_eq_true, not_true_eq_false, and_self, and_true, true_and, and_false, false_and, Nat.reduceAdd, Nat.reduceSub, Nat.reduceMul, Nat.reduceLT, Nat.reduceLeDiff, Nat.zero_add, Int.reduceNeg, Int.reduceLT, Int.reduceLE, Int.reduceAdd, Int.reduceSub, Int.reduceMul, Int.reduceEq, Int.reduceNe, gSubT, e9, e10, e11, e14, e13]
end
theorem in_ok {z0 z1 x4 x5 x12 : Option D} {kn : List (List Key × D)} {ods : List D} {l mi h : Int} {m M1 M2 : Tm} {x y : Ky × Nat} {o : Bool} (hk : noOwnT kn = true) (h1 : valD kn [.inl l, .inl mi] = some (.dit .frz (encT M1))) (h2 : valD kn [.inl mi, .inl h] = some (.dit .frz (encT M2)))
    (k1 : lkM M1 x.1 = some x.2) (k2 : lkM M2 y.1 = some y.2) (b1 : x.2 < 18446744073709551616) (ho : gIx (.lst .own ods) (.int mi) = some (.int (b2i o))) (hm : Ok m) :
    ∃ x12', bIn [z0, z1, some (.dit .own kn), some (.lst .own ods), x4, x5, some (.int l), some (.int h), some (.dit .own (encT m)), some (.int mi), some (kD x.1), some (kD y.1), x12] = some (.nx, [z0, z1, some (.dit .own kn), some (.lst .own ods), x4, x5, some (.int l), some (.int h), some (.dit .own (encT (step o x m y))), some (.int mi), some (kD x.1), some (kD y.1), x12']) := by
  have ht := in_t (z0 := z0) (z1 := z1) (x4 := x4) (x5 := x5) (kn := kn) (l := l) (h := h) (m := m) (x := x.1) (y := y.1) (x12 := x12) ho
  unfold step bIn
  by_cases c : o = (!(x.1.2 ^^ y.1.1))
  · rw [decide_eq_true c] at ht
    rw [if_pos c, if_tt ht, seq_nx in_k, in_p (n := x.2 * y.2) _ hm]
    · exact ⟨_, rfl⟩
    · rw [Int.natCast_mul]
      exact in_s hk h1 k1 h2 k2 b1
  · rw [decide_eq_false c] at ht
    rw [if_neg c, if_ff ht]
    exact ⟨x12, rfl⟩
end Fk07

set_option maxHeartbeats 4000000
namespace Fk07
open PySem PySem.Spec PyProof.Rows L2 Fx
section
variable {z0 z1 x4 x5 x9 x10 x11 x12 : Option D} {kn : List (List Key × D)} {ods : List D} {l mi h : Int} {m M1 M2 : Tm} {x : Ky × Nat} {o : Bool}
theorem it_kn {S : Sl} {i j : Nat} {a b : Int} (h2 : S[2]? = some (some (.dit .own kn))) (hi : S[i]? = some (some (.int a))) (hj : S[j]? = some (some (.int b))) (hk : noOwnT kn = true) (h : valD kn [.inl a, .inl b] = some (.dit .frz (encT m))) : iVal (mCB gList (aCons (mOp2 gDx (.sl 2) (.ev (mTup (aCons (mV i) (aCons (mV j) aNil))))) aNil)) S = some (.ok (m.map fun x => kD x.1), S) := by
  have e1 : mTup (aCons (mV i) (aCons (mV j) aNil)) S = some (.ok (.tup false [.int a, .int b]), S) := by
    simp only [mTup, aCons, aNil, mV_no hi noOwn_int, mV_no hj noOwn_int, bnd_ok, noOwns_cons, noOwns_nil, noOwn_int, Bool.and_self, if_true]
    rfl
  have e2 : mOp2 gDx (.sl 2) (.ev (mTup (aCons (mV i) (aCons (mV j) aNil)))) S = some (.ok (.dit .frz (encT m)), S) := by
    simp only [mOp2, rd_at h2, e1, bnd_ok, dx_kn hk h, got_ok]
  simp only [iVal, mCB, aCons, aNil, e2, bnd_ok, no_enc, if_true, noOwns_cons, noOwns_nil, Bool.and_self, list_enc, got_ok, itemsD, no_keys]
theorem one_ok (hk : noOwnT kn = true) (h1 : valD kn [.inl l, .inl mi] = some (.dit .frz (encT M1))) (h2 : valD kn [.inl mi, .inl h] = some (.dit .frz (encT M2)))
    (k1 : lkM M1 x.1 = some x.2) (b1 : x.2 < 18446744073709551616) (b0 : 0 < x.2) (o2 : Ok M2) (ho : gIx (.lst .own ods) (.int mi) = some (.int (b2i o))) (hm : Ok m) :
    ∃ x11' x12', bOne [z0, z1, some (.dit .own kn), some (.lst .own ods), x4, x5, some (.int l), some (.int h), some (.dit .own (encT m)), some (.int mi), some (kD x.1), x11, x12] = some (.nx, [z0, z1, some (.dit .own kn), some (.lst .own ods), x4, x5, some (.int l), some (.int h), some (.dit .own (encT (inn o M2 m x))), some (.int mi), some (kD x.1), x11', x12']) := by
  obtain ⟨S', e, m', y11, y12, rfl, hm', hf, _⟩ := forL_map (α := Ky × Nat) (g := gNm 11) (b := bIn) (f := fun y => kD y.1) (fun ys T => ∃ m' y11 y12, T = [z0, z1, some (.dit .own kn), some (.lst .own ods), x4, x5, some (.int l), some (.int h), some (.dit .own (encT m')), some (.int mi), some (kD x.1), y11, y12] ∧ Ok m' ∧ inn o ys m' x = inn o M2 m x ∧ ∀ y ∈ ys, y ∈ M2)
    (fun y ys T ⟨m', y11, y12, hT, hm', hf, hy⟩ => by
      subst hT
      have hy2 : y ∈ M2 := hy y List.mem_cons_self
      obtain ⟨w12, e⟩ := in_ok (z0 := z0) (z1 := z1) (x4 := x4) (x5 := x5) (x12 := y12) (y := y) hk h1 h2 k1 (lk_mem o2.nd y hy2) b1 ho hm'
      exact ⟨_, _, rfl, e, step o x m' y, _, _, rfl, step_ok hm' b0 (o2.pos y hy2), hf, fun z hz => hy z (List.mem_cons_of_mem _ hz)⟩) (xs := M2) (S := [z0, z1, some (.dit .own kn), some (.lst .own ods), x4, x5, some (.int l), some (.int h), some (.dit .own (encT m)), some (.int mi), some (kD x.1), x11, x12]) ⟨m, x11, x12, rfl, hm, rfl, fun y hy => hy⟩
  refine ⟨y11, y12, ?_⟩
  have hf : m' = inn o M2 m x := hf
  rw [← hf]
  exact for_of (it_kn (i := 9) (j := 7) rfl rfl rfl hk h2) e
theorem mid_ok1 (hk : noOwnT kn = true) (h1 : valD kn [.inl l, .inl mi] = some (.dit .frz (encT M1))) (h2 : valD kn [.inl mi, .inl h] = some (.dit .frz (encT M2)))
    (b1 : ∀ x ∈ M1, x.2 < 18446744073709551616) (o1 : Ok M1) (o2 : Ok M2) (ho : gIx (.lst .own ods) (.int mi) = some (.int (b2i o))) (hm : Ok m) :
    ∃ x10' x11' x12', bMid [z0, z1, some (.dit .own kn), some (.lst .own ods), x4, x5, some (.int l), some (.int h), some (.dit .own (encT m)), some (.int mi), x10, x11, x12] = some (.nx, [z0, z1, some (.dit .own kn), some (.lst .own ods), x4, x5, some (.int l), some (.int h), some (.dit .own (encT (mid o M1 M2 m))), some (.int mi), x10', x11', x12']) := by
  obtain ⟨S', e, m', y10, y11, y12, rfl, hm', hf, _⟩ := forL_map (α := Ky × Nat) (g := gNm 10) (b := bOne) (f := fun y => kD y.1) (fun xs T => ∃ m' y10 y11 y12, T = [z0, z1, some (.dit .own kn), some (.lst .own ods), x4, x5, some (.int l), some (.int h), some (.dit .own (encT m')), some (.int mi), y10, y11, y12] ∧ Ok m' ∧ mid o xs M2 m' = mid o M1 M2 m ∧ ∀ x ∈ xs, x ∈ M1)
    (fun x xs T ⟨m', y10, y11, y12, hT, hm', hf, hy⟩ => by
      subst hT
      have hx2 : x ∈ M1 := hy x List.mem_cons_self
      obtain ⟨w11, w12, e⟩ := one_ok (z0 := z0) (z1 := z1) (x4 := x4) (x5 := x5) (x11 := y11) (x12 := y12) (x := x) hk h1 h2 (lk_mem o1.nd x hx2) (b1 x hx2) (o1.pos x hx2) o2 ho hm'
      exact ⟨_, _, rfl, e, inn o M2 m' x, _, _, _, rfl, inn_ok hm' (o1.pos x hx2) o2.pos, hf, fun z hz => hy z (List.mem_cons_of_mem _ hz)⟩) (xs := M1) (S := [z0, z1, some (.dit .own kn), some (.lst .own ods), x4, x5, some (.int l), some (.int h), some (.dit .own (encT m)), some (.int mi), x10, x11, x12]) ⟨m, x10, x11, x12, rfl, hm, rfl, fun y hy => hy⟩
  refine ⟨y10, y11, y12, ?_⟩
  have hf : m' = mid o M1 M2 m := hf
  rw [← hf]
  exact for_of (it_kn (i := 6) (j := 9) rfl rfl rfl hk h1) e
end
end Fk07

set_option maxHeartbeats 4000000
namespace Fk07
open PySem PySem.Spec PyProof.Rows L2 Fx
theorem Kp_one {od : Nat → Bool} {l : Nat} {p q : Bool} : Kp od 1 l p q ↔ p = false ∧ q = false := by
  have f1 : ∀ {s l : Nat} {p q : Bool}, Kp od s l p q → s = 1 → p = false ∧ q = false := by
    intro s l p q h e
    cases h with
    | one => exact ⟨rfl, rfl⟩
    | two g1 g2 _ =>
      have := g1.pos
      have := g2.pos
      omega
  exact ⟨fun h => f1 h rfl, fun ⟨h1, h2⟩ => by subst h1 h2; exact .one l⟩
theorem Kp_two {od : Nat → Bool} {s l : Nat} {p q : Bool} (hs : 2 ≤ s) : Kp od s l p q ↔ ∃ i, i < s - 1 ∧ ∃ r r', Kp od (i + 1) l (!p) r ∧ Kp od (s - (i + 1)) (l + (i + 1)) r' (!q) ∧ od (l + (i + 1)) = !(r ^^ r') := by
  constructor
  · intro h
    have f1 : ∀ {s' l : Nat} {p q : Bool}, Kp od s' l p q → s' = s → ∃ i, i < s - 1 ∧ ∃ r r', Kp od (i + 1) l (!p) r ∧ Kp od (s - (i + 1)) (l + (i + 1)) r' (!q) ∧ od (l + (i + 1)) = !(r ^^ r') := by
      intro s' l p q h e
      cases h with
      | one => omega
      | @two a b _ p r r' q g1 g2 ho =>
        have p1 := g1.pos
        have p2 := g2.pos
        refine ⟨a - 1, by omega, r, r', ?_⟩
        rw [show a - 1 + 1 = a by omega, show s - a = b by omega, Bool.not_not, Bool.not_not]
        exact ⟨g1, g2, ho⟩
    exact f1 h rfl
  · rintro ⟨i, hi, r, r', h1, h2, h3⟩
    have := Kp.two h1 h2 h3
    rw [Bool.not_not, Bool.not_not, show i + 1 + (s - (i + 1)) = s by omega] at this
    exact this
theorem rngD1_int {j : Int} (h1 : -(2 ^ 62) ≤ j) (h2 : j < 2 ^ 62) : rngD1 [.int j] = some (rangeD 0 1 j.toNat) := if_pos ⟨h1, h2⟩
theorem rngD2_int {i j : Int} (h1 : -(2 ^ 62) ≤ i) (h2 : i < 2 ^ 62) (h3 : -(2 ^ 62) ≤ j) (h4 : j < 2 ^ 62) : rngD2 [.int i, .int j] = some (rangeD i 1 (j - i).toNat) := if_pos ⟨h1, h2, h3, h4⟩
structure Kno (od : Nat → Bool) (n s l : Nat) (kn : List (List Key × D)) : Prop where
  no : noOwnT kn = true
  dn : ∀ s' l', 1 ≤ s' → (s' < s ∧ l' + s' < n ∨ s' = s ∧ l' < l) → ∃ m, valD kn [.inl (l' : Int), .inl ((l' : Int) + (s' : Int))] = some (.dit .frz (encT m)) ∧ Ok m ∧ (∀ k : Ky, k ∈ m.map (·.1) ↔ Kp od s' l' k.1 k.2) ∧ tot m ≤ cat s'
  len : kn.length ≤ s * 24 + l
def m0 (s : Nat) : Tm := if s = 1 then [((false, false), 1)] else []
theorem m0_ok (s : Nat) : Ok (m0 s) := by
  unfold m0
  split
  · exact ⟨by simp, fun x hx => by simp at hx; rw [hx]; exact Nat.one_pos⟩
  · exact ⟨by simp, fun x hx => nomatch hx⟩
def P2 (od : Nat → Bool) (s l j : Nat) (k : Ky) : Prop := ∃ i, i < j ∧ ∃ r r', Kp od (i + 1) l (!k.1) r ∧ Kp od (s - (i + 1)) (l + (i + 1)) r' (!k.2) ∧ od (l + (i + 1)) = !(r ^^ r')
theorem a2_ok {z0 z1 x4 x9 x10 x11 x12 : Option D} {kn : List (List Key × D)} {ods : List D} {s l : Nat} : (sIf (tVal (mOp2 gEqA (.sl 5) (.ev (mC (.int 1)))))
      (sAs (mC (.int 1)) (gSubT 8 (mTup (aCons (mC (.int 0)) (aCons (mC (.int 0)) aNil))))) sNx) [z0, z1, some (.dit .own kn), some (.lst .own ods), x4, some (.int s), some (.int l), some (.int (l + s)), some (.dit .own []), x9, x10, x11, x12] = some (.nx, [z0, z1, some (.dit .own kn), some (.lst .own ods), x4, some (.int s), some (.int l), some (.int (l + s)), some (.dit .own (encT (m0 s))), x9, x10, x11, x12]) := by
  have e1 : putD ([] : List (List Key × D)) [.inl 0, .inl 0] (.int 1) = encT [((false, false), 1)] := rfl
  have e2 : tkey (.tup false [.int 0, .int 0]) = some [.inl 0, .inl 0] := rfl
  have e3 : noOwnT ([] : List (List Key × D)) = true := rfl
  unfold m0
  by_cases e : s = 1
  · subst e
    simp only [finM_ret, finM_nx, finM_err, finI_ret, sRet, sRetN, sEx, andThen, sAs, sSeq, sIf, sNx, sPar, sPar3, sRaise, mIf, bIf, bAnd, bOr, bNot, tVal, tTru, tTru2, asB, truD, mOp2, mOp, mC, mV, mMv, rd, mCBV, mCB, mCall, mCallI, mFz, mNeg, mTup, mLst, aCons, aNil, mAndV, mOrV, mNotV, mSl, oNone, oSome, gSl,
  bnd_ok, bnd_er, got_ok, gNm, gTp, gsCons, gsNil, gSubL, mMut, fApp, fPop, iVal, iRng, rngD1, rngD2, itemsD, mCh, cLast, cLink, tYesD,
  List.map_cons, List.map_nil, List.length_cons, List.length_nil, List.replicate, List.cons_append, List.nil_append, List.append_nil, List.getElem?_cons_zero, List.getElem?_cons_succ, List.set_cons_zero, List.set_cons_succ, Option.map_some, Option.join_some, Option.isSome_some, Option.bind_some,
  noOwn_int, noOwn_bl, noOwn_str, noOwn_non, noOwn_ty, noOwn_lst, noOwn_tup, noOwn_dit, noOwns_nil, noOwns_cons, noOwns_ints, fz_int, fz_bl, fz_str, fz_non, if_true, if_false, Bool.and_self, Bool.and_true, Bool.true_and, Bool.false_and, Bool.and_false, decide_true, decide_false, Bool.false_eq_true,
  gAdd_int, gSub_int, gLt_int, gLe_int, gGt_int, gGe_int, gEqA_int, gNeA_int, gEqA_str, gNeA_str, gLen, gInt, gAbs, gSum, intsOf_map, reduceCtorEq, ne_eq, not_false_eq_true, not_true_eq_false, and_self, and_true, true_and, and_false, false_and, Nat.reduceAdd, Nat.reduceSub, Nat.reduceMul, Nat.reduceLT, Nat.reduceLeDiff, Nat.zero_add, Int.reduceNeg, Int.reduceLT, Int.reduceLE, Int.reduceAdd, Int.reduceSub, Int.reduceMul, Int.reduceEq, Int.reduceNe, gSubT, e2, e3, Int.natCast_one, e1]
  · rw [if_neg e]
    have e' : ¬ (s : Int) = 1 := by omega
    simp only [finM_ret, finM_nx, finM_err, finI_ret, sRet, sRetN, sEx, andThen, sAs, sSeq, sIf, sNx, sPar, sPar3, sRaise, mIf, bIf, bAnd, bOr, bNot, tVal, tTru, tTru2, asB, truD, mOp2, mOp, mC, mV, mMv, rd, mCBV, mCB, mCall, mCallI, mFz, mNeg, mTup, mLst, aCons, aNil, mAndV, mOrV, mNotV, mSl, oNone, oSome, gSl,
  bnd_ok, bnd_er, got_ok, gNm, gTp, gsCons, gsNil, gSubL, mMut, fApp, fPop, iVal, iRng, rngD1, rngD2, itemsD, mCh, cLast, cLink, tYesD,
  List.map_cons, List.map_nil, List.length_cons, List.length_nil, List.replicate, List.cons_append, List.nil_append, List.append_nil, List.getElem?_cons_zero, List.getElem?_cons_succ, List.set_cons_zero, List.set_cons_succ, Option.map_some, Option.join_some, Option.isSome_some, Option.bind_some,
  noOwn_int, noOwn_bl, noOwn_str, noOwn_non, noOwn_ty, noOwn_lst, noOwn_tup, noOwn_dit, noOwns_nil, noOwns_cons, noOwns_ints, fz_int, fz_bl, fz_str, fz_non, if_true, if_false, Bool.and_self, Bool.and_true, Bool.true_and, Bool.false_and, Bool.and_false, decide_true, decide_false, Bool.false_eq_true,
  gAdd_int, gSub_int, gLt_int, gLe_int, gGt_int, gGe_int, gEqA_int, gNeA_int, gEqA_str, gNeA_str, gLen, gInt, gAbs, gSum, intsOf_map, reduceCtorEq, ne_eq, not_false_eq_true, not_true_eq_false, and_self, and_true, true_and, and_false, false_and, Nat.reduceAdd, Nat.reduceSub, Nat.reduceMul, Nat.reduceLT, Nat.reduceLeDiff, Nat.zero_add, Int.reduceNeg, Int.reduceLT, Int.reduceLE, Int.reduceAdd, Int.reduceSub, Int.reduceMul, Int.reduceEq, Int.reduceNe, e']
    rfl
theorem a5_ok {z0 z1 x4 y9 y10 y11 y12 : Option D} {kn : List (List Key × D)} {ods : List D} {s l : Nat} {m : Tm} (hk : noOwnT kn = true) (lk : kn.length < 1000000) : sAs (mV 8) (gSubT 2 (mTup (aCons (mV 6) (aCons (mV 7) aNil)))) [z0, z1, some (.dit .own kn), some (.lst .own ods), x4, some (.int s), some (.int l), some (.int (l + s)), some (.dit .own (encT m)), y9, y10, y11, y12] = some (.nx, [z0, z1, some (.dit .own (putD kn [.inl (l : Int), .inl ((l : Int) + (s : Int))] (.dit .frz (encT m)))), some (.lst .own ods), x4, some (.int s), some (.int l), some (.int (l + s)), some (.dit .frz (encT m)), y9, y10, y11, y12]) := by
  have n8 : noOwn (.dit .own (encT m)) = false := by simp [noOwn_dit]
  have f8 : fz (.dit .own (encT m)) = .dit .frz (encT m) := by
    rw [fz_dit, if_pos rfl, fzT_same _ (by rw [← noOwnT_eq]; exact noOwn_enc m)]
  have e1 : mV 8 [z0, z1, some (.dit .own kn), some (.lst .own ods), x4, some (.int s), some (.int l), some (.int (l + s)), some (.dit .own (encT m)), y9, y10, y11, y12] = some (.ok (.dit .frz (encT m)), [z0, z1, some (.dit .own kn), some (.lst .own ods), x4, some (.int s), some (.int l), some (.int (l + s)), some (.dit .frz (encT m)), y9, y10, y11, y12]) := by
    have := mV_own (i := 8) (S := [z0, z1, some (.dit .own kn), some (.lst .own ods), x4, some (.int s), some (.int l), some (.int (l + s)), some (.dit .own (encT m)), y9, y10, y11, y12]) rfl n8
    rw [f8] at this
    exact this
  have e2 : tkey (.tup false [.int (l : Int), .int ((l : Int) + (s : Int))]) = some [.inl (l : Int), .inl ((l : Int) + (s : Int))] := rfl
  unfold sAs
  rw [andThen_ok e1]
  have n9 := no_enc (m := m)
  have n10 := hk
  simp only [finM_ret, finM_nx, finM_err, finI_ret, sRet, sRetN, sEx, andThen, sAs, sSeq, sIf, sNx, sPar, sPar3, sRaise, mIf, bIf, bAnd, bOr, bNot, tVal, tTru, tTru2, asB, truD, mOp2, mOp, mC, mV, mMv, rd, mCBV, mCB, mCall, mCallI, mFz, mNeg, mTup, mLst, aCons, aNil, mAndV, mOrV, mNotV, mSl, oNone, oSome, gSl,
  bnd_ok, bnd_er, got_ok, gNm, gTp, gsCons, gsNil, gSubL, mMut, fApp, fPop, iVal, iRng, rngD1, rngD2, itemsD, mCh, cLast, cLink, tYesD,
  List.map_cons, List.map_nil, List.length_cons, List.length_nil, List.replicate, List.cons_append, List.nil_append, List.append_nil, List.getElem?_cons_zero, List.getElem?_cons_succ, List.set_cons_zero, List.set_cons_succ, Option.map_some, Option.join_some, Option.isSome_some, Option.bind_some,
  noOwn_int, noOwn_bl, noOwn_str, noOwn_non, noOwn_ty, noOwn_lst, noOwn_tup, noOwn_dit, noOwns_nil, noOwns_cons, noOwns_ints, fz_int, fz_bl, fz_str, fz_non, if_true, if_false, Bool.and_self, Bool.and_true, Bool.true_and, Bool.false_and, Bool.and_false, decide_true, decide_false, Bool.false_eq_true,
  gAdd_int, gSub_int, gLt_int, gLe_int, gGt_int, gGe_int, gEqA_int, gNeA_int, gEqA_str, gNeA_str, gLen, gInt, gAbs, gSum, intsOf_map, reduceCtorEq, ne_eq, not_false_eq_true, not_true_eq_false, and_self, and_true, true_and, and_false, false_and, Nat.reduceAdd, Nat.reduceSub, Nat.reduceMul, Nat.reduceLT, Nat.reduceLeDiff, Nat.zero_add, Int.reduceNeg, Int.reduceLT, Int.reduceLE, Int.reduceAdd, Int.reduceSub, Int.reduceMul, Int.reduceEq, Int.reduceNe, gSubT, n9, n10, lk, e2]
theorem rng_r {n s l : Nat} (hn : n ≤ 24) (h1 : 1 ≤ s) (hl : l + s < n) : rngD2 [.int ((l : Int) + 1), .int ((l : Int) + s)] = some (rangeD (l + 1) 1 (s - 1)) := by
  rw [rngD2_int (by omega) (by omega) (by omega) (by omega), show (((l : Int) + s) - ((l : Int) + 1)).toNat = s - 1 by omega]
theorem rng_ok {z0 z1 x4 x8 x9 x10 x11 x12 : Option D} {kn : List (List Key × D)} {ods : List D} {n s l : Nat} (hn : n ≤ 24) (h1 : 1 ≤ s) (hl : l + s < n) : iRng rngD2 (aCons (mOp2 gAdd (.sl 6) (.ev (mC (.int 1)))) (aCons (mV 7) aNil)) [z0, z1, some (.dit .own kn), some (.lst .own ods), x4, some (.int s), some (.int l), some (.int (l + s)), x8, x9, x10, x11, x12] = some (.ok (rangeD (l + 1) 1 (s - 1)), [z0, z1, some (.dit .own kn), some (.lst .own ods), x4, some (.int s), some (.int l), some (.int (l + s)), x8, x9, x10, x11, x12]) := by
  have e1 : aCons (mOp2 gAdd (.sl 6) (.ev (mC (.int 1)))) (aCons (mV 7) aNil) [z0, z1, some (.dit .own kn), some (.lst .own ods), x4, some (.int s), some (.int l), some (.int (l + s)), x8, x9, x10, x11, x12] = some (.ok [.int ((l : Int) + 1), .int ((l : Int) + s)], [z0, z1, some (.dit .own kn), some (.lst .own ods), x4, some (.int s), some (.int l), some (.int (l + s)), x8, x9, x10, x11, x12]) := rfl
  unfold iRng
  rw [e1, bnd_ok, rng_r hn h1 hl]
  rfl
theorem low_ok {z0 z1 x4 x7 x8 x9 x10 x11 x12 : Option D} {kn : List (List Key × D)} {ods : List D} {od : Nat → Bool} {n s l : Nat} (hn : n ≤ 24) (h1 : 1 ≤ s) (hl : l + s < n) (ho : ∀ i, i < n → gIx (.lst .own ods) (.int i) = some (.int (b2i (od i)))) (hk : Kno od n s l kn) :
    ∃ kn' y7 y8 y9 y10 y11 y12, bLow [z0, z1, some (.dit .own kn), some (.lst .own ods), x4, some (.int s), some (.int l), x7, x8, x9, x10, x11, x12] = some (.nx, [z0, z1, some (.dit .own kn'), some (.lst .own ods), x4, some (.int s), some (.int l), y7, y8, y9, y10, y11, y12]) ∧ Kno od n s (l + 1) kn' := by
  have a1 : sPar 7 8 (aCons (mOp2 gAdd (.sl 6) (.sl 5)) (aCons (mC (.dit .own [])) aNil)) [z0, z1, some (.dit .own kn), some (.lst .own ods), x4, some (.int s), some (.int l), x7, x8, x9, x10, x11, x12] = some (.nx, [z0, z1, some (.dit .own kn), some (.lst .own ods), x4, some (.int s), some (.int l), some (.int (l + s)), some (.dit .own []), x9, x10, x11, x12]) := by
    simp only [finM_ret, finM_nx, finM_err, finI_ret, sRet, sRetN, sEx, andThen, sAs, sSeq, sIf, sNx, sPar, sPar3, sRaise, mIf, bIf, bAnd, bOr, bNot, tVal, tTru, tTru2, asB, truD, mOp2, mOp, mC, mV, mMv, rd, mCBV, mCB, mCall, mCallI, mFz, mNeg, mTup, mLst, aCons, aNil, mAndV, mOrV, mNotV, mSl, oNone, oSome, gSl,
  bnd_ok, bnd_er, got_ok, gNm, gTp, gsCons, gsNil, gSubL, mMut, fApp, fPop, iVal, iRng, rngD1, rngD2, itemsD, mCh, cLast, cLink, tYesD,
  List.map_cons, List.map_nil, List.length_cons, List.length_nil, List.replicate, List.cons_append, List.nil_append, List.append_nil, List.getElem?_cons_zero, List.getElem?_cons_succ, List.set_cons_zero, List.set_cons_succ, Option.map_some, Option.join_some, Option.isSome_some, Option.bind_some,
  noOwn_int, noOwn_bl, noOwn_str, noOwn_non, noOwn_ty, noOwn_lst, noOwn_tup, noOwn_dit, noOwns_nil, noOwns_cons, noOwns_ints, fz_int, fz_bl, fz_str, fz_non, if_true, if_false, Bool.and_self, Bool.and_true, Bool.true_and, Bool.false_and, Bool.and_false, decide_true, decide_false, Bool.false_eq_true,
  gAdd_int, gSub_int, gLt_int, gLe_int, gGt_int, gGe_int, gEqA_int, gNeA_int, gEqA_str, gNeA_str, gLen, gInt, gAbs, gSum, intsOf_map, reduceCtorEq, ne_eq, not_false_eq_true, not_true_eq_false, and_self, and_true, true_and, and_false, false_and, Nat.reduceAdd, Nat.reduceSub, Nat.reduceMul, Nat.reduceLT, Nat.reduceLeDiff, Nat.zero_add, Int.reduceNeg, Int.reduceLT, Int.reduceLE, Int.reduceAdd, Int.reduceSub, Int.reduceMul, Int.reduceEq, Int.reduceNe]
  have a2 := a2_ok (z0 := z0) (z1 := z1) (x4 := x4) (x9 := x9) (x10 := x10) (x11 := x11) (x12 := x12) (kn := kn) (ods := ods) (s := s) (l := l)
  have a3 : iRng rngD2 (aCons (mOp2 gAdd (.sl 6) (.ev (mC (.int 1)))) (aCons (mV 7) aNil)) [z0, z1, some (.dit .own kn), some (.lst .own ods), x4, some (.int s), some (.int l), some (.int (l + s)), some (.dit .own (encT (m0 s))), x9, x10, x11, x12] = some (.ok (rangeD (l + 1) 1 (s - 1)), [z0, z1, some (.dit .own kn), some (.lst .own ods), x4, some (.int s), some (.int l), some (.int (l + s)), some (.dit .own (encT (m0 s))), x9, x10, x11, x12]) := rng_ok hn h1 hl
  obtain ⟨S', a4, m, y9, y10, y11, y12, rfl, hm, hkeys, htot⟩ := forL_range (g := gNm 9) (b := bMid) (lo := (l : Int) + 1) (n := s - 1) (fun j T => ∃ m y9 y10 y11 y12, T = [z0, z1, some (.dit .own kn), some (.lst .own ods), x4, some (.int s), some (.int l), some (.int (l + s)), some (.dit .own (encT m)), y9, y10, y11, y12] ∧ Ok m ∧ (∀ k : Ky, k ∈ m.map (·.1) ↔ k ∈ (m0 s).map (·.1) ∨ P2 od s l j k) ∧ tot m ≤ tot (m0 s) + sumC s j)
    (fun j T hj ⟨m, y9, y10, y11, y12, hT, hm, hkeys, htot⟩ => by
      subst hT
      obtain ⟨M1, v1, o1, kk1, t1⟩ := hk.dn (j + 1) l (by omega) (.inl ⟨by omega, by omega⟩)
      obtain ⟨M2, v2, o2, kk2, t2⟩ := hk.dn (s - (j + 1)) (l + (j + 1)) (by omega) (.inl ⟨by omega, by omega⟩)
      rw [show (l : Int) + ((j + 1 : Nat) : Int) = (l : Int) + 1 + j by omega] at v1
      rw [show ((l + (j + 1) : Nat) : Int) + ((s - (j + 1) : Nat) : Int) = (l : Int) + s by omega, show ((l + (j + 1) : Nat) : Int) = (l : Int) + 1 + j by omega] at v2
      have ho' := ho (l + (j + 1)) (by omega)
      rw [show ((l + (j + 1) : Nat) : Int) = (l : Int) + 1 + j by omega] at ho'
      have b1 : ∀ x ∈ M1, x.2 < 18446744073709551616 := fun x hx => Nat.lt_of_le_of_lt (Nat.le_trans (tot_mem x hx) t1) (cat_small (j + 1) (by omega))
      obtain ⟨w10, w11, w12, e⟩ := mid_ok1 (z0 := z0) (z1 := z1) (x4 := x4) (x5 := some (.int s)) (x10 := y10) (x11 := y11) (x12 := y12) hk.no v1 v2 b1 o1 o2 ho' hm
      refine ⟨_, _, rfl, e, mid (od (l + (j + 1))) M1 M2 m, _, _, _, _, rfl, mid_ok o2.pos hm o1.pos, fun k => ?_, ?_⟩
      · rw [mid_keys, hkeys k, or_assoc]
        refine or_congr_right ?_
        constructor
        · rintro (⟨i, hi, h⟩ | ⟨x, hx, y, hy, h1, h2⟩)
          · exact ⟨i, by omega, h⟩
          · refine ⟨j, by omega, x.1.2, y.1.1, ?_, ?_, h1⟩
            · rw [h2, Bool.not_not]
              exact (kk1 x.1).mp (List.mem_map.mpr ⟨x, hx, rfl⟩)
            · rw [h2, Bool.not_not]
              exact (kk2 y.1).mp (List.mem_map.mpr ⟨y, hy, rfl⟩)
        · rintro ⟨i, hi, r, r', q1, q2, q3⟩
          by_cases e : i = j
          · subst e
            obtain ⟨x, hx, ex⟩ := List.mem_map.mp ((kk1 (!k.1, r)).mpr q1)
            obtain ⟨y, hy, ey⟩ := List.mem_map.mp ((kk2 (r', !k.2)).mpr q2)
            refine .inr ⟨x, hx, y, hy, ?_, ?_⟩
            · rw [ex, ey]
              exact q3
            · rw [ex, ey, Bool.not_not, Bool.not_not]
          · exact .inl ⟨i, by omega, r, r', q1, q2, q3⟩
      · have q1 := mid_tot (o := od (l + (j + 1))) (M2 := M2) (M1 := M1) (m := m)
        have q2 : tot M1 * tot M2 ≤ cat (j + 1) * cat (s - (j + 1)) := Nat.mul_le_mul t1 t2
        have q3 : sumC s (j + 1) = sumC s j + cat (j + 1) * cat (s - (j + 1)) := rfl
        omega) (S := [z0, z1, some (.dit .own kn), some (.lst .own ods), x4, some (.int s), some (.int l), some (.int (l + s)), some (.dit .own (encT (m0 s))), x9, x10, x11, x12]) ⟨m0 s, x9, x10, x11, x12, rfl, m0_ok s, fun k => ⟨.inl, fun h => h.elim id fun ⟨i, hi, _⟩ => absurd hi (Nat.not_lt_zero _)⟩, Nat.le_add_right _ _⟩
  have hkp : ∀ k : Ky, k ∈ m.map (·.1) ↔ Kp od s l k.1 k.2 := by
    intro k
    rw [hkeys k]
    by_cases e : s = 1
    · subst e
      rw [Kp_one]
      constructor
      · rintro (h | ⟨i, hi, _⟩)
        · simp [m0] at h
          rw [h]
          exact ⟨rfl, rfl⟩
        · omega
      · rintro ⟨h1, h2⟩
        refine .inl ?_
        obtain ⟨a, b⟩ := k
        simp only at h1 h2
        subst h1 h2
        simp [m0]
    · rw [Kp_two (by omega), show (m0 s).map (·.1) = [] by simp [m0, e]]
      constructor
      · rintro (h | h)
        · cases h
        · exact h
      · exact .inr
  have htt : tot m ≤ cat s := by
    by_cases e : s = 1
    · subst e
      exact htot
    · have : tot (m0 s) = 0 := by simp [m0, e, tot]
      have := sumC_le s (by omega) (by omega)
      omega
  have lk : kn.length < 1000000 := by
    have := hk.len
    omega
  refine ⟨putD kn [.inl (l : Int), .inl ((l : Int) + (s : Int))] (.dit .frz (encT m)), some (.int (l + s)), some (.dit .frz (encT m)), y9, y10, y11, y12, ?_, noOwnT_put _ _ _ hk.no no_enc, ?_, ?_⟩
  rotate_left
  · intro s' l' h1' h2'
    by_cases e : s' = s ∧ l' = l
    · obtain ⟨rfl, rfl⟩ := e
      exact ⟨m, by rw [valD_put, if_pos rfl], hm, hkp, htt⟩
    · obtain ⟨m', q1, q2⟩ := hk.dn s' l' h1' (by omega)
      refine ⟨m', ?_, q2⟩
      rw [valD_put, if_neg, q1]
      intro h
      simp only [List.cons.injEq, Sum.inl.injEq, and_true] at h
      omega
  · have := putD_len kn [.inl (l : Int), .inl ((l : Int) + (s : Int))] (.dit .frz (encT m))
    have := hk.len
    omega
  · unfold bLow
    rw [seq_nx a1, seq_nx a2, seq_nx (for_of a3 a4), a5_ok hk.no lk]
end Fk07

set_option maxHeartbeats 4000000
namespace Fk07
open PySem PySem.Spec PyProof.Rows L2 Fx
theorem atI_neg1 {α : Type} {l : List α} (h : 0 < l.length) : L2.atI l (-1) = some (l[l.length - 1]'(by omega)) := by
  have h1 : ixN l.length (-1) = some (l.length - 1) := by
    unfold ixN
    rw [if_neg (by omega), if_pos (by omega)]
    congr 1
    omega
  unfold L2.atI
  rw [h1]
  show l[l.length - 1]? = _
  exact List.getElem?_eq_getElem _
def odd (bs : List Bool) (i : Nat) : Bool := bs.getD i false
def ods (bs : List Bool) : List D := bs.map fun b => D.int (b2i b)
theorem ods_len (bs : List Bool) : (ods bs).length = bs.length := by simp [ods]
theorem ods_at (bs : List Bool) (i : Nat) (h : i < bs.length) : gIx (.lst .own (ods bs)) (.int i) = some (.int (b2i (odd bs i))) := by
  rw [gIx_lst (k := i) (by rw [ods_len]; exact h) (by simp [ods, noOwn])]
  simp [ods, odd, h]
theorem ods_last (bs : List Bool) (h : 0 < bs.length) : gIx (.lst .own (ods bs)) (.int (-1)) = some (.int (b2i (odd bs (bs.length - 1)))) := by
  show (L2.atI (ods bs) (-1)).bind _ = _
  rw [atI_neg1 (by rw [ods_len]; exact h), Option.bind_some, if_pos (by simp [ods, noOwn])]
  have : bs.length - 1 < bs.length := by omega
  simp [ods, odd, this]
theorem size_ok {z0 x4 x6 x7 x8 x9 x10 x11 x12 : Option D} {kn : List (List Key × D)} {os : List D} {od : Nat → Bool} {n s : Nat} (hn : n ≤ 24) (h1 : 1 ≤ s) (hs : s < n) (ho : ∀ i, i < n → gIx (.lst .own os) (.int i) = some (.int (b2i (od i)))) (hk : Kno od n s 0 kn) :
    ∃ kn' y6 y7 y8 y9 y10 y11 y12, bSz [z0, some (.int n), some (.dit .own kn), some (.lst .own os), x4, some (.int s), x6, x7, x8, x9, x10, x11, x12] = some (.nx, [z0, some (.int n), some (.dit .own kn'), some (.lst .own os), x4, some (.int s), y6, y7, y8, y9, y10, y11, y12]) ∧ Kno od n (s + 1) 0 kn' := by
  have a1 : iRng rngD1 (aCons (mOp2 gSub (.sl 1) (.sl 5)) aNil) [z0, some (.int n), some (.dit .own kn), some (.lst .own os), x4, some (.int s), x6, x7, x8, x9, x10, x11, x12] = some (.ok (rangeD 0 1 (n - s)), [z0, some (.int n), some (.dit .own kn), some (.lst .own os), x4, some (.int s), x6, x7, x8, x9, x10, x11, x12]) := by
    have e1 : aCons (mOp2 gSub (.sl 1) (.sl 5)) aNil [z0, some (.int n), some (.dit .own kn), some (.lst .own os), x4, some (.int s), x6, x7, x8, x9, x10, x11, x12] = some (.ok [.int ((n : Int) - s)], [z0, some (.int n), some (.dit .own kn), some (.lst .own os), x4, some (.int s), x6, x7, x8, x9, x10, x11, x12]) := rfl
    unfold iRng
    rw [e1, bnd_ok, rngD1_int (by omega) (by omega), show ((n : Int) - s).toNat = n - s by omega]
    rfl
  obtain ⟨S', a2, kn', y6, y7, y8, y9, y10, y11, y12, rfl, hk'⟩ := forL_range (g := gNm 6) (b := bLow) (lo := 0) (n := n - s) (fun l T => ∃ kn' y6 y7 y8 y9 y10 y11 y12, T = [z0, some (.int n), some (.dit .own kn'), some (.lst .own os), x4, some (.int s), y6, y7, y8, y9, y10, y11, y12] ∧ Kno od n s l kn')
    (fun l T hl ⟨kn', y6, y7, y8, y9, y10, y11, y12, hT, hk'⟩ => by
      subst hT
      obtain ⟨k2, w7, w8, w9, w10, w11, w12, e, hk2⟩ := low_ok (z0 := z0) (z1 := some (.int n)) (x4 := x4) (x7 := y7) (x8 := y8) (x9 := y9) (x10 := y10) (x11 := y11) (x12 := y12) hn h1 (show l + s < n by omega) ho hk'
      refine ⟨[z0, some (.int n), some (.dit .own kn'), some (.lst .own os), x4, some (.int s), some (.int l), y7, y8, y9, y10, y11, y12], _, ?_, e, k2, _, _, _, _, _, _, _, rfl, hk2⟩
      rw [Int.zero_add]
      rfl) (S := [z0, some (.int n), some (.dit .own kn), some (.lst .own os), x4, some (.int s), x6, x7, x8, x9, x10, x11, x12]) ⟨kn, x6, x7, x8, x9, x10, x11, x12, rfl, hk⟩
  refine ⟨kn', y6, y7, y8, y9, y10, y11, y12, for_of a1 a2, hk'.no, fun s' l' q1 q2 => ?_, ?_⟩
  · exact hk'.dn s' l' q1 (by omega)
  · have := hk'.len
    omega
theorem oddL_ok (bs : List Bool) (hl : bs.length ≤ 24) {x1 x2 x3 x5 x6 x7 x8 x9 x10 x11 x12 : Option D} : mLc [4] (iVal (mV 0)) (gNm 4) tYesD (mCB gInt (aCons (mOp2 gEqA (.sl 4) (.ev (mC (.str "+")))) aNil)) [some (.str (mkS bs)), x1, x2, x3, none, x5, x6, x7, x8, x9, x10, x11, x12] = some (.ok (.lst .own (ods bs)), [some (.str (mkS bs)), x1, x2, x3, none, x5, x6, x7, x8, x9, x10, x11, x12]) := by
  have hm : mLc [4] (iVal (mV 0)) (gNm 4) tYesD (mCB gInt (aCons (mOp2 gEqA (.sl 4) (.ev (mC (.str "+")))) aNil)) [some (.str (mkS bs)), x1, x2, x3, none, x5, x6, x7, x8, x9, x10, x11, x12] = some (.ok (.lst .own ((bs.map fun b => D.str (sg b)).map fun d => match d with | .str s => .int (b2i (decide (s.cps.getD 0 0 = 43))) | _ => .non)), [some (.str (mkS bs)), x1, x2, x3, none, x5, x6, x7, x8, x9, x10, x11, x12]) := by
    refine mLc_map (ds := bs.map fun b => D.str (sg b)) _ (by simp only [finM_ret, finM_nx, finM_err, finI_ret, sRet, sRetN, sEx, andThen, sAs, sSeq, sIf, sNx, sPar, sPar3, sRaise, mIf, bIf, bAnd, bOr, bNot, tVal, tTru, tTru2, asB, truD, mOp2, mOp, mC, mV, mMv, rd, mCBV, mCB, mCall, mCallI, mFz, mNeg, mTup, mLst, aCons, aNil, mAndV, mOrV, mNotV, mSl, oNone, oSome, gSl,
  bnd_ok, bnd_er, got_ok, gNm, gTp, gsCons, gsNil, gSubL, mMut, fApp, fPop, iVal, iRng, rngD1, rngD2, itemsD, mCh, cLast, cLink, tYesD,
  List.map_cons, List.map_nil, List.length_cons, List.length_nil, List.replicate, List.cons_append, List.nil_append, List.append_nil, List.getElem?_cons_zero, List.getElem?_cons_succ, List.set_cons_zero, List.set_cons_succ, Option.map_some, Option.join_some, Option.isSome_some, Option.bind_some,
  noOwn_int, noOwn_bl, noOwn_str, noOwn_non, noOwn_ty, noOwn_lst, noOwn_tup, noOwn_dit, noOwns_nil, noOwns_cons, noOwns_ints, fz_int, fz_bl, fz_str, fz_non, if_true, if_false, Bool.and_self, Bool.and_true, Bool.true_and, Bool.false_and, Bool.and_false, decide_true, decide_false, Bool.false_eq_true,
  gAdd_int, gSub_int, gLt_int, gLe_int, gGt_int, gGe_int, gEqA_int, gNeA_int, gEqA_str, gNeA_str, gLen, gInt, gAbs, gSum, intsOf_map, reduceCtorEq, ne_eq, not_false_eq_true, not_true_eq_false, and_self, and_true, true_and, and_false, false_and, Nat.reduceAdd, Nat.reduceSub, Nat.reduceMul, Nat.reduceLT, Nat.reduceLeDiff, Nat.zero_add, Int.reduceNeg, Int.reduceLT, Int.reduceLE, Int.reduceAdd, Int.reduceSub, Int.reduceMul, Int.reduceEq, Int.reduceNe, signs_mkS]) rfl (fun d hd => ?_) ?_ rfl
    · obtain ⟨b, hb, rfl⟩ := List.mem_map.mp hd
      refine ⟨[some (.str (mkS bs)), x1, x2, x3, some (.str (sg b)), x5, x6, x7, x8, x9, x10, x11, x12], [some (.str (mkS bs)), x1, x2, x3, some (.str (sg b)), x5, x6, x7, x8, x9, x10, x11, x12], rfl, ?_, rfl⟩
      have e : gEqA (.str (sg b)) (.str "+") = some (.bl b) := by rw [gEqA_str, sg_plus]
      cases b <;> simp only [finM_ret, finM_nx, finM_err, finI_ret, sRet, sRetN, sEx, andThen, sAs, sSeq, sIf, sNx, sPar, sPar3, sRaise, mIf, bIf, bAnd, bOr, bNot, tVal, tTru, tTru2, asB, truD, mOp2, mOp, mC, mV, mMv, rd, mCBV, mCB, mCall, mCallI, mFz, mNeg, mTup, mLst, aCons, aNil, mAndV, mOrV, mNotV, mSl, oNone, oSome, gSl,
  bnd_ok, bnd_er, got_ok, gNm, gTp, gsCons, gsNil, gSubL, mMut, fApp, fPop, iVal, iRng, rngD1, rngD2, itemsD, mCh, cLast, cLink, tYesD,
  List.map_cons, List.map_nil, List.length_cons, List.length_nil, List.replicate, List.cons_append, List.nil_append, List.append_nil, List.getElem?_cons_zero, List.getElem?_cons_succ, List.set_cons_zero, List.set_cons_succ, Option.map_some, Option.join_some, Option.isSome_some, Option.bind_some,
  noOwn_int, noOwn_bl, noOwn_str, noOwn_non, noOwn_ty, noOwn_lst, noOwn_tup, noOwn_dit, noOwns_nil, noOwns_cons, noOwns_ints, fz_int, fz_bl, fz_str, fz_non, if_true, if_false, Bool.and_self, Bool.and_true, Bool.true_and, Bool.false_and, Bool.and_false, decide_true, decide_false, Bool.false_eq_true,
  gAdd_int, gSub_int, gLt_int, gLe_int, gGt_int, gGe_int, gEqA_int, gNeA_int, gEqA_str, gNeA_str, gLen, gInt, gAbs, gSum, intsOf_map, reduceCtorEq, ne_eq, not_false_eq_true, not_true_eq_false, and_self, and_true, true_and, and_false, false_and, Nat.reduceAdd, Nat.reduceSub, Nat.reduceMul, Nat.reduceLT, Nat.reduceLeDiff, Nat.zero_add, Int.reduceNeg, Int.reduceLT, Int.reduceLE, Int.reduceAdd, Int.reduceSub, Int.reduceMul, Int.reduceEq, Int.reduceNe, e] <;> rfl
    · simp only [List.length_map]
      omega
  have hf : ((bs.map fun b => D.str (sg b)).map fun d => match d with | .str s => D.int (b2i (decide (s.cps.getD 0 0 = 43))) | _ => .non) = ods bs := by
    rw [List.map_map]
    unfold ods
    apply List.map_congr_left
    intro b _
    cases b <;> rfl
  rw [hf] at hm
  exact hm
theorem ret_ok {x0 x4 x5 x6 x7 x8 x9 x10 x11 x12 : Option D} {kn : List (List Key × D)} {bs : List Bool} {m : Tm} (hk : noOwnT kn = true) (h : valD kn [.inl 0, .inl ((bs.length : Int) - 1)] = some (.dit .frz (encT m))) (h0 : 0 < bs.length) :
    sRet (mGet2 (.ev (mOp2 gDx (.sl 2) (.ev (mTup (aCons (mC (.int 0)) (aCons (mOp2 gSub (.sl 1) (.ev (mC (.int 1)))) aNil)))))) (mTup (aCons (mOp2 gIx (.sl 3) (.ev (mC (.int 0)))) (aCons (mOp2 gIx (.sl 3) (.ev (mNeg (mC (.int 1))))) aNil))) (mC (.int 0))) [x0, some (.int bs.length), some (.dit .own kn), some (.lst .own (ods bs)), x4, x5, x6, x7, x8, x9, x10, x11, x12]
    = some (.ret (.int ((lkM m (odd bs 0, odd bs (bs.length - 1))).getD 0 : Nat)), [x0, some (.int bs.length), some (.dit .own kn), some (.lst .own (ods bs)), x4, x5, x6, x7, x8, x9, x10, x11, x12]) := by
  have e1 : mOp2 gDx (.sl 2) (.ev (mTup (aCons (mC (.int 0)) (aCons (mOp2 gSub (.sl 1) (.ev (mC (.int 1)))) aNil)))) [x0, some (.int bs.length), some (.dit .own kn), some (.lst .own (ods bs)), x4, x5, x6, x7, x8, x9, x10, x11, x12] = some (.ok (.dit .frz (encT m)), [x0, some (.int bs.length), some (.dit .own kn), some (.lst .own (ods bs)), x4, x5, x6, x7, x8, x9, x10, x11, x12]) := by
    have := dx_kn (o := .own) hk h
    simp only [finM_ret, finM_nx, finM_err, finI_ret, sRet, sRetN, sEx, andThen, sAs, sSeq, sIf, sNx, sPar, sPar3, sRaise, mIf, bIf, bAnd, bOr, bNot, tVal, tTru, tTru2, asB, truD, mOp2, mOp, mC, mV, mMv, rd, mCBV, mCB, mCall, mCallI, mFz, mNeg, mTup, mLst, aCons, aNil, mAndV, mOrV, mNotV, mSl, oNone, oSome, gSl,
  bnd_ok, bnd_er, got_ok, gNm, gTp, gsCons, gsNil, gSubL, mMut, fApp, fPop, iVal, iRng, rngD1, rngD2, itemsD, mCh, cLast, cLink, tYesD,
  List.map_cons, List.map_nil, List.length_cons, List.length_nil, List.replicate, List.cons_append, List.nil_append, List.append_nil, List.getElem?_cons_zero, List.getElem?_cons_succ, List.set_cons_zero, List.set_cons_succ, Option.map_some, Option.join_some, Option.isSome_some, Option.bind_some,
  noOwn_int, noOwn_bl, noOwn_str, noOwn_non, noOwn_ty, noOwn_lst, noOwn_tup, noOwn_dit, noOwns_nil, noOwns_cons, noOwns_ints, fz_int, fz_bl, fz_str, fz_non, if_true, if_false, Bool.and_self, Bool.and_true, Bool.true_and, Bool.false_and, Bool.and_false, decide_true, decide_false, Bool.false_eq_true,
  gAdd_int, gSub_int, gLt_int, gLe_int, gGt_int, gGe_int, gEqA_int, gNeA_int, gEqA_str, gNeA_str, gLen, gInt, gAbs, gSum, intsOf_map, reduceCtorEq, ne_eq, not_false_eq_true, not_true_eq_false, and_self, and_true, true_and, and_false, false_and, Nat.reduceAdd, Nat.reduceSub, Nat.reduceMul, Nat.reduceLT, Nat.reduceLeDiff, Nat.zero_add, Int.reduceNeg, Int.reduceLT, Int.reduceLE, Int.reduceAdd, Int.reduceSub, Int.reduceMul, Int.reduceEq, Int.reduceNe, this]
  have e2 := ods_at bs 0 h0
  rw [Int.natCast_zero] at e2
  have e3 := ods_last bs h0
  have e4 : mTup (aCons (mOp2 gIx (.sl 3) (.ev (mC (.int 0)))) (aCons (mOp2 gIx (.sl 3) (.ev (mNeg (mC (.int 1))))) aNil)) [x0, some (.int bs.length), some (.dit .own kn), some (.lst .own (ods bs)), x4, x5, x6, x7, x8, x9, x10, x11, x12] = some (.ok (.tup false [.int (b2i (odd bs 0)), .int (b2i (odd bs (bs.length - 1)))]), [x0, some (.int bs.length), some (.dit .own kn), some (.lst .own (ods bs)), x4, x5, x6, x7, x8, x9, x10, x11, x12]) := by
    simp only [finM_ret, finM_nx, finM_err, finI_ret, sRet, sRetN, sEx, andThen, sAs, sSeq, sIf, sNx, sPar, sPar3, sRaise, mIf, bIf, bAnd, bOr, bNot, tVal, tTru, tTru2, asB, truD, mOp2, mOp, mC, mV, mMv, rd, mCBV, mCB, mCall, mCallI, mFz, mNeg, mTup, mLst, aCons, aNil, mAndV, mOrV, mNotV, mSl, oNone, oSome, gSl,
  bnd_ok, bnd_er, got_ok, gNm, gTp, gsCons, gsNil, gSubL, mMut, fApp, fPop, iVal, iRng, rngD1, rngD2, itemsD, mCh, cLast, cLink, tYesD,
  List.map_cons, List.map_nil, List.length_cons, List.length_nil, List.replicate, List.cons_append, List.nil_append, List.append_nil, List.getElem?_cons_zero, List.getElem?_cons_succ, List.set_cons_zero, List.set_cons_succ, Option.map_some, Option.join_some, Option.isSome_some, Option.bind_some,
  noOwn_int, noOwn_bl, noOwn_str, noOwn_non, noOwn_ty, noOwn_lst, noOwn_tup, noOwn_dit, noOwns_nil, noOwns_cons, noOwns_ints, fz_int, fz_bl, fz_str, fz_non, if_true, if_false, Bool.and_self, Bool.and_true, Bool.true_and, Bool.false_and, Bool.and_false, decide_true, decide_false, Bool.false_eq_true,
  gAdd_int, gSub_int, gLt_int, gLe_int, gGt_int, gGe_int, gEqA_int, gNeA_int, gEqA_str, gNeA_str, gLen, gInt, gAbs, gSum, intsOf_map, reduceCtorEq, ne_eq, not_false_eq_true, not_true_eq_false, and_self, and_true, true_and, and_false, false_and, Nat.reduceAdd, Nat.reduceSub, Nat.reduceMul, Nat.reduceLT, Nat.reduceLeDiff, Nat.zero_add, Int.reduceNeg, Int.reduceLT, Int.reduceLE, Int.reduceAdd, Int.reduceSub, Int.reduceMul, Int.reduceEq, Int.reduceNe, e2, e3]
  have e5 := get_enc (o := .frz) m (odd bs 0, odd bs (bs.length - 1))
  simp only at e5
  have e6 : ((lkM m (odd bs 0, odd bs (bs.length - 1))).map fun n => D.int n).getD (.int 0) = .int ((lkM m (odd bs 0, odd bs (bs.length - 1))).getD 0 : Nat) := by cases lkM m (odd bs 0, odd bs (bs.length - 1)) <;> rfl
  have n1 := no_enc (m := m)
  have n2 : noOwn (.tup false [.int (b2i (odd bs 0)), .int (b2i (odd bs (bs.length - 1)))]) = true := by simp [noOwn, noOwns]
  have e7 : mGet2 (.ev (mOp2 gDx (.sl 2) (.ev (mTup (aCons (mC (.int 0)) (aCons (mOp2 gSub (.sl 1) (.ev (mC (.int 1)))) aNil)))))) (mTup (aCons (mOp2 gIx (.sl 3) (.ev (mC (.int 0)))) (aCons (mOp2 gIx (.sl 3) (.ev (mNeg (mC (.int 1))))) aNil))) (mC (.int 0)) [x0, some (.int bs.length), some (.dit .own kn), some (.lst .own (ods bs)), x4, x5, x6, x7, x8, x9, x10, x11, x12] = some (.ok (.int ((lkM m (odd bs 0, odd bs (bs.length - 1))).getD 0 : Nat)), [x0, some (.int bs.length), some (.dit .own kn), some (.lst .own (ods bs)), x4, x5, x6, x7, x8, x9, x10, x11, x12]) := by
    show bnd (mOp2 gDx (.sl 2) (.ev (mTup (aCons (mC (.int 0)) (aCons (mOp2 gSub (.sl 1) (.ev (mC (.int 1)))) aNil)))) _) _ = _
    rw [e1, bnd_ok, if_pos ⟨rfl, n1⟩, e4, bnd_ok, if_pos n2]
    show bnd (some (.ok (D.int 0), _)) _ = _
    rw [bnd_ok, if_pos noOwn_int, e5, Option.map_some, e6]
    rfl
  unfold sRet
  rw [andThen_ok e7]
theorem lk_none {m : Tm} {k : Ky} (h : k ∉ m.map (·.1)) : lkM m k = none := by
  induction m with
  | nil => rfl
  | cons y m ih =>
    obtain ⟨a, c⟩ := y
    simp only [List.map_cons, List.mem_cons, not_or] at h
    simp only [lkM]
    rw [if_neg fun z => h.1 z.symm]
    exact ih h.2
theorem lk_pos {m : Tm} (h : Ok m) (k : Ky) : 0 < (lkM m k).getD 0 ↔ k ∈ m.map (·.1) := by
  constructor
  · intro h1
    refine Decidable.byContradiction fun h2 => ?_
    rw [lk_none h2] at h1
    exact absurd h1 (Nat.lt_irrefl 0)
  · intro h1
    obtain ⟨x, hx, rfl⟩ := List.mem_map.mp h1
    rw [lk_mem h.nd x hx]
    exact h.pos x hx
theorem counted_ok (bs : List Bool) (h3 : 3 ≤ bs.length) (h24 : bs.length ≤ 24) : ∃ c : Nat, m__law_counted [.str (mkS bs)] = some (.ok (.int c), none) ∧ decide (0 < (c : Int)) = fits bs := by
  have a1 : sPar 1 2 (aCons (mCBV 0 gLen aNil) (aCons (mC (.dit .own [])) aNil)) [some (.str (mkS bs)), none, none, none, none, none, none, none, none, none, none, none, none] = some (.nx, [some (.str (mkS bs)), some (.int bs.length), some (.dit .own []), none, none, none, none, none, none, none, none, none, none]) := by
    have hl : bs.length ≤ 1000000 := by omega
    simp only [finM_ret, finM_nx, finM_err, finI_ret, sRet, sRetN, sEx, andThen, sAs, sSeq, sIf, sNx, sPar, sPar3, sRaise, mIf, bIf, bAnd, bOr, bNot, tVal, tTru, tTru2, asB, truD, mOp2, mOp, mC, mV, mMv, rd, mCBV, mCB, mCall, mCallI, mFz, mNeg, mTup, mLst, aCons, aNil, mAndV, mOrV, mNotV, mSl, oNone, oSome, gSl,
  bnd_ok, bnd_er, got_ok, gNm, gTp, gsCons, gsNil, gSubL, mMut, fApp, fPop, iVal, iRng, rngD1, rngD2, itemsD, mCh, cLast, cLink, tYesD,
  List.map_cons, List.map_nil, List.length_cons, List.length_nil, List.replicate, List.cons_append, List.nil_append, List.append_nil, List.getElem?_cons_zero, List.getElem?_cons_succ, List.set_cons_zero, List.set_cons_succ, Option.map_some, Option.join_some, Option.isSome_some, Option.bind_some,
  noOwn_int, noOwn_bl, noOwn_str, noOwn_non, noOwn_ty, noOwn_lst, noOwn_tup, noOwn_dit, noOwns_nil, noOwns_cons, noOwns_ints, fz_int, fz_bl, fz_str, fz_non, if_true, if_false, Bool.and_self, Bool.and_true, Bool.true_and, Bool.false_and, Bool.and_false, decide_true, decide_false, Bool.false_eq_true,
  gAdd_int, gSub_int, gLt_int, gLe_int, gGt_int, gGe_int, gEqA_int, gNeA_int, gEqA_str, gNeA_str, gLen, gInt, gAbs, gSum, intsOf_map, reduceCtorEq, ne_eq, not_false_eq_true, not_true_eq_false, and_self, and_true, true_and, and_false, false_and, Nat.reduceAdd, Nat.reduceSub, Nat.reduceMul, Nat.reduceLT, Nat.reduceLeDiff, Nat.zero_add, Int.reduceNeg, Int.reduceLT, Int.reduceLE, Int.reduceAdd, Int.reduceSub, Int.reduceMul, Int.reduceEq, Int.reduceNe, hl, mkS_len]
  have a2 := oddL_ok bs h24 (x1 := some (.int bs.length)) (x2 := some (.dit .own [])) (x3 := none) (x5 := none) (x6 := none) (x7 := none) (x8 := none) (x9 := none) (x10 := none) (x11 := none) (x12 := none)
  have a3 : iRng rngD2 (aCons (mC (.int 1)) (aCons (mV 1) aNil)) [some (.str (mkS bs)), some (.int bs.length), some (.dit .own []), some (.lst .own (ods bs)), none, none, none, none, none, none, none, none, none] = some (.ok (rangeD 1 1 (bs.length - 1)), [some (.str (mkS bs)), some (.int bs.length), some (.dit .own []), some (.lst .own (ods bs)), none, none, none, none, none, none, none, none, none]) := by
    have e1 : aCons (mC (.int 1)) (aCons (mV 1) aNil) [some (.str (mkS bs)), some (.int bs.length), some (.dit .own []), some (.lst .own (ods bs)), none, none, none, none, none, none, none, none, none] = some (.ok [.int 1, .int bs.length], [some (.str (mkS bs)), some (.int bs.length), some (.dit .own []), some (.lst .own (ods bs)), none, none, none, none, none, none, none, none, none]) := rfl
    unfold iRng
    rw [e1, bnd_ok, rngD2_int (by omega) (by omega) (by omega) (by omega), show ((bs.length : Int) - 1).toNat = bs.length - 1 by omega]
    rfl
  have k0 : Kno (odd bs) bs.length 1 0 [] := ⟨rfl, fun s' l' h1 h2 => by omega, Nat.zero_le _⟩
  obtain ⟨S', a4, kn, y5, y6, y7, y8, y9, y10, y11, y12, rfl, hk⟩ := forL_range (g := gNm 5) (b := bSz) (lo := 1) (n := bs.length - 1) (fun j T => ∃ kn y5 y6 y7 y8 y9 y10 y11 y12, T = [some (.str (mkS bs)), some (.int bs.length), some (.dit .own kn), some (.lst .own (ods bs)), none, y5, y6, y7, y8, y9, y10, y11, y12] ∧ Kno (odd bs) bs.length (j + 1) 0 kn)
    (fun j T hj ⟨kn, y5, y6, y7, y8, y9, y10, y11, y12, hT, hk⟩ => by
      subst hT
      obtain ⟨k2, w6, w7, w8, w9, w10, w11, w12, e, hk2⟩ := size_ok (z0 := some (.str (mkS bs))) (x4 := none) (x6 := y6) (x7 := y7) (x8 := y8) (x9 := y9) (x10 := y10) (x11 := y11) (x12 := y12) h24 (Nat.le_add_left 1 j) (show j + 1 < bs.length by omega) (ods_at bs) hk
      refine ⟨[some (.str (mkS bs)), some (.int bs.length), some (.dit .own kn), some (.lst .own (ods bs)), none, some (.int (j + 1 : Nat)), y6, y7, y8, y9, y10, y11, y12], _, ?_, e, k2, _, _, _, _, _, _, _, _, rfl, hk2⟩
      rw [show (1 : Int) + j = ((j + 1 : Nat) : Int) by omega]
      rfl) (S := [some (.str (mkS bs)), some (.int bs.length), some (.dit .own []), some (.lst .own (ods bs)), none, none, none, none, none, none, none, none, none]) ⟨[], none, none, none, none, none, none, none, none, rfl, k0⟩
  obtain ⟨m, v, hm, hkeys, _⟩ := hk.dn (bs.length - 1) 0 (by omega) (.inl ⟨by omega, by omega⟩)
  rw [show ((0 : Nat) : Int) + ((bs.length - 1 : Nat) : Int) = (bs.length : Int) - 1 by omega, Int.natCast_zero] at v
  have a5 := ret_ok (x0 := some (.str (mkS bs))) (x4 := none) (x5 := y5) (x6 := y6) (x7 := y7) (x8 := y8) (x9 := y9) (x10 := y10) (x11 := y11) (x12 := y12) hk.no v (by omega)
  refine ⟨(lkM m (odd bs 0, odd bs (bs.length - 1))).getD 0, ?_, ?_⟩
  · rw [u__law_counted, counted_eq, seq_nx a1, seq_nx (S1 := [some (.str (mkS bs)), some (.int bs.length), some (.dit .own []), some (.lst .own (ods bs)), none, none, none, none, none, none, none, none, none]) (by unfold sAs; rw [andThen_ok a2]; rfl), seq_nx (for_of a3 a4), a5]
    rfl
  · have q := fits_iff bs h3
    unfold fits hasP
    rw [Bool.eq_iff_iff]
    simp only [decide_eq_true_eq, Bool.and_eq_true]
    rw [← q]
    have r1 := hkeys (odd bs 0, odd bs (bs.length - 1))
    have r2 := lk_pos hm (odd bs 0, odd bs (bs.length - 1))
    refine Iff.trans ?_ (Iff.trans (r2.trans r1) Iff.rfl)
    omega
end Fk07

set_option maxHeartbeats 4000000
namespace Fk07
open PySem PySem.Spec PyProof.Rows L2 Fx
mutual
def lkB : D → D → Bool
  | .non, .non => true
  | .bl a, .bl b => decide (a = b)
  | .int a, .int b => decide (a = b)
  | .str a, .str b => decide (a = b)
  | .dit _ k, .dit _ k' => k.isEmpty && k'.isEmpty
  | .lst _ ds, .lst _ es => lksB ds es
  | .tup _ ds, .tup _ es => lksB ds es
  | _, _ => false
def lksB : List D → List D → Bool
  | [], [] => true
  | d :: ds, e :: es => lkB d e && lksB ds es
  | _, _ => false
end
mutual
def szD : D → Nat
  | .lst _ ds => 1 + szs ds
  | .tup _ ds => 1 + szs ds
  | _ => 1
def szs : List D → Nat
  | [] => 0
  | d :: ds => szD d + szs ds
end
theorem szD_pos (d : D) : 1 ≤ szD d := by cases d <;> simp [szD]
theorem szs_len : ∀ ds : List D, ds.length ≤ szs ds
  | [] => Nat.le_refl _
  | d :: ds => by
    have := szs_len ds
    have := szD_pos d
    simp only [List.length_cons, szs]
    omega
theorem lks_len : ∀ {ds es : List D}, lksB ds es = true → ds.length = es.length
  | [], [], _ => rfl
  | [], e :: es, h => by simp [lksB] at h
  | d :: ds, [], h => by simp [lksB] at h
  | d :: ds, e :: es, h => by
    simp only [lksB, Bool.and_eq_true] at h
    simp only [List.length_cons, lks_len h.2]
noncomputable def likeIf : SM := (sIf (bOr (tVal (mOp2 (gIs fun b => b) (.sl 4) (.ev (mC .non)))) (tTru2 (.ev (mCBV 4 gIsi (aCons (mC (.ty "bool")) aNil)))))
 (sIf (bNot (bIf (tVal (mOp2 (gIs fun b => b) (.sl 4) (.ev (mC .non)))) (tVal (mOp2 (gIs fun b => b) (.sl 3) (.ev (mC .non)))) (bIf (tTru2 (.sl 4)) (tVal (mOp2 (gIs fun b => b) (.sl 3) (.ev (mC (.bl true))))) (tVal (mOp2 (gIs fun b => b) (.sl 3) (.ev (mC (.bl false))))))))
 (sRet (mC (.bl false)))
 sNx)
 (sIf (tTru2 (.ev (mCBV 4 gIsi (aCons (mC (.ty "int")) aNil))))
 (sIf (bOr (bNot (tTru2 (.ev (mCBV 3 gIsi (aCons (mC (.ty "int")) aNil))))) (bOr (tTru2 (.ev (mCBV 3 gIsi (aCons (mC (.ty "bool")) aNil)))) (tVal (mOp2 gNeA (.sl 3) (.sl 4)))))
 (sRet (mC (.bl false)))
 sNx)
 (sIf (tTru2 (.ev (mCBV 4 gIsi (aCons (mC (.ty "str")) aNil))))
 (sIf (bOr (bNot (tTru2 (.ev (mCBV 3 gIsi (aCons (mC (.ty "str")) aNil))))) (tVal (mOp2 gNeA (.sl 3) (.sl 4))))
 (sRet (mC (.bl false)))
 sNx)
 (sIf (tTru2 (.ev (mCBV 4 gIsi (aCons (mC (.ty "dict")) aNil))))
 (sSeq (sIf (bOr (bNot (tTru2 (.ev (mCBV 3 gIsi (aCons (mC (.ty "dict")) aNil))))) (tVal (mOp2 gNeA (.ev (mCBV 3 gLen aNil)) (.ev (mCBV 4 gLen aNil)))))
 (sRet (mC (.bl false)))
 sNx) (sFor (iVal (mCBV 4 gList aNil)) (gNm 5)
 sNo))
 (sSeq (sIf (bOr (bNot (tTru2 (.ev (mCBV 4 gIsi (aCons (mTup (aCons (mC (.ty "list")) (aCons (mC (.ty "tuple")) aNil))) aNil))))) (bOr (bNot (tTru2 (.ev (mCBV 3 gIsi (aCons (mTup (aCons (mC (.ty "list")) (aCons (mC (.ty "tuple")) aNil))) aNil))))) (bOr (tVal (mOp2 gNeA (.ev (mCBV 3 gIsi (aCons (mC (.ty "list")) aNil))) (.ev (mCBV 4 gIsi (aCons (mC (.ty "list")) aNil))))) (tVal (mOp2 gNeA (.ev (mCBV 3 gLen aNil)) (.ev (mCBV 4 gLen aNil)))))))
 (sRet (mC (.bl false)))
 sNx) (sAs (mOp2 gAdd (.sl 2) (.ev (mLc [6] (iRng rngD1 (aCons (mCBV 4 gLen aNil) aNil)) (gNm 6) tYesD (mTup (aCons (mOp2 gIx (.sl 3) (.sl 6)) (aCons (mOp2 gIx (.sl 4) (.sl 6)) aNil)))))) (gNm 2)))))))
theorem like_eq : b__law_like = (sSeq (sAs (mLst (aCons (mTup (aCons (mV 0) (aCons (mV 1) aNil))) aNil)) (gNm 2)) (sSeq (sWh (tVal (mOp2 gNeA (.sl 2) (.ev (mLst aNil))))
 (sSeq (sAs (mMut 2 fPop aNil) (gTp (gsCons (gNm 3) (gsCons (gNm 4) gsNil)))) likeIf)) (sRet (mC (.bl true))))) := rfl
theorem isi_ok {d : D} {t c : String} (h : tyN d = some t) (hc : c ∈ tysN) : gIsi [d, .ty c] = some (.bl (isiB t c)) := by
  show (if c ∈ tysN then (tyN d).map fun t => D.bl (isiB t c) else none) = _
  rw [if_pos hc, h]
  rfl
theorem isi2_ok {d : D} {t : String} (h : tyN d = some t) : gIsi [d, .tup false [.ty "list", .ty "tuple"]] = some (.bl (isiB t "list" || isiB t "tuple")) := by
  show (match tyN d, tyNs [.ty "list", .ty "tuple"] with
    | some t, some ns => some (D.bl (ns.any fun c => isiB t c))
    | _, _ => none) = _
  rw [h, show tyNs [.ty "list", .ty "tuple"] = some ["list", "tuple"] from rfl]
  simp
theorem gNeA_bl {i j : Bool} : gNeA (.bl i) (.bl j) = some (.bl (!decide (i = j))) := by
  rw [gNeA_flat (by simp [okPy]) rfl]
  cases i <;> cases j <;> rfl
section
variable {a b d e : D} {td : List D} {x5 : Option D}
theorem lk_non  : likeIf [some a, some b, some (.lst .own (td)), some (.non), some (.non), x5, none] = some (.nx, [some a, some b, some (.lst .own (td)), some (.non), some (.non), x5, none]) := by
  have e_bool : gIsi [.non, .ty "bool"] = some (.bl false) := isi_ok (t := "NoneType") rfl (by decide)
  have e_int : gIsi [.non, .ty "int"] = some (.bl false) := isi_ok (t := "NoneType") rfl (by decide)
  have e_str : gIsi [.non, .ty "str"] = some (.bl false) := isi_ok (t := "NoneType") rfl (by decide)
  have e_dict : gIsi [.non, .ty "dict"] = some (.bl false) := isi_ok (t := "NoneType") rfl (by decide)
  simp only [finM_ret, finM_nx, finM_err, finI_ret, sRet, sRetN, sEx, andThen, sAs, sSeq, sIf, sNx, sPar, sPar3, sRaise, mIf, bIf, bAnd, bOr, bNot, tVal, tTru, tTru2, asB, truD, mOp2, mOp, mC, mV, mMv, rd, mCBV, mCB, mCall, mCallI, mFz, mNeg, mTup, mLst, aCons, aNil, mAndV, mOrV, mNotV, mSl, oNone, oSome, gSl,
  bnd_ok, bnd_er, got_ok, gNm, gTp, gsCons, gsNil, gSubL, mMut, fApp, fPop, iVal, iRng, rngD1, rngD2, itemsD, mCh, cLast, cLink, tYesD,
  List.map_cons, List.map_nil, List.length_cons, List.length_nil, List.replicate, List.cons_append, List.nil_append, List.append_nil, List.getElem?_cons_zero, List.getElem?_cons_succ, List.set_cons_zero, List.set_cons_succ, Option.map_some, Option.join_some, Option.isSome_some, Option.bind_some,
  noOwn_int, noOwn_bl, noOwn_str, noOwn_non, noOwn_ty, noOwn_lst, noOwn_tup, noOwn_dit, noOwns_nil, noOwns_cons, noOwns_ints, fz_int, fz_bl, fz_str, fz_non, if_true, if_false, Bool.and_self, Bool.and_true, Bool.true_and, Bool.false_and, Bool.and_false, decide_true, decide_false, Bool.false_eq_true,
  gAdd_int, gSub_int, gLt_int, gLe_int, gGt_int, gGe_int, gEqA_int, gNeA_int, gEqA_str, gNeA_str, gLen, gInt, gAbs, gSum, intsOf_map, reduceCtorEq, ne_eq, not_false_eq_true, not_true_eq_false, and_self, and_true, true_and, and_false, false_and, Nat.reduceAdd, Nat.reduceSub, Nat.reduceMul, Nat.reduceLT, Nat.reduceLeDiff, Nat.zero_add, Int.reduceNeg, Int.reduceLT, Int.reduceLE, Int.reduceAdd, Int.reduceSub, Int.reduceMul, Int.reduceEq, Int.reduceNe, likeIf, e_bool, e_int, e_str, e_dict, gIs, Fx.isNon, Fx.isBl, Bool.not_true, Bool.not_false]
theorem lk_bl {c : Bool} : likeIf [some a, some b, some (.lst .own (td)), some ((.bl c)), some ((.bl c)), x5, none] = some (.nx, [some a, some b, some (.lst .own (td)), some ((.bl c)), some ((.bl c)), x5, none]) := by
  have e_bool : gIsi [.bl c, .ty "bool"] = some (.bl true) := isi_ok (t := "bool") rfl (by decide)
  have e_int : gIsi [.bl c, .ty "int"] = some (.bl true) := isi_ok (t := "bool") rfl (by decide)
  have e_str : gIsi [.bl c, .ty "str"] = some (.bl false) := isi_ok (t := "bool") rfl (by decide)
  have e_dict : gIsi [.bl c, .ty "dict"] = some (.bl false) := isi_ok (t := "bool") rfl (by decide)
  cases c <;> simp only [finM_ret, finM_nx, finM_err, finI_ret, sRet, sRetN, sEx, andThen, sAs, sSeq, sIf, sNx, sPar, sPar3, sRaise, mIf, bIf, bAnd, bOr, bNot, tVal, tTru, tTru2, asB, truD, mOp2, mOp, mC, mV, mMv, rd, mCBV, mCB, mCall, mCallI, mFz, mNeg, mTup, mLst, aCons, aNil, mAndV, mOrV, mNotV, mSl, oNone, oSome, gSl,
  bnd_ok, bnd_er, got_ok, gNm, gTp, gsCons, gsNil, gSubL, mMut, fApp, fPop, iVal, iRng, rngD1, rngD2, itemsD, mCh, cLast, cLink, tYesD,
  List.map_cons, List.map_nil, List.length_cons, List.length_nil, List.replicate, List.cons_append, List.nil_append, List.append_nil, List.getElem?_cons_zero, List.getElem?_cons_succ, List.set_cons_zero, List.set_cons_succ, Option.map_some, Option.join_some, Option.isSome_some, Option.bind_some,
  noOwn_int, noOwn_bl, noOwn_str, noOwn_non, noOwn_ty, noOwn_lst, noOwn_tup, noOwn_dit, noOwns_nil, noOwns_cons, noOwns_ints, fz_int, fz_bl, fz_str, fz_non, if_true, if_false, Bool.and_self, Bool.and_true, Bool.true_and, Bool.false_and, Bool.and_false, decide_true, decide_false, Bool.false_eq_true,
  gAdd_int, gSub_int, gLt_int, gLe_int, gGt_int, gGe_int, gEqA_int, gNeA_int, gEqA_str, gNeA_str, gLen, gInt, gAbs, gSum, intsOf_map, reduceCtorEq, ne_eq, not_false_eq_true, not_true_eq_false, and_self, and_true, true_and, and_false, false_and, Nat.reduceAdd, Nat.reduceSub, Nat.reduceMul, Nat.reduceLT, Nat.reduceLeDiff, Nat.zero_add, Int.reduceNeg, Int.reduceLT, Int.reduceLE, Int.reduceAdd, Int.reduceSub, Int.reduceMul, Int.reduceEq, Int.reduceNe, likeIf, e_bool, e_int, e_str, e_dict, gIs, Fx.isNon, Fx.isBl, Bool.not_true, Bool.not_false, Bool.or_false, Bool.false_or]
theorem lk_int {c : Int} : likeIf [some a, some b, some (.lst .own (td)), some ((.int c)), some ((.int c)), x5, none] = some (.nx, [some a, some b, some (.lst .own (td)), some ((.int c)), some ((.int c)), x5, none]) := by
  have e_bool : gIsi [.int c, .ty "bool"] = some (.bl false) := isi_ok (t := "int") rfl (by decide)
  have e_int : gIsi [.int c, .ty "int"] = some (.bl true) := isi_ok (t := "int") rfl (by decide)
  have e_str : gIsi [.int c, .ty "str"] = some (.bl false) := isi_ok (t := "int") rfl (by decide)
  have e_dict : gIsi [.int c, .ty "dict"] = some (.bl false) := isi_ok (t := "int") rfl (by decide)
  simp only [finM_ret, finM_nx, finM_err, finI_ret, sRet, sRetN, sEx, andThen, sAs, sSeq, sIf, sNx, sPar, sPar3, sRaise, mIf, bIf, bAnd, bOr, bNot, tVal, tTru, tTru2, asB, truD, mOp2, mOp, mC, mV, mMv, rd, mCBV, mCB, mCall, mCallI, mFz, mNeg, mTup, mLst, aCons, aNil, mAndV, mOrV, mNotV, mSl, oNone, oSome, gSl,
  bnd_ok, bnd_er, got_ok, gNm, gTp, gsCons, gsNil, gSubL, mMut, fApp, fPop, iVal, iRng, rngD1, rngD2, itemsD, mCh, cLast, cLink, tYesD,
  List.map_cons, List.map_nil, List.length_cons, List.length_nil, List.replicate, List.cons_append, List.nil_append, List.append_nil, List.getElem?_cons_zero, List.getElem?_cons_succ, List.set_cons_zero, List.set_cons_succ, Option.map_some, Option.join_some, Option.isSome_some, Option.bind_some,
  noOwn_int, noOwn_bl, noOwn_str, noOwn_non, noOwn_ty, noOwn_lst, noOwn_tup, noOwn_dit, noOwns_nil, noOwns_cons, noOwns_ints, fz_int, fz_bl, fz_str, fz_non, if_true, if_false, Bool.and_self, Bool.and_true, Bool.true_and, Bool.false_and, Bool.and_false, decide_true, decide_false, Bool.false_eq_true,
  gAdd_int, gSub_int, gLt_int, gLe_int, gGt_int, gGe_int, gEqA_int, gNeA_int, gEqA_str, gNeA_str, gLen, gInt, gAbs, gSum, intsOf_map, reduceCtorEq, ne_eq, not_false_eq_true, not_true_eq_false, and_self, and_true, true_and, and_false, false_and, Nat.reduceAdd, Nat.reduceSub, Nat.reduceMul, Nat.reduceLT, Nat.reduceLeDiff, Nat.zero_add, Int.reduceNeg, Int.reduceLT, Int.reduceLE, Int.reduceAdd, Int.reduceSub, Int.reduceMul, Int.reduceEq, Int.reduceNe, likeIf, e_bool, e_int, e_str, e_dict, gIs, Fx.isNon, Fx.isBl, Bool.not_true, Bool.not_false]
theorem lk_str {c : Str} : likeIf [some a, some b, some (.lst .own (td)), some ((.str c)), some ((.str c)), x5, none] = some (.nx, [some a, some b, some (.lst .own (td)), some ((.str c)), some ((.str c)), x5, none]) := by
  have e_bool : gIsi [.str c, .ty "bool"] = some (.bl false) := isi_ok (t := "str") rfl (by decide)
  have e_int : gIsi [.str c, .ty "int"] = some (.bl false) := isi_ok (t := "str") rfl (by decide)
  have e_str : gIsi [.str c, .ty "str"] = some (.bl true) := isi_ok (t := "str") rfl (by decide)
  have e_dict : gIsi [.str c, .ty "dict"] = some (.bl false) := isi_ok (t := "str") rfl (by decide)
  simp only [finM_ret, finM_nx, finM_err, finI_ret, sRet, sRetN, sEx, andThen, sAs, sSeq, sIf, sNx, sPar, sPar3, sRaise, mIf, bIf, bAnd, bOr, bNot, tVal, tTru, tTru2, asB, truD, mOp2, mOp, mC, mV, mMv, rd, mCBV, mCB, mCall, mCallI, mFz, mNeg, mTup, mLst, aCons, aNil, mAndV, mOrV, mNotV, mSl, oNone, oSome, gSl,
  bnd_ok, bnd_er, got_ok, gNm, gTp, gsCons, gsNil, gSubL, mMut, fApp, fPop, iVal, iRng, rngD1, rngD2, itemsD, mCh, cLast, cLink, tYesD,
  List.map_cons, List.map_nil, List.length_cons, List.length_nil, List.replicate, List.cons_append, List.nil_append, List.append_nil, List.getElem?_cons_zero, List.getElem?_cons_succ, List.set_cons_zero, List.set_cons_succ, Option.map_some, Option.join_some, Option.isSome_some, Option.bind_some,
  noOwn_int, noOwn_bl, noOwn_str, noOwn_non, noOwn_ty, noOwn_lst, noOwn_tup, noOwn_dit, noOwns_nil, noOwns_cons, noOwns_ints, fz_int, fz_bl, fz_str, fz_non, if_true, if_false, Bool.and_self, Bool.and_true, Bool.true_and, Bool.false_and, Bool.and_false, decide_true, decide_false, Bool.false_eq_true,
  gAdd_int, gSub_int, gLt_int, gLe_int, gGt_int, gGe_int, gEqA_int, gNeA_int, gEqA_str, gNeA_str, gLen, gInt, gAbs, gSum, intsOf_map, reduceCtorEq, ne_eq, not_false_eq_true, not_true_eq_false, and_self, and_true, true_and, and_false, false_and, Nat.reduceAdd, Nat.reduceSub, Nat.reduceMul, Nat.reduceLT, Nat.reduceLeDiff, Nat.zero_add, Int.reduceNeg, Int.reduceLT, Int.reduceLE, Int.reduceAdd, Int.reduceSub, Int.reduceMul, Int.reduceEq, Int.reduceNe, likeIf, e_bool, e_int, e_str, e_dict, gIs, Fx.isNon, Fx.isBl, Bool.not_true, Bool.not_false]
theorem lk_dit {o1 o2 : Ow} : likeIf [some a, some b, some (.lst .own (td)), some ((.dit o1 [])), some ((.dit o2 [])), x5, none] = some (.nx, [some a, some b, some (.lst .own (td)), some ((.dit o1 [])), some ((.dit o2 [])), x5, none]) := by
  have e_bool : gIsi [.dit o2 [], .ty "bool"] = some (.bl false) := isi_ok (t := "dict") rfl (by decide)
  have f_bool : gIsi [.dit o1 [], .ty "bool"] = some (.bl false) := isi_ok (t := "dict") rfl (by decide)
  have e_int : gIsi [.dit o2 [], .ty "int"] = some (.bl false) := isi_ok (t := "dict") rfl (by decide)
  have f_int : gIsi [.dit o1 [], .ty "int"] = some (.bl false) := isi_ok (t := "dict") rfl (by decide)
  have e_str : gIsi [.dit o2 [], .ty "str"] = some (.bl false) := isi_ok (t := "dict") rfl (by decide)
  have f_str : gIsi [.dit o1 [], .ty "str"] = some (.bl false) := isi_ok (t := "dict") rfl (by decide)
  have e_dict : gIsi [.dit o2 [], .ty "dict"] = some (.bl true) := isi_ok (t := "dict") rfl (by decide)
  have f_dict : gIsi [.dit o1 [], .ty "dict"] = some (.bl true) := isi_ok (t := "dict") rfl (by decide)
  have g1 : gList [.dit o2 []] = some (.lst .own []) := rfl
  simp only [finM_ret, finM_nx, finM_err, finI_ret, sRet, sRetN, sEx, andThen, sAs, sSeq, sIf, sNx, sPar, sPar3, sRaise, mIf, bIf, bAnd, bOr, bNot, tVal, tTru, tTru2, asB, truD, mOp2, mOp, mC, mV, mMv, rd, mCBV, mCB, mCall, mCallI, mFz, mNeg, mTup, mLst, aCons, aNil, mAndV, mOrV, mNotV, mSl, oNone, oSome, gSl,
  bnd_ok, bnd_er, got_ok, gNm, gTp, gsCons, gsNil, gSubL, mMut, fApp, fPop, iVal, iRng, rngD1, rngD2, itemsD, mCh, cLast, cLink, tYesD,
  List.map_cons, List.map_nil, List.length_cons, List.length_nil, List.replicate, List.cons_append, List.nil_append, List.append_nil, List.getElem?_cons_zero, List.getElem?_cons_succ, List.set_cons_zero, List.set_cons_succ, Option.map_some, Option.join_some, Option.isSome_some, Option.bind_some,
  noOwn_int, noOwn_bl, noOwn_str, noOwn_non, noOwn_ty, noOwn_lst, noOwn_tup, noOwn_dit, noOwns_nil, noOwns_cons, noOwns_ints, fz_int, fz_bl, fz_str, fz_non, if_true, if_false, Bool.and_self, Bool.and_true, Bool.true_and, Bool.false_and, Bool.and_false, decide_true, decide_false, Bool.false_eq_true,
  gAdd_int, gSub_int, gLt_int, gLe_int, gGt_int, gGe_int, gEqA_int, gNeA_int, gEqA_str, gNeA_str, gLen, gInt, gAbs, gSum, intsOf_map, reduceCtorEq, ne_eq, not_false_eq_true, not_true_eq_false, and_self, and_true, true_and, and_false, false_and, Nat.reduceAdd, Nat.reduceSub, Nat.reduceMul, Nat.reduceLT, Nat.reduceLeDiff, Nat.zero_add, Int.reduceNeg, Int.reduceLT, Int.reduceLE, Int.reduceAdd, Int.reduceSub, Int.reduceMul, Int.reduceEq, Int.reduceNe, likeIf, e_bool, e_int, e_str, e_dict, f_bool, f_int, f_str, f_dict, g1, gIs, Fx.isNon, Fx.isBl, Bool.not_true, Bool.not_false, sFor, forL]
end
end Fk07

set_option maxHeartbeats 4000000
namespace Fk07
open PySem PySem.Spec PyProof.Rows L2 Fx
def zp (ds es : List D) : List D := List.zipWith (fun d e => .tup false [d, e]) ds es
def zf (ds es : List D) : D → D
  | .int k => .tup false [ds.getD k.toNat .non, es.getD k.toNat .non]
  | _ => .non
theorem zp_eq {ds es : List D} (h : ds.length = es.length) : (rangeD 0 1 es.length).map (zf ds es) = zp ds es := by
  apply List.ext_getElem
  · simp [rangeD_len, zp, h]
  · intro i h1 h2
    have hi : i < es.length := by simpa [rangeD_len] using h1
    have hd : i < ds.length := by omega
    simp [rangeD, zp, zf, hi, hd]
theorem noOwns_mem {ds : List D} (h : noOwns ds = true) : ∀ d ∈ ds, noOwn d = true := by
  induction ds with
  | nil => intro d z; cases z
  | cons x ds ih =>
    simp only [noOwns, Bool.and_eq_true] at h
    intro d z
    rcases List.mem_cons.mp z with rfl | z
    · exact h.1
    · exact ih h.2 d z
theorem noOwns_zp : ∀ {ds es : List D}, noOwns ds = true → noOwns es = true → noOwns (zp ds es) = true
  | [], es, _, _ => by simp [zp, noOwns]
  | d :: ds, [], _, _ => by simp [zp, noOwns]
  | d :: ds, e :: es, h1, h2 => by
    simp only [noOwns, Bool.and_eq_true] at h1 h2
    have := noOwns_zp h1.2 h2.2
    simp only [zp] at this
    simp only [zp, List.zipWith_cons_cons, noOwns, noOwn, h1.1, h2.1, this, Bool.and_self]
theorem op2_se {g : D → D → Option D} {i : Nat} {b : EM} {S S1 : Sl} {d0 d e z : D} (h0 : S[i]? = some (some d0)) (hb : b S = some (.ok e, S1)) (h1 : S1[i]? = some (some d)) (hg : g d e = some z) : mOp2 g (.sl i) (.ev b) S = some (.ok z, S1) := by
  simp only [mOp2, rd, h0, hb, bnd_ok, h1, hg, got_ok]
theorem catL {td zs : List D} (h1 : noOwns td = true) (h2 : noOwns zs = true) (h3 : td.length + zs.length ≤ 1000000) : gAdd (.lst .own td) (.lst .own zs) = some (.lst .own (td ++ zs)) := by
  simp only [gAdd, gCatL]
  rw [if_pos ⟨by decide, by decide, h1, h2, h3⟩]
theorem zp_len {ds es : List D} (h : ds.length = es.length) : (zp ds es).length = es.length := by simp [zp, h]
section
variable {a b : D} {td ds es : List D} {x5 : Option D}
theorem lc_lst {o1 o2 : Ow} (h : ds.length = es.length) (hl : es.length ≤ 1000) (nd : noOwns ds = true) (ne : noOwns es = true) : mLc [6] (iRng rngD1 (aCons (mCBV 4 gLen aNil) aNil)) (gNm 6) tYesD (mTup (aCons (mOp2 gIx (.sl 3) (.sl 6)) (aCons (mOp2 gIx (.sl 4) (.sl 6)) aNil))) [some a, some b, some (.lst .own (td)), some (.lst o1 ds), some (.lst o2 es), x5, none] = some (.ok (.lst .own (zp ds es)), [some a, some b, some (.lst .own (td)), some (.lst o1 ds), some (.lst o2 es), x5, none]) := by
  have e0 : iRng rngD1 (aCons (mCBV 4 gLen aNil) aNil) [some a, some b, some (.lst .own (td)), some (.lst o1 ds), some (.lst o2 es), x5, none] = some (.ok (rangeD 0 1 es.length), [some a, some b, some (.lst .own (td)), some (.lst o1 ds), some (.lst o2 es), x5, none]) := by
    have e1 : aCons (mCBV 4 gLen aNil) aNil [some a, some b, some (.lst .own (td)), some (.lst o1 ds), some (.lst o2 es), x5, none] = some (.ok [.int es.length], [some a, some b, some (.lst .own (td)), some (.lst o1 ds), some (.lst o2 es), x5, none]) := rfl
    unfold iRng
    rw [e1, bnd_ok, rngD1_int (by omega) (by omega), show (es.length : Int).toNat = es.length by omega]
    rfl
  rw [← zp_eq h]
  refine mLc_map (zf ds es) e0 rfl (fun x hx => ?_) (by rw [rangeD_len]; omega) rfl
  obtain ⟨k, hk, rfl⟩ := List.mem_map.mp (show x ∈ (List.range es.length).map fun j : Nat => D.int (0 + (j : Int) * 1) from hx)
  rw [Int.mul_one, Int.zero_add]
  have hk : k < es.length := List.mem_range.mp hk
  have hk2 : k < ds.length := by omega
  have i1 : gIx (.lst o1 ds) (.int k) = some ds[k] := gIx_lst hk2 (noOwns_mem nd _ (List.getElem_mem hk2))
  have i2 : gIx (.lst o2 es) (.int k) = some es[k] := gIx_lst hk (noOwns_mem ne _ (List.getElem_mem hk))
  refine ⟨[some a, some b, some (.lst .own (td)), some (.lst o1 ds), some (.lst o2 es), x5, some (.int (k : Int))], [some a, some b, some (.lst .own (td)), some (.lst o1 ds), some (.lst o2 es), x5, some (.int (k : Int))], rfl, ?_, rfl⟩
  have z1 : zf ds es (.int (k : Int)) = .tup false [ds[k], es[k]] := by
    simp [zf, hk, hk2]
  rw [z1]
  simp only [finM_ret, finM_nx, finM_err, finI_ret, sRet, sRetN, sEx, andThen, sAs, sSeq, sIf, sNx, sPar, sPar3, sRaise, mIf, bIf, bAnd, bOr, bNot, tVal, tTru, tTru2, asB, truD, mOp2, mOp, mC, mV, mMv, rd, mCBV, mCB, mCall, mCallI, mFz, mNeg, mTup, mLst, aCons, aNil, mAndV, mOrV, mNotV, mSl, oNone, oSome, gSl,
  bnd_ok, bnd_er, got_ok, gNm, gTp, gsCons, gsNil, gSubL, mMut, fApp, fPop, iVal, iRng, rngD1, rngD2, itemsD, mCh, cLast, cLink, tYesD,
  List.map_cons, List.map_nil, List.length_cons, List.length_nil, List.replicate, List.cons_append, List.nil_append, List.append_nil, List.getElem?_cons_zero, List.getElem?_cons_succ, List.set_cons_zero, List.set_cons_succ, Option.map_some, Option.join_some, Option.isSome_some, Option.bind_some,
  noOwn_int, noOwn_bl, noOwn_str, noOwn_non, noOwn_ty, noOwn_lst, noOwn_tup, noOwn_dit, noOwns_nil, noOwns_cons, noOwns_ints, fz_int, fz_bl, fz_str, fz_non, if_true, if_false, Bool.and_self, Bool.and_true, Bool.true_and, Bool.false_and, Bool.and_false, decide_true, decide_false, Bool.false_eq_true,
  gAdd_int, gSub_int, gLt_int, gLe_int, gGt_int, gGe_int, gEqA_int, gNeA_int, gEqA_str, gNeA_str, gLen, gInt, gAbs, gSum, intsOf_map, reduceCtorEq, ne_eq, not_false_eq_true, not_true_eq_false, and_self, and_true, true_and, and_false, false_and, Nat.reduceAdd, Nat.reduceSub, Nat.reduceMul, Nat.reduceLT, Nat.reduceLeDiff, Nat.zero_add, Int.reduceNeg, Int.reduceLT, Int.reduceLE, Int.reduceAdd, Int.reduceSub, Int.reduceMul, Int.reduceEq, Int.reduceNe, i1, i2]
theorem lk_lst {o1 o2 : Ow} (h : ds.length = es.length) (hl : es.length ≤ 1000) (nd : noOwns ds = true) (ne : noOwns es = true) (nt : noOwns td = true) (ht : td.length + es.length ≤ 1000000) : likeIf [some a, some b, some (.lst .own (td)), some (.lst o1 ds), some (.lst o2 es), x5, none] = some (.nx, [some a, some b, some (.lst .own (td ++ zp ds es)), some (.lst o1 ds), some (.lst o2 es), x5, none]) := by
  have e_bool : gIsi [.lst o2 es, .ty "bool"] = some (.bl false) := isi_ok (t := "list") rfl (by decide)
  have e_int : gIsi [.lst o2 es, .ty "int"] = some (.bl false) := isi_ok (t := "list") rfl (by decide)
  have e_str : gIsi [.lst o2 es, .ty "str"] = some (.bl false) := isi_ok (t := "list") rfl (by decide)
  have e_dict : gIsi [.lst o2 es, .ty "dict"] = some (.bl false) := isi_ok (t := "list") rfl (by decide)
  have e_list : gIsi [.lst o2 es, .ty "list"] = some (.bl true) := isi_ok (t := "list") rfl (by decide)
  have f_list : gIsi [.lst o1 ds, .ty "list"] = some (.bl true) := isi_ok (t := "list") rfl (by decide)
  have e_2 : gIsi [.lst o2 es, .tup false [.ty "list", .ty "tuple"]] = some (.bl true) := isi2_ok (t := "list") rfl
  have f_2 : gIsi [.lst o1 ds, .tup false [.ty "list", .ty "tuple"]] = some (.bl true) := isi2_ok (t := "list") rfl
  have lc := lc_lst (a := a) (b := b) (td := td) (x5 := x5) (o1 := o1) (o2 := o2) h hl nd ne
  have cat : gAdd (.lst .own td) (.lst .own (zp ds es)) = some (.lst .own (td ++ zp ds es)) := by
    exact catL nt (noOwns_zp nd ne) (by rw [zp_len h]; exact ht)
  have hne : gNeA (.int ds.length) (.int es.length) = some (.bl false) := by
    rw [gNeA_int, h, decide_eq_true rfl]
    rfl
  unfold likeIf
  rw [if_ff (S1 := [some a, some b, some (.lst .own (td)), some (.lst o1 ds), some (.lst o2 es), x5, none]) (by simp only [finM_ret, finM_nx, finM_err, finI_ret, sRet, sRetN, sEx, andThen, sAs, sSeq, sIf, sNx, sPar, sPar3, sRaise, mIf, bIf, bAnd, bOr, bNot, tVal, tTru, tTru2, asB, truD, mOp2, mOp, mC, mV, mMv, rd, mCBV, mCB, mCall, mCallI, mFz, mNeg, mTup, mLst, aCons, aNil, mAndV, mOrV, mNotV, mSl, oNone, oSome, gSl,
  bnd_ok, bnd_er, got_ok, gNm, gTp, gsCons, gsNil, gSubL, mMut, fApp, fPop, iVal, iRng, rngD1, rngD2, itemsD, mCh, cLast, cLink, tYesD,
  List.map_cons, List.map_nil, List.length_cons, List.length_nil, List.replicate, List.cons_append, List.nil_append, List.append_nil, List.getElem?_cons_zero, List.getElem?_cons_succ, List.set_cons_zero, List.set_cons_succ, Option.map_some, Option.join_some, Option.isSome_some, Option.bind_some,
  noOwn_int, noOwn_bl, noOwn_str, noOwn_non, noOwn_ty, noOwn_lst, noOwn_tup, noOwn_dit, noOwns_nil, noOwns_cons, noOwns_ints, fz_int, fz_bl, fz_str, fz_non, if_true, if_false, Bool.and_self, Bool.and_true, Bool.true_and, Bool.false_and, Bool.and_false, decide_true, decide_false, Bool.false_eq_true,
  gAdd_int, gSub_int, gLt_int, gLe_int, gGt_int, gGe_int, gEqA_int, gNeA_int, gEqA_str, gNeA_str, gLen, gInt, gAbs, gSum, intsOf_map, reduceCtorEq, ne_eq, not_false_eq_true, not_true_eq_false, and_self, and_true, true_and, and_false, false_and, Nat.reduceAdd, Nat.reduceSub, Nat.reduceMul, Nat.reduceLT, Nat.reduceLeDiff, Nat.zero_add, Int.reduceNeg, Int.reduceLT, Int.reduceLE, Int.reduceAdd, Int.reduceSub, Int.reduceMul, Int.reduceEq, Int.reduceNe, e_bool, gIs, Fx.isNon])]
  rw [if_ff (S1 := [some a, some b, some (.lst .own (td)), some (.lst o1 ds), some (.lst o2 es), x5, none]) (by simp only [finM_ret, finM_nx, finM_err, finI_ret, sRet, sRetN, sEx, andThen, sAs, sSeq, sIf, sNx, sPar, sPar3, sRaise, mIf, bIf, bAnd, bOr, bNot, tVal, tTru, tTru2, asB, truD, mOp2, mOp, mC, mV, mMv, rd, mCBV, mCB, mCall, mCallI, mFz, mNeg, mTup, mLst, aCons, aNil, mAndV, mOrV, mNotV, mSl, oNone, oSome, gSl,
  bnd_ok, bnd_er, got_ok, gNm, gTp, gsCons, gsNil, gSubL, mMut, fApp, fPop, iVal, iRng, rngD1, rngD2, itemsD, mCh, cLast, cLink, tYesD,
  List.map_cons, List.map_nil, List.length_cons, List.length_nil, List.replicate, List.cons_append, List.nil_append, List.append_nil, List.getElem?_cons_zero, List.getElem?_cons_succ, List.set_cons_zero, List.set_cons_succ, Option.map_some, Option.join_some, Option.isSome_some, Option.bind_some,
  noOwn_int, noOwn_bl, noOwn_str, noOwn_non, noOwn_ty, noOwn_lst, noOwn_tup, noOwn_dit, noOwns_nil, noOwns_cons, noOwns_ints, fz_int, fz_bl, fz_str, fz_non, if_true, if_false, Bool.and_self, Bool.and_true, Bool.true_and, Bool.false_and, Bool.and_false, decide_true, decide_false, Bool.false_eq_true,
  gAdd_int, gSub_int, gLt_int, gLe_int, gGt_int, gGe_int, gEqA_int, gNeA_int, gEqA_str, gNeA_str, gLen, gInt, gAbs, gSum, intsOf_map, reduceCtorEq, ne_eq, not_false_eq_true, not_true_eq_false, and_self, and_true, true_and, and_false, false_and, Nat.reduceAdd, Nat.reduceSub, Nat.reduceMul, Nat.reduceLT, Nat.reduceLeDiff, Nat.zero_add, Int.reduceNeg, Int.reduceLT, Int.reduceLE, Int.reduceAdd, Int.reduceSub, Int.reduceMul, Int.reduceEq, Int.reduceNe, e_int])]
  rw [if_ff (S1 := [some a, some b, some (.lst .own (td)), some (.lst o1 ds), some (.lst o2 es), x5, none]) (by simp only [finM_ret, finM_nx, finM_err, finI_ret, sRet, sRetN, sEx, andThen, sAs, sSeq, sIf, sNx, sPar, sPar3, sRaise, mIf, bIf, bAnd, bOr, bNot, tVal, tTru, tTru2, asB, truD, mOp2, mOp, mC, mV, mMv, rd, mCBV, mCB, mCall, mCallI, mFz, mNeg, mTup, mLst, aCons, aNil, mAndV, mOrV, mNotV, mSl, oNone, oSome, gSl,
  bnd_ok, bnd_er, got_ok, gNm, gTp, gsCons, gsNil, gSubL, mMut, fApp, fPop, iVal, iRng, rngD1, rngD2, itemsD, mCh, cLast, cLink, tYesD,
  List.map_cons, List.map_nil, List.length_cons, List.length_nil, List.replicate, List.cons_append, List.nil_append, List.append_nil, List.getElem?_cons_zero, List.getElem?_cons_succ, List.set_cons_zero, List.set_cons_succ, Option.map_some, Option.join_some, Option.isSome_some, Option.bind_some,
  noOwn_int, noOwn_bl, noOwn_str, noOwn_non, noOwn_ty, noOwn_lst, noOwn_tup, noOwn_dit, noOwns_nil, noOwns_cons, noOwns_ints, fz_int, fz_bl, fz_str, fz_non, if_true, if_false, Bool.and_self, Bool.and_true, Bool.true_and, Bool.false_and, Bool.and_false, decide_true, decide_false, Bool.false_eq_true,
  gAdd_int, gSub_int, gLt_int, gLe_int, gGt_int, gGe_int, gEqA_int, gNeA_int, gEqA_str, gNeA_str, gLen, gInt, gAbs, gSum, intsOf_map, reduceCtorEq, ne_eq, not_false_eq_true, not_true_eq_false, and_self, and_true, true_and, and_false, false_and, Nat.reduceAdd, Nat.reduceSub, Nat.reduceMul, Nat.reduceLT, Nat.reduceLeDiff, Nat.zero_add, Int.reduceNeg, Int.reduceLT, Int.reduceLE, Int.reduceAdd, Int.reduceSub, Int.reduceMul, Int.reduceEq, Int.reduceNe, e_str])]
  rw [if_ff (S1 := [some a, some b, some (.lst .own (td)), some (.lst o1 ds), some (.lst o2 es), x5, none]) (by simp only [finM_ret, finM_nx, finM_err, finI_ret, sRet, sRetN, sEx, andThen, sAs, sSeq, sIf, sNx, sPar, sPar3, sRaise, mIf, bIf, bAnd, bOr, bNot, tVal, tTru, tTru2, asB, truD, mOp2, mOp, mC, mV, mMv, rd, mCBV, mCB, mCall, mCallI, mFz, mNeg, mTup, mLst, aCons, aNil, mAndV, mOrV, mNotV, mSl, oNone, oSome, gSl,
  bnd_ok, bnd_er, got_ok, gNm, gTp, gsCons, gsNil, gSubL, mMut, fApp, fPop, iVal, iRng, rngD1, rngD2, itemsD, mCh, cLast, cLink, tYesD,
  List.map_cons, List.map_nil, List.length_cons, List.length_nil, List.replicate, List.cons_append, List.nil_append, List.append_nil, List.getElem?_cons_zero, List.getElem?_cons_succ, List.set_cons_zero, List.set_cons_succ, Option.map_some, Option.join_some, Option.isSome_some, Option.bind_some,
  noOwn_int, noOwn_bl, noOwn_str, noOwn_non, noOwn_ty, noOwn_lst, noOwn_tup, noOwn_dit, noOwns_nil, noOwns_cons, noOwns_ints, fz_int, fz_bl, fz_str, fz_non, if_true, if_false, Bool.and_self, Bool.and_true, Bool.true_and, Bool.false_and, Bool.and_false, decide_true, decide_false, Bool.false_eq_true,
  gAdd_int, gSub_int, gLt_int, gLe_int, gGt_int, gGe_int, gEqA_int, gNeA_int, gEqA_str, gNeA_str, gLen, gInt, gAbs, gSum, intsOf_map, reduceCtorEq, ne_eq, not_false_eq_true, not_true_eq_false, and_self, and_true, true_and, and_false, false_and, Nat.reduceAdd, Nat.reduceSub, Nat.reduceMul, Nat.reduceLT, Nat.reduceLeDiff, Nat.zero_add, Int.reduceNeg, Int.reduceLT, Int.reduceLE, Int.reduceAdd, Int.reduceSub, Int.reduceMul, Int.reduceEq, Int.reduceNe, e_dict])]
  rw [seq_nx (S1 := [some a, some b, some (.lst .own (td)), some (.lst o1 ds), some (.lst o2 es), x5, none]) (by rw [if_ff (S1 := [some a, some b, some (.lst .own (td)), some (.lst o1 ds), some (.lst o2 es), x5, none]) (by simp only [finM_ret, finM_nx, finM_err, finI_ret, sRet, sRetN, sEx, andThen, sAs, sSeq, sIf, sNx, sPar, sPar3, sRaise, mIf, bIf, bAnd, bOr, bNot, tVal, tTru, tTru2, asB, truD, mOp2, mOp, mC, mV, mMv, rd, mCBV, mCB, mCall, mCallI, mFz, mNeg, mTup, mLst, aCons, aNil, mAndV, mOrV, mNotV, mSl, oNone, oSome, gSl,
  bnd_ok, bnd_er, got_ok, gNm, gTp, gsCons, gsNil, gSubL, mMut, fApp, fPop, iVal, iRng, rngD1, rngD2, itemsD, mCh, cLast, cLink, tYesD,
  List.map_cons, List.map_nil, List.length_cons, List.length_nil, List.replicate, List.cons_append, List.nil_append, List.append_nil, List.getElem?_cons_zero, List.getElem?_cons_succ, List.set_cons_zero, List.set_cons_succ, Option.map_some, Option.join_some, Option.isSome_some, Option.bind_some,
  noOwn_int, noOwn_bl, noOwn_str, noOwn_non, noOwn_ty, noOwn_lst, noOwn_tup, noOwn_dit, noOwns_nil, noOwns_cons, noOwns_ints, fz_int, fz_bl, fz_str, fz_non, if_true, if_false, Bool.and_self, Bool.and_true, Bool.true_and, Bool.false_and, Bool.and_false, decide_true, decide_false, Bool.false_eq_true,
  gAdd_int, gSub_int, gLt_int, gLe_int, gGt_int, gGe_int, gEqA_int, gNeA_int, gEqA_str, gNeA_str, gLen, gInt, gAbs, gSum, intsOf_map, reduceCtorEq, ne_eq, not_false_eq_true, not_true_eq_false, and_self, and_true, true_and, and_false, false_and, Nat.reduceAdd, Nat.reduceSub, Nat.reduceMul, Nat.reduceLT, Nat.reduceLeDiff, Nat.zero_add, Int.reduceNeg, Int.reduceLT, Int.reduceLE, Int.reduceAdd, Int.reduceSub, Int.reduceMul, Int.reduceEq, Int.reduceNe, e_list, f_list, e_2, f_2, Bool.not_true, hne, gNeA_bl, Bool.not_false])]; rfl)]
  have g0 : mOp2 gAdd (.sl 2) (.ev (mLc [6] (iRng rngD1 (aCons (mCBV 4 gLen aNil) aNil)) (gNm 6) tYesD (mTup (aCons (mOp2 gIx (.sl 3) (.sl 6)) (aCons (mOp2 gIx (.sl 4) (.sl 6)) aNil))))) [some a, some b, some (.lst .own (td)), some (.lst o1 ds), some (.lst o2 es), x5, none] = some (.ok (.lst .own (td ++ zp ds es)), [some a, some b, some (.lst .own (td)), some (.lst o1 ds), some (.lst o2 es), x5, none]) := by
    exact op2_se rfl lc rfl cat
  unfold sAs
  rw [andThen_ok g0]
  rfl
theorem lc_tup {c1 c2 : Bool} (h : ds.length = es.length) (hl : es.length ≤ 1000) (nd : noOwns ds = true) (ne : noOwns es = true) : mLc [6] (iRng rngD1 (aCons (mCBV 4 gLen aNil) aNil)) (gNm 6) tYesD (mTup (aCons (mOp2 gIx (.sl 3) (.sl 6)) (aCons (mOp2 gIx (.sl 4) (.sl 6)) aNil))) [some a, some b, some (.lst .own (td)), some (.tup c1 ds), some (.tup c2 es), x5, none] = some (.ok (.lst .own (zp ds es)), [some a, some b, some (.lst .own (td)), some (.tup c1 ds), some (.tup c2 es), x5, none]) := by
  have e0 : iRng rngD1 (aCons (mCBV 4 gLen aNil) aNil) [some a, some b, some (.lst .own (td)), some (.tup c1 ds), some (.tup c2 es), x5, none] = some (.ok (rangeD 0 1 es.length), [some a, some b, some (.lst .own (td)), some (.tup c1 ds), some (.tup c2 es), x5, none]) := by
    have e1 : aCons (mCBV 4 gLen aNil) aNil [some a, some b, some (.lst .own (td)), some (.tup c1 ds), some (.tup c2 es), x5, none] = some (.ok [.int es.length], [some a, some b, some (.lst .own (td)), some (.tup c1 ds), some (.tup c2 es), x5, none]) := rfl
    unfold iRng
    rw [e1, bnd_ok, rngD1_int (by omega) (by omega), show (es.length : Int).toNat = es.length by omega]
    rfl
  rw [← zp_eq h]
  refine mLc_map (zf ds es) e0 rfl (fun x hx => ?_) (by rw [rangeD_len]; omega) rfl
  obtain ⟨k, hk, rfl⟩ := List.mem_map.mp (show x ∈ (List.range es.length).map fun j : Nat => D.int (0 + (j : Int) * 1) from hx)
  rw [Int.mul_one, Int.zero_add]
  have hk : k < es.length := List.mem_range.mp hk
  have hk2 : k < ds.length := by omega
  have i1 : gIx (.tup c1 ds) (.int k) = some ds[k] := gIx_tup hk2 (noOwns_mem nd _ (List.getElem_mem hk2))
  have i2 : gIx (.tup c2 es) (.int k) = some es[k] := gIx_tup hk (noOwns_mem ne _ (List.getElem_mem hk))
  refine ⟨[some a, some b, some (.lst .own (td)), some (.tup c1 ds), some (.tup c2 es), x5, some (.int (k : Int))], [some a, some b, some (.lst .own (td)), some (.tup c1 ds), some (.tup c2 es), x5, some (.int (k : Int))], rfl, ?_, rfl⟩
  have z1 : zf ds es (.int (k : Int)) = .tup false [ds[k], es[k]] := by
    simp [zf, hk, hk2]
  rw [z1]
  simp only [finM_ret, finM_nx, finM_err, finI_ret, sRet, sRetN, sEx, andThen, sAs, sSeq, sIf, sNx, sPar, sPar3, sRaise, mIf, bIf, bAnd, bOr, bNot, tVal, tTru, tTru2, asB, truD, mOp2, mOp, mC, mV, mMv, rd, mCBV, mCB, mCall, mCallI, mFz, mNeg, mTup, mLst, aCons, aNil, mAndV, mOrV, mNotV, mSl, oNone, oSome, gSl,
  bnd_ok, bnd_er, got_ok, gNm, gTp, gsCons, gsNil, gSubL, mMut, fApp, fPop, iVal, iRng, rngD1, rngD2, itemsD, mCh, cLast, cLink, tYesD,
  List.map_cons, List.map_nil, List.length_cons, List.length_nil, List.replicate, List.cons_append, List.nil_append, List.append_nil, List.getElem?_cons_zero, List.getElem?_cons_succ, List.set_cons_zero, List.set_cons_succ, Option.map_some, Option.join_some, Option.isSome_some, Option.bind_some,
  noOwn_int, noOwn_bl, noOwn_str, noOwn_non, noOwn_ty, noOwn_lst, noOwn_tup, noOwn_dit, noOwns_nil, noOwns_cons, noOwns_ints, fz_int, fz_bl, fz_str, fz_non, if_true, if_false, Bool.and_self, Bool.and_true, Bool.true_and, Bool.false_and, Bool.and_false, decide_true, decide_false, Bool.false_eq_true,
  gAdd_int, gSub_int, gLt_int, gLe_int, gGt_int, gGe_int, gEqA_int, gNeA_int, gEqA_str, gNeA_str, gLen, gInt, gAbs, gSum, intsOf_map, reduceCtorEq, ne_eq, not_false_eq_true, not_true_eq_false, and_self, and_true, true_and, and_false, false_and, Nat.reduceAdd, Nat.reduceSub, Nat.reduceMul, Nat.reduceLT, Nat.reduceLeDiff, Nat.zero_add, Int.reduceNeg, Int.reduceLT, Int.reduceLE, Int.reduceAdd, Int.reduceSub, Int.reduceMul, Int.reduceEq, Int.reduceNe, i1, i2]
theorem lk_tup {c1 c2 : Bool} (h : ds.length = es.length) (hl : es.length ≤ 1000) (nd : noOwns ds = true) (ne : noOwns es = true) (nt : noOwns td = true) (ht : td.length + es.length ≤ 1000000) : likeIf [some a, some b, some (.lst .own (td)), some (.tup c1 ds), some (.tup c2 es), x5, none] = some (.nx, [some a, some b, some (.lst .own (td ++ zp ds es)), some (.tup c1 ds), some (.tup c2 es), x5, none]) := by
  have e_bool : gIsi [.tup c2 es, .ty "bool"] = some (.bl false) := isi_ok (t := "tuple") rfl (by decide)
  have e_int : gIsi [.tup c2 es, .ty "int"] = some (.bl false) := isi_ok (t := "tuple") rfl (by decide)
  have e_str : gIsi [.tup c2 es, .ty "str"] = some (.bl false) := isi_ok (t := "tuple") rfl (by decide)
  have e_dict : gIsi [.tup c2 es, .ty "dict"] = some (.bl false) := isi_ok (t := "tuple") rfl (by decide)
  have e_list : gIsi [.tup c2 es, .ty "list"] = some (.bl false) := isi_ok (t := "tuple") rfl (by decide)
  have f_list : gIsi [.tup c1 ds, .ty "list"] = some (.bl false) := isi_ok (t := "tuple") rfl (by decide)
  have e_2 : gIsi [.tup c2 es, .tup false [.ty "list", .ty "tuple"]] = some (.bl true) := isi2_ok (t := "tuple") rfl
  have f_2 : gIsi [.tup c1 ds, .tup false [.ty "list", .ty "tuple"]] = some (.bl true) := isi2_ok (t := "tuple") rfl
  have lc := lc_tup (a := a) (b := b) (td := td) (x5 := x5) (c1 := c1) (c2 := c2) h hl nd ne
  have cat : gAdd (.lst .own td) (.lst .own (zp ds es)) = some (.lst .own (td ++ zp ds es)) := by
    exact catL nt (noOwns_zp nd ne) (by rw [zp_len h]; exact ht)
  have hne : gNeA (.int ds.length) (.int es.length) = some (.bl false) := by
    rw [gNeA_int, h, decide_eq_true rfl]
    rfl
  unfold likeIf
  rw [if_ff (S1 := [some a, some b, some (.lst .own (td)), some (.tup c1 ds), some (.tup c2 es), x5, none]) (by simp only [finM_ret, finM_nx, finM_err, finI_ret, sRet, sRetN, sEx, andThen, sAs, sSeq, sIf, sNx, sPar, sPar3, sRaise, mIf, bIf, bAnd, bOr, bNot, tVal, tTru, tTru2, asB, truD, mOp2, mOp, mC, mV, mMv, rd, mCBV, mCB, mCall, mCallI, mFz, mNeg, mTup, mLst, aCons, aNil, mAndV, mOrV, mNotV, mSl, oNone, oSome, gSl,
  bnd_ok, bnd_er, got_ok, gNm, gTp, gsCons, gsNil, gSubL, mMut, fApp, fPop, iVal, iRng, rngD1, rngD2, itemsD, mCh, cLast, cLink, tYesD,
  List.map_cons, List.map_nil, List.length_cons, List.length_nil, List.replicate, List.cons_append, List.nil_append, List.append_nil, List.getElem?_cons_zero, List.getElem?_cons_succ, List.set_cons_zero, List.set_cons_succ, Option.map_some, Option.join_some, Option.isSome_some, Option.bind_some,
  noOwn_int, noOwn_bl, noOwn_str, noOwn_non, noOwn_ty, noOwn_lst, noOwn_tup, noOwn_dit, noOwns_nil, noOwns_cons, noOwns_ints, fz_int, fz_bl, fz_str, fz_non, if_true, if_false, Bool.and_self, Bool.and_true, Bool.true_and, Bool.false_and, Bool.and_false, decide_true, decide_false, Bool.false_eq_true,
  gAdd_int, gSub_int, gLt_int, gLe_int, gGt_int, gGe_int, gEqA_int, gNeA_int, gEqA_str, gNeA_str, gLen, gInt, gAbs, gSum, intsOf_map, reduceCtorEq, ne_eq, not_false_eq_true, not_true_eq_false, and_self, and_true, true_and, and_false, false_and, Nat.reduceAdd, Nat.reduceSub, Nat.reduceMul, Nat.reduceLT, Nat.reduceLeDiff, Nat.zero_add, Int.reduceNeg, Int.reduceLT, Int.reduceLE, Int.reduceAdd, Int.reduceSub, Int.reduceMul, Int.reduceEq, Int.reduceNe, e_bool, gIs, Fx.isNon])]
  rw [if_ff (S1 := [some a, some b, some (.lst .own (td)), some (.tup c1 ds), some (.tup c2 es), x5, none]) (by simp only [finM_ret, finM_nx, finM_err, finI_ret, sRet, sRetN, sEx, andThen, sAs, sSeq, sIf, sNx, sPar, sPar3, sRaise, mIf, bIf, bAnd, bOr, bNot, tVal, tTru, tTru2, asB, truD, mOp2, mOp, mC, mV, mMv, rd, mCBV, mCB, mCall, mCallI, mFz, mNeg, mTup, mLst, aCons, aNil, mAndV, mOrV, mNotV, mSl, oNone, oSome, gSl,
  bnd_ok, bnd_er, got_ok, gNm, gTp, gsCons, gsNil, gSubL, mMut, fApp, fPop, iVal, iRng, rngD1, rngD2, itemsD, mCh, cLast, cLink, tYesD,
  List.map_cons, List.map_nil, List.length_cons, List.length_nil, List.replicate, List.cons_append, List.nil_append, List.append_nil, List.getElem?_cons_zero, List.getElem?_cons_succ, List.set_cons_zero, List.set_cons_succ, Option.map_some, Option.join_some, Option.isSome_some, Option.bind_some,
  noOwn_int, noOwn_bl, noOwn_str, noOwn_non, noOwn_ty, noOwn_lst, noOwn_tup, noOwn_dit, noOwns_nil, noOwns_cons, noOwns_ints, fz_int, fz_bl, fz_str, fz_non, if_true, if_false, Bool.and_self, Bool.and_true, Bool.true_and, Bool.false_and, Bool.and_false, decide_true, decide_false, Bool.false_eq_true,
  gAdd_int, gSub_int, gLt_int, gLe_int, gGt_int, gGe_int, gEqA_int, gNeA_int, gEqA_str, gNeA_str, gLen, gInt, gAbs, gSum, intsOf_map, reduceCtorEq, ne_eq, not_false_eq_true, not_true_eq_false, and_self, and_true, true_and, and_false, false_and, Nat.reduceAdd, Nat.reduceSub, Nat.reduceMul, Nat.reduceLT, Nat.reduceLeDiff, Nat.zero_add, Int.reduceNeg, Int.reduceLT, Int.reduceLE, Int.reduceAdd, Int.reduceSub, Int.reduceMul, Int.reduceEq, Int.reduceNe, e_int])]
  rw [if_ff (S1 := [some a, some b, some (.lst .own (td)), some (.tup c1 ds), some (.tup c2 es), x5, none]) (by simp only [finM_ret, finM_nx, finM_err, finI_ret, sRet, sRetN, sEx, andThen, sAs, sSeq, sIf, sNx, sPar, sPar3, sRaise, mIf, bIf, bAnd, bOr, bNot, tVal, tTru, tTru2, asB, truD, mOp2, mOp, mC, mV, mMv, rd, mCBV, mCB, mCall, mCallI, mFz, mNeg, mTup, mLst, aCons, aNil, mAndV, mOrV, mNotV, mSl, oNone, oSome, gSl,
  bnd_ok, bnd_er, got_ok, gNm, gTp, gsCons, gsNil, gSubL, mMut, fApp, fPop, iVal, iRng, rngD1, rngD2, itemsD, mCh, cLast, cLink, tYesD,
  List.map_cons, List.map_nil, List.length_cons, List.length_nil, List.replicate, List.cons_append, List.nil_append, List.append_nil, List.getElem?_cons_zero, List.getElem?_cons_succ, List.set_cons_zero, List.set_cons_succ, Option.map_some, Option.join_some, Option.isSome_some, Option.bind_some,
  noOwn_int, noOwn_bl, noOwn_str, noOwn_non, noOwn_ty, noOwn_lst, noOwn_tup, noOwn_dit, noOwns_nil, noOwns_cons, noOwns_ints, fz_int, fz_bl, fz_str, fz_non, if_true, if_false, Bool.and_self, Bool.and_true, Bool.true_and, Bool.false_and, Bool.and_false, decide_true, decide_false, Bool.false_eq_true,
  gAdd_int, gSub_int, gLt_int, gLe_int, gGt_int, gGe_int, gEqA_int, gNeA_int, gEqA_str, gNeA_str, gLen, gInt, gAbs, gSum, intsOf_map, reduceCtorEq, ne_eq, not_false_eq_true, not_true_eq_false, and_self, and_true, true_and, and_false, false_and, Nat.reduceAdd, Nat.reduceSub, Nat.reduceMul, Nat.reduceLT, Nat.reduceLeDiff, Nat.zero_add, Int.reduceNeg, Int.reduceLT, Int.reduceLE, Int.reduceAdd, Int.reduceSub, Int.reduceMul, Int.reduceEq, Int.reduceNe, e_str])]
  rw [if_ff (S1 := [some a, some b, some (.lst .own (td)), some (.tup c1 ds), some (.tup c2 es), x5, none]) (by simp only [finM_ret, finM_nx, finM_err, finI_ret, sRet, sRetN, sEx, andThen, sAs, sSeq, sIf, sNx, sPar, sPar3, sRaise, mIf, bIf, bAnd, bOr, bNot, tVal, tTru, tTru2, asB, truD, mOp2, mOp, mC, mV, mMv, rd, mCBV, mCB, mCall, mCallI, mFz, mNeg, mTup, mLst, aCons, aNil, mAndV, mOrV, mNotV, mSl, oNone, oSome, gSl,
  bnd_ok, bnd_er, got_ok, gNm, gTp, gsCons, gsNil, gSubL, mMut, fApp, fPop, iVal, iRng, rngD1, rngD2, itemsD, mCh, cLast, cLink, tYesD,
  List.map_cons, List.map_nil, List.length_cons, List.length_nil, List.replicate, List.cons_append, List.nil_append, List.append_nil, List.getElem?_cons_zero, List.getElem?_cons_succ, List.set_cons_zero, List.set_cons_succ, Option.map_some, Option.join_some, Option.isSome_some, Option.bind_some,
  noOwn_int, noOwn_bl, noOwn_str, noOwn_non, noOwn_ty, noOwn_lst, noOwn_tup, noOwn_dit, noOwns_nil, noOwns_cons, noOwns_ints, fz_int, fz_bl, fz_str, fz_non, if_true, if_false, Bool.and_self, Bool.and_true, Bool.true_and, Bool.false_and, Bool.and_false, decide_true, decide_false, Bool.false_eq_true,
  gAdd_int, gSub_int, gLt_int, gLe_int, gGt_int, gGe_int, gEqA_int, gNeA_int, gEqA_str, gNeA_str, gLen, gInt, gAbs, gSum, intsOf_map, reduceCtorEq, ne_eq, not_false_eq_true, not_true_eq_false, and_self, and_true, true_and, and_false, false_and, Nat.reduceAdd, Nat.reduceSub, Nat.reduceMul, Nat.reduceLT, Nat.reduceLeDiff, Nat.zero_add, Int.reduceNeg, Int.reduceLT, Int.reduceLE, Int.reduceAdd, Int.reduceSub, Int.reduceMul, Int.reduceEq, Int.reduceNe, e_dict])]
  rw [seq_nx (S1 := [some a, some b, some (.lst .own (td)), some (.tup c1 ds), some (.tup c2 es), x5, none]) (by rw [if_ff (S1 := [some a, some b, some (.lst .own (td)), some (.tup c1 ds), some (.tup c2 es), x5, none]) (by simp only [finM_ret, finM_nx, finM_err, finI_ret, sRet, sRetN, sEx, andThen, sAs, sSeq, sIf, sNx, sPar, sPar3, sRaise, mIf, bIf, bAnd, bOr, bNot, tVal, tTru, tTru2, asB, truD, mOp2, mOp, mC, mV, mMv, rd, mCBV, mCB, mCall, mCallI, mFz, mNeg, mTup, mLst, aCons, aNil, mAndV, mOrV, mNotV, mSl, oNone, oSome, gSl,
  bnd_ok, bnd_er, got_ok, gNm, gTp, gsCons, gsNil, gSubL, mMut, fApp, fPop, iVal, iRng, rngD1, rngD2, itemsD, mCh, cLast, cLink, tYesD,
  List.map_cons, List.map_nil, List.length_cons, List.length_nil, List.replicate, List.cons_append, List.nil_append, List.append_nil, List.getElem?_cons_zero, List.getElem?_cons_succ, List.set_cons_zero, List.set_cons_succ, Option.map_some, Option.join_some, Option.isSome_some, Option.bind_some,
  noOwn_int, noOwn_bl, noOwn_str, noOwn_non, noOwn_ty, noOwn_lst, noOwn_tup, noOwn_dit, noOwns_nil, noOwns_cons, noOwns_ints, fz_int, fz_bl, fz_str, fz_non, if_true, if_false, Bool.and_self, Bool.and_true, Bool.true_and, Bool.false_and, Bool.and_false, decide_true, decide_false, Bool.false_eq_true,
  gAdd_int, gSub_int, gLt_int, gLe_int, gGt_int, gGe_int, gEqA_int, gNeA_int, gEqA_str, gNeA_str, gLen, gInt, gAbs, gSum, intsOf_map, reduceCtorEq, ne_eq, not_false_eq_true, not_true_eq_false, and_self, and_true, true_and, and_false, false_and, Nat.reduceAdd, Nat.reduceSub, Nat.reduceMul, Nat.reduceLT, Nat.reduceLeDiff, Nat.zero_add, Int.reduceNeg, Int.reduceLT, Int.reduceLE, Int.reduceAdd, Int.reduceSub, Int.reduceMul, Int.reduceEq, Int.reduceNe, e_list, f_list, e_2, f_2, Bool.not_true, hne, gNeA_bl, Bool.not_false])]; rfl)]
  have g0 : mOp2 gAdd (.sl 2) (.ev (mLc [6] (iRng rngD1 (aCons (mCBV 4 gLen aNil) aNil)) (gNm 6) tYesD (mTup (aCons (mOp2 gIx (.sl 3) (.sl 6)) (aCons (mOp2 gIx (.sl 4) (.sl 6)) aNil))))) [some a, some b, some (.lst .own (td)), some (.tup c1 ds), some (.tup c2 es), x5, none] = some (.ok (.lst .own (td ++ zp ds es)), [some a, some b, some (.lst .own (td)), some (.tup c1 ds), some (.tup c2 es), x5, none]) := by
    exact op2_se rfl lc rfl cat
  unfold sAs
  rw [andThen_ok g0]
  rfl
end
end Fk07

set_option maxHeartbeats 4000000
namespace Fk07
open PySem PySem.Spec PyProof.Rows L2 Fx
def szP : D → Nat
  | .tup _ [_, e] => szD e
  | _ => 0
def meas (td : List D) : Nat := (td.map szP).sum
def Prs (td : List D) : Prop := ∀ p ∈ td, ∃ d e, p = .tup false [d, e] ∧ lkB d e = true
theorem meas_app (s t : List D) : meas (s ++ t) = meas s + meas t := by simp [meas]
theorem meas_len {td : List D} (h : Prs td) : td.length ≤ meas td := by
  induction td with
  | nil => exact Nat.le_refl _
  | cons p td ih =>
    obtain ⟨d, e, rfl, _⟩ := h p List.mem_cons_self
    have := ih fun q hq => h q (List.mem_cons_of_mem _ hq)
    have := szD_pos e
    simp only [meas, List.map_cons, List.sum_cons, List.length_cons, szP] at *
    omega
theorem zp_prs : ∀ {ds es : List D}, lksB ds es = true → Prs (zp ds es) ∧ meas (zp ds es) = szs es
  | [], [], _ => ⟨fun p h => by simp [zp] at h, rfl⟩
  | [], e :: es, h => by simp [lksB] at h
  | d :: ds, [], h => by simp [lksB] at h
  | d :: ds, e :: es, h => by
    simp only [lksB, Bool.and_eq_true] at h
    obtain ⟨h1, h2⟩ := zp_prs h.2
    refine ⟨fun p hp => ?_, ?_⟩
    · rcases List.mem_cons.mp (show p ∈ .tup false [d, e] :: zp ds es from hp) with rfl | hp
      · exact ⟨d, e, rfl, h.1⟩
      · exact h1 p hp
    · show meas (.tup false [d, e] :: zp ds es) = _
      simp only [meas, List.map_cons, List.sum_cons, szP, szs] at h2 ⊢
      rw [h2]
theorem like_step {a b : D} {td : List D} {x5 : Option D} {d e : D} (h : lkB d e = true) (nd : noOwn d = true) (ne : noOwn e = true) (nt : noOwns td = true) (hs : td.length + szD e ≤ 1000) :
    ∃ zs, likeIf [some a, some b, some (.lst .own td), some d, some e, x5, none] = some (.nx, [some a, some b, some (.lst .own (td ++ zs)), some d, some e, x5, none]) ∧ noOwns zs = true ∧ Prs zs ∧ meas zs + 1 ≤ szD e := by
  have z0 : ∀ e : D, noOwns [] = true ∧ Prs [] ∧ meas [] + 1 ≤ szD e := fun e => ⟨noOwns_nil, fun p h => (by cases h), szD_pos e⟩
  cases d with
  | non => cases e <;> simp [lkB] at h; exact ⟨[], by rw [List.append_nil]; exact lk_non, z0 _⟩
  | bl c => cases e <;> simp [lkB] at h; subst h; exact ⟨[], by rw [List.append_nil]; exact lk_bl, z0 _⟩
  | int c => cases e <;> simp [lkB] at h; subst h; exact ⟨[], by rw [List.append_nil]; exact lk_int, z0 _⟩
  | str c => cases e <;> simp [lkB] at h; subst h; exact ⟨[], by rw [List.append_nil]; exact lk_str, z0 _⟩
  | fn c => cases e <;> simp [lkB] at h
  | ty c => cases e <;> simp [lkB] at h
  | dic o kvs => cases e <;> simp [lkB] at h
  | dit o kvs =>
    cases e <;> try (simp [lkB] at h; done)
    rename_i o2 kv2
    simp only [lkB, Bool.and_eq_true, List.isEmpty_iff] at h
    obtain ⟨rfl, rfl⟩ := h
    exact ⟨[], by rw [List.append_nil]; exact lk_dit, z0 _⟩
  | lst o ds =>
    cases e <;> try (simp [lkB] at h; done)
    rename_i o2 es
    simp only [lkB] at h
    simp only [noOwn_lst, Bool.and_eq_true] at nd ne
    have l1 := lks_len h
    have l2 := szs_len es
    simp only [szD] at hs
    obtain ⟨q1, q2⟩ := zp_prs h
    exact ⟨zp ds es, lk_lst l1 (by omega) nd.2 ne.2 nt (by omega), noOwns_zp nd.2 ne.2, q1, by rw [q2, szD]; omega⟩
  | tup o ds =>
    cases e <;> try (simp [lkB] at h; done)
    rename_i o2 es
    simp only [lkB] at h
    simp only [noOwn_tup] at nd ne
    have l1 := lks_len h
    have l2 := szs_len es
    simp only [szD] at hs
    obtain ⟨q1, q2⟩ := zp_prs h
    exact ⟨zp ds es, lk_tup l1 (by omega) nd ne nt (by omega), noOwns_zp nd ne, q1, by rw [q2, szD]; omega⟩
theorem like_ok (d e : D) (h : lkB (fz d) (fz e) = true) (hs : szD (fz e) ≤ 1000) : m__law_like [d, e] = some (.ok (.bl true), none) := by
  have nd := noOwn_of_fz d
  have ne := noOwn_of_fz e
  have mv : ∀ (i : Nat) (x : D) (S : Sl), S[i]? = some (some x) → ∃ y, mV i S = some (.ok (fz x), S.set i (some y)) := by
    intro i x S hS
    by_cases n : noOwn x = true
    · refine ⟨x, ?_⟩
      rw [mV_no hS n, fz_same x n]
      obtain ⟨hi, e⟩ := List.getElem?_eq_some_iff.mp hS
      rw [← e, List.set_getElem_self]
    · exact ⟨_, mV_own hS (by simpa using n)⟩
  obtain ⟨a, ea⟩ := mv 0 d [some d, some e, none, none, none, none, none] rfl
  obtain ⟨b, eb⟩ := mv 1 e [some a, some e, none, none, none, none, none] rfl
  have e1 : sAs (mLst (aCons (mTup (aCons (mV 0) (aCons (mV 1) aNil))) aNil)) (gNm 2) [some d, some e, none, none, none, none, none] = some (.nx, [some a, some b, some (.lst .own [.tup false [fz d, fz e]]), none, none, none, none]) := by
    have ea : mV 0 [some d, some e, none, none, none, none, none] = some (.ok (fz d), [some a, some e, none, none, none, none, none]) := ea
    have eb : mV 1 [some a, some e, none, none, none, none, none] = some (.ok (fz e), [some a, some b, none, none, none, none, none]) := eb
    simp only [sAs, andThen, mLst, aCons, aNil, mTup, ea, eb, bnd_ok, List.length_cons, List.length_nil, Nat.zero_add, Nat.reduceAdd, Nat.reduceLeDiff, if_true]
    rfl
  obtain ⟨S', e2, ⟨x0, x1, x2, x3, x4, x5, x6, rfl⟩⟩ := sWh_inv (t := tVal (mOp2 gNeA (.sl 2) (.ev (mLst aNil)))) (b := sSeq (sAs (mMut 2 fPop aNil) (gTp (gsCons (gNm 3) (gsCons (gNm 4) gsNil)))) likeIf)
    (fun n S => ∃ td x3 x4 x5, S = [some a, some b, some (.lst .own td), x3, x4, x5, none] ∧ noOwns td = true ∧ Prs td ∧ n = meas td ∧ n ≤ 1000) (fun S => ∃ x0 x1 x2 x3 x4 x5 x6, S = [x0, x1, x2, x3, x4, x5, x6])
    (fun n S ⟨td, x3, x4, x5, hS, nt, hp, hn, hn2⟩ => by
      subst hS hn
      have ht : ∀ S0 : Sl, S0[2]? = some (some (.lst .own td)) → tVal (mOp2 gNeA (.sl 2) (.ev (mLst aNil))) S0 = some (.ok (!td.isEmpty), S0) := by
        intro S0 h0
        have := op2_se (g := gNeA) (b := mLst aNil) (e := .lst .own []) (z := .bl (!td.isEmpty)) h0 rfl h0 gNeA_nil
        simp only [tVal, this, bnd_ok, asB, got_ok]
      rcases List.eq_nil_or_concat td with rfl | ⟨init, p, hh⟩
      · exact .inl ⟨_, ht _ rfl, _, _, _, _, _, _, _, rfl⟩
      · rw [List.concat_eq_append] at hh
        subst hh
        obtain ⟨d', e', rfl, hl⟩ := hp p (by simp)
        have np : noOwns init = true ∧ noOwn d' = true ∧ noOwn e' = true := by
          have := nt
          rw [noOwns_app] at this
          simp only [noOwns, noOwn, Bool.and_true, Bool.and_eq_true] at this
          exact this
        have hp' : Prs init := fun q hq => hp q (by simp [hq])
        have ml := meas_len hp'
        have ma := meas_app init [.tup false [d', e']]
        have mb : meas [.tup false [d', e']] = szD e' := by simp [meas, szP]
        obtain ⟨zs, q1, q2, q3, q4⟩ := like_step (a := a) (b := b) (x5 := x5) hl np.2.1 np.2.2 np.1 (by omega)
        have pop : sAs (mMut 2 fPop aNil) (gTp (gsCons (gNm 3) (gsCons (gNm 4) gsNil))) [some a, some b, some (.lst .own (init ++ [.tup false [d', e']])), x3, x4, x5, none] = some (.nx, [some a, some b, some (.lst .own init), some d', some e', x5, none]) := by
          have pp : fPop (init ++ [.tup false [d', e']]) [] = some (init, .tup false [d', e']) := by
            simp [fPop]
          simp only [sAs, andThen, mMut, aNil, bnd_ok, List.getElem?_cons_succ, List.getElem?_cons_zero, nt, noOwns_nil, and_self, if_true, pp]
          rfl
        have he : (!(init ++ [D.tup false [d', e']]).isEmpty) = true := by simp
        have ht' := ht [some a, some b, some (.lst .own (init ++ [.tup false [d', e']])), x3, x4, x5, none] rfl
        rw [he] at ht'
        refine .inr ⟨_, _, meas (init ++ zs), ht', by rw [seq_nx pop, q1], ?_, _, _, _, _, rfl, ?_, ?_, rfl, ?_⟩
        · rw [meas_app]
          omega
        · rw [noOwns_app, np.1, q2]
          rfl
        · intro q hq
          rcases List.mem_append.mp hq with hq | hq
          · exact hp' q hq
          · exact q3 q hq
        · rw [meas_app]
          omega) (szD (fz e)) [some a, some b, some (.lst .own [.tup false [fz d, fz e]]), none, none, none, none] ⟨_, _, _, _, rfl, by simp [noOwns, noOwn, nd, ne], fun p hp => by
        simp only [List.mem_cons, List.not_mem_nil, or_false] at hp
        exact ⟨_, _, hp, h⟩, by simp [meas, szP], hs⟩
  rw [u__law_like, like_eq, seq_nx e1, seq_nx e2]
  rfl
end Fk07

set_option maxHeartbeats 4000000
namespace Fk07
open PySem PySem.Spec PyProof.Rows L2 Fx
theorem no_why (bs : List Bool) : noOwn (whyD bs) = true := by
  unfold whyD
  split
  · rfl
  · split
    · simp [noOwn, noOwns]
    · simp [noOwn, noOwns, tD]
theorem call0_ok (bs : List Bool) (n : Int) (h3 : 3 ≤ bs.length) (h24 : bs.length ≤ 24) : m__law_call [.int 0, .str (mkS bs), .int n] = some (.ok (.lst .own [.str "told", .bl (fits bs)]), none) := by
  have e := folds_ok bs h3 h24
  rw [u__law_call]
  unfold b__law_call sTry1
  by_cases hn : n = 0 <;> simp only [finM_ret, finM_nx, finM_err, finI_ret, sRet, sRetN, sEx, andThen, sAs, sSeq, sIf, sNx, sPar, sPar3, sRaise, mIf, bIf, bAnd, bOr, bNot, tVal, tTru, tTru2, asB, truD, mOp2, mOp, mC, mV, mMv, rd, mCBV, mCB, mCall, mCallI, mFz, mNeg, mTup, mLst, aCons, aNil, mAndV, mOrV, mNotV, mSl, oNone, oSome, gSl,
  bnd_ok, bnd_er, got_ok, gNm, gTp, gsCons, gsNil, gSubL, mMut, fApp, fPop, iVal, iRng, rngD1, rngD2, itemsD, mCh, cLast, cLink, tYesD,
  List.map_cons, List.map_nil, List.length_cons, List.length_nil, List.replicate, List.cons_append, List.nil_append, List.append_nil, List.getElem?_cons_zero, List.getElem?_cons_succ, List.set_cons_zero, List.set_cons_succ, Option.map_some, Option.join_some, Option.isSome_some, Option.bind_some,
  noOwn_int, noOwn_bl, noOwn_str, noOwn_non, noOwn_ty, noOwn_lst, noOwn_tup, noOwn_dit, noOwns_nil, noOwns_cons, noOwns_ints, fz_int, fz_bl, fz_str, fz_non, if_true, if_false, Bool.and_self, Bool.and_true, Bool.true_and, Bool.false_and, Bool.and_false, decide_true, decide_false, Bool.false_eq_true,
  gAdd_int, gSub_int, gLt_int, gLe_int, gGt_int, gGe_int, gEqA_int, gNeA_int, gEqA_str, gNeA_str, gLen, gInt, gAbs, gSum, intsOf_map, reduceCtorEq, ne_eq, not_false_eq_true, not_true_eq_false, and_self, and_true, true_and, and_false, false_and, Nat.reduceAdd, Nat.reduceSub, Nat.reduceMul, Nat.reduceLT, Nat.reduceLeDiff, Nat.zero_add, Int.reduceNeg, Int.reduceLT, Int.reduceLE, Int.reduceAdd, Int.reduceSub, Int.reduceMul, Int.reduceEq, Int.reduceNe, e, hn]
theorem call1_ok (bs : List Bool) (n : Int) (h3 : 3 ≤ bs.length) (h24 : bs.length ≤ 24) : m__law_call [.int 1, .str (mkS bs), .int n] = some (.ok (.lst .own [.str "told", whyD bs]), none) := by
  have e := why_ok bs h3 h24
  rw [u__law_call]
  unfold b__law_call sTry1
  by_cases hn : n = 0 <;> simp only [finM_ret, finM_nx, finM_err, finI_ret, sRet, sRetN, sEx, andThen, sAs, sSeq, sIf, sNx, sPar, sPar3, sRaise, mIf, bIf, bAnd, bOr, bNot, tVal, tTru, tTru2, asB, truD, mOp2, mOp, mC, mV, mMv, rd, mCBV, mCB, mCall, mCallI, mFz, mNeg, mTup, mLst, aCons, aNil, mAndV, mOrV, mNotV, mSl, oNone, oSome, gSl,
  bnd_ok, bnd_er, got_ok, gNm, gTp, gsCons, gsNil, gSubL, mMut, fApp, fPop, iVal, iRng, rngD1, rngD2, itemsD, mCh, cLast, cLink, tYesD,
  List.map_cons, List.map_nil, List.length_cons, List.length_nil, List.replicate, List.cons_append, List.nil_append, List.append_nil, List.getElem?_cons_zero, List.getElem?_cons_succ, List.set_cons_zero, List.set_cons_succ, Option.map_some, Option.join_some, Option.isSome_some, Option.bind_some,
  noOwn_int, noOwn_bl, noOwn_str, noOwn_non, noOwn_ty, noOwn_lst, noOwn_tup, noOwn_dit, noOwns_nil, noOwns_cons, noOwns_ints, fz_int, fz_bl, fz_str, fz_non, if_true, if_false, Bool.and_self, Bool.and_true, Bool.true_and, Bool.false_and, Bool.and_false, decide_true, decide_false, Bool.false_eq_true,
  gAdd_int, gSub_int, gLt_int, gLe_int, gGt_int, gGe_int, gEqA_int, gNeA_int, gEqA_str, gNeA_str, gLen, gInt, gAbs, gSum, intsOf_map, reduceCtorEq, ne_eq, not_false_eq_true, not_true_eq_false, and_self, and_true, true_and, and_false, false_and, Nat.reduceAdd, Nat.reduceSub, Nat.reduceMul, Nat.reduceLT, Nat.reduceLeDiff, Nat.zero_add, Int.reduceNeg, Int.reduceLT, Int.reduceLE, Int.reduceAdd, Int.reduceSub, Int.reduceMul, Int.reduceEq, Int.reduceNe, e, hn]
theorem folds_bad (d : D) (hn : noOwn d = true) (h : m_is_strip [d] = some (.ok (.bl false), none)) : m_folds [d] = some (.error ("InvalidStrip", [("given", d)]), none) := by
  have e := check_bad d hn h
  rw [u_folds]
  simp only [finM_ret, finM_nx, finM_err, finI_ret, sRet, sRetN, sEx, andThen, sAs, sSeq, sIf, sNx, sPar, sPar3, sRaise, mIf, bIf, bAnd, bOr, bNot, tVal, tTru, tTru2, asB, truD, mOp2, mOp, mC, mV, mMv, rd, mCBV, mCB, mCall, mCallI, mFz, mNeg, mTup, mLst, aCons, aNil, mAndV, mOrV, mNotV, mSl, oNone, oSome, gSl,
  bnd_ok, bnd_er, got_ok, gNm, gTp, gsCons, gsNil, gSubL, mMut, fApp, fPop, iVal, iRng, rngD1, rngD2, itemsD, mCh, cLast, cLink, tYesD,
  List.map_cons, List.map_nil, List.length_cons, List.length_nil, List.replicate, List.cons_append, List.nil_append, List.append_nil, List.getElem?_cons_zero, List.getElem?_cons_succ, List.set_cons_zero, List.set_cons_succ, Option.map_some, Option.join_some, Option.isSome_some, Option.bind_some,
  noOwn_int, noOwn_bl, noOwn_str, noOwn_non, noOwn_ty, noOwn_lst, noOwn_tup, noOwn_dit, noOwns_nil, noOwns_cons, noOwns_ints, fz_int, fz_bl, fz_str, fz_non, if_true, if_false, Bool.and_self, Bool.and_true, Bool.true_and, Bool.false_and, Bool.and_false, decide_true, decide_false, Bool.false_eq_true,
  gAdd_int, gSub_int, gLt_int, gLe_int, gGt_int, gGe_int, gEqA_int, gNeA_int, gEqA_str, gNeA_str, gLen, gInt, gAbs, gSum, intsOf_map, reduceCtorEq, ne_eq, not_false_eq_true, not_true_eq_false, and_self, and_true, true_and, and_false, false_and, Nat.reduceAdd, Nat.reduceSub, Nat.reduceMul, Nat.reduceLT, Nat.reduceLeDiff, Nat.zero_add, Int.reduceNeg, Int.reduceLT, Int.reduceLE, Int.reduceAdd, Int.reduceSub, Int.reduceMul, Int.reduceEq, Int.reduceNe, b_folds, e, hn]
theorem why_bad (d : D) (hn : noOwn d = true) (h : m_is_strip [d] = some (.ok (.bl false), none)) : m_why_not [d] = some (.error ("InvalidStrip", [("given", d)]), none) := by
  have e := check_bad d hn h
  rw [u_why_not]
  simp only [finM_ret, finM_nx, finM_err, finI_ret, sRet, sRetN, sEx, andThen, sAs, sSeq, sIf, sNx, sPar, sPar3, sRaise, mIf, bIf, bAnd, bOr, bNot, tVal, tTru, tTru2, asB, truD, mOp2, mOp, mC, mV, mMv, rd, mCBV, mCB, mCall, mCallI, mFz, mNeg, mTup, mLst, aCons, aNil, mAndV, mOrV, mNotV, mSl, oNone, oSome, gSl,
  bnd_ok, bnd_er, got_ok, gNm, gTp, gsCons, gsNil, gSubL, mMut, fApp, fPop, iVal, iRng, rngD1, rngD2, itemsD, mCh, cLast, cLink, tYesD,
  List.map_cons, List.map_nil, List.length_cons, List.length_nil, List.replicate, List.cons_append, List.nil_append, List.append_nil, List.getElem?_cons_zero, List.getElem?_cons_succ, List.set_cons_zero, List.set_cons_succ, Option.map_some, Option.join_some, Option.isSome_some, Option.bind_some,
  noOwn_int, noOwn_bl, noOwn_str, noOwn_non, noOwn_ty, noOwn_lst, noOwn_tup, noOwn_dit, noOwns_nil, noOwns_cons, noOwns_ints, fz_int, fz_bl, fz_str, fz_non, if_true, if_false, Bool.and_self, Bool.and_true, Bool.true_and, Bool.false_and, Bool.and_false, decide_true, decide_false, Bool.false_eq_true,
  gAdd_int, gSub_int, gLt_int, gLe_int, gGt_int, gGe_int, gEqA_int, gNeA_int, gEqA_str, gNeA_str, gLen, gInt, gAbs, gSum, intsOf_map, reduceCtorEq, ne_eq, not_false_eq_true, not_true_eq_false, and_self, and_true, true_and, and_false, false_and, Nat.reduceAdd, Nat.reduceSub, Nat.reduceMul, Nat.reduceLT, Nat.reduceLeDiff, Nat.zero_add, Int.reduceNeg, Int.reduceLT, Int.reduceLE, Int.reduceAdd, Int.reduceSub, Int.reduceMul, Int.reduceEq, Int.reduceNe, b_why_not, e, hn]
theorem its_ok (d : D) (hn : noOwn d = true) : getIts [("given", d)] [.inl "strip", .inr "given"] = some [.str "strip", d] := by
  simp [getIts, hn]
theorem call_bad (w : Int) (d : D) (n : Int) (hn : noOwn d = true) (h : m_is_strip [d] = some (.ok (.bl false), none)) : m__law_call [.int w, d, .int n] = some (.ok (.lst .own [.str "strip", d]), none) := by
  have e1 := folds_bad d hn h
  have e2 := why_bad d hn h
  have e3 := its_ok d hn
  rw [u__law_call]
  unfold b__law_call sTry1
  by_cases hw : w = 0 <;> by_cases hz : n = 0 <;> simp only [finM_ret, finM_nx, finM_err, finI_ret, sRet, sRetN, sEx, andThen, sAs, sSeq, sIf, sNx, sPar, sPar3, sRaise, mIf, bIf, bAnd, bOr, bNot, tVal, tTru, tTru2, asB, truD, mOp2, mOp, mC, mV, mMv, rd, mCBV, mCB, mCall, mCallI, mFz, mNeg, mTup, mLst, aCons, aNil, mAndV, mOrV, mNotV, mSl, oNone, oSome, gSl,
  bnd_ok, bnd_er, got_ok, gNm, gTp, gsCons, gsNil, gSubL, mMut, fApp, fPop, iVal, iRng, rngD1, rngD2, itemsD, mCh, cLast, cLink, tYesD,
  List.map_cons, List.map_nil, List.length_cons, List.length_nil, List.replicate, List.cons_append, List.nil_append, List.append_nil, List.getElem?_cons_zero, List.getElem?_cons_succ, List.set_cons_zero, List.set_cons_succ, Option.map_some, Option.join_some, Option.isSome_some, Option.bind_some,
  noOwn_int, noOwn_bl, noOwn_str, noOwn_non, noOwn_ty, noOwn_lst, noOwn_tup, noOwn_dit, noOwns_nil, noOwns_cons, noOwns_ints, fz_int, fz_bl, fz_str, fz_non, if_true, if_false, Bool.and_self, Bool.and_true, Bool.true_and, Bool.false_and, Bool.and_false, decide_true, decide_false, Bool.false_eq_true,
  gAdd_int, gSub_int, gLt_int, gLe_int, gGt_int, gGe_int, gEqA_int, gNeA_int, gEqA_str, gNeA_str, gLen, gInt, gAbs, gSum, intsOf_map, reduceCtorEq, ne_eq, not_false_eq_true, not_true_eq_false, and_self, and_true, true_and, and_false, false_and, Nat.reduceAdd, Nat.reduceSub, Nat.reduceMul, Nat.reduceLT, Nat.reduceLeDiff, Nat.zero_add, Int.reduceNeg, Int.reduceLT, Int.reduceLE, Int.reduceAdd, Int.reduceSub, Int.reduceMul, Int.reduceEq, Int.reduceNe, e1, e2, e3, hn, hw, hz]
theorem fz_enc (x : Int × Int × Int) : fz (tD x) = tD x := fz_same _ (by simp [tD, noOwn, noOwns])
theorem fz_why (bs : List Bool) : fz (whyD bs) = whyD bs := fz_same _ (no_why bs)
theorem lk_why (bs : List Bool) : lkB (whyD bs) (whyD bs) = true ∧ szD (whyD bs) ≤ 10 := by
  unfold whyD
  split
  · exact ⟨rfl, by decide⟩
  · split
    · simp [lkB, lksB, szD, szs]
    · simp [lkB, lksB, szD, szs, tD]
noncomputable def dueM : EM := mIf (tTru2 (.sl 3)) (mC .non) (mIf (tVal (mOp2 gNeA (.sl 2) (.ev (mTup (aCons (mC (.int 0)) (aCons (mC (.int 1)) (aCons (mC (.int 2)) aNil))))))) (mTup (aCons (mC (.str "away")) (aCons (mV 2) aNil))) (mTup (aCons (mC (.str "bent")) (aCons (mCBV 0 gLen aNil) aNil))))
theorem right_eq : b__law_right = (sSeq (sPar 2 3 (aCons (mCall m__law_home (aCons (mV 0) aNil)) (aCons (mOp2 gGt (.ev (mCall m__law_counted (aCons (mV 0) aNil))) (.ev (mC (.int 0)))) aNil))) (sSeq (sIf (tVal (mOp2 gNeA (.sl 3) (.ev (mAndV (mOp2 gEqA (.sl 2) (.ev (mTup (aCons (mC (.int 0)) (aCons (mC (.int 1)) (aCons (mC (.int 2)) aNil)))))) (mOp2 (gIn fun b => b) (.ev (mC (.str "+"))) (.sl 0))))))
 (sRet (mC (.bl false)))
 sNx) (sSeq (sAs dueM (gNm 4)) (sRet (mCall m__law_like (aCons (mLst (aCons (mCall m__law_call (aCons (mC (.int 0)) (aCons (mV 0) (aCons (mV 1) aNil)))) (aCons (mCall m__law_call (aCons (mC (.int 1)) (aCons (mV 0) (aCons (mOp2 gSub (.ev (mC (.int 1))) (.sl 1)) aNil)))) (aCons (mCall m__law_call (aCons (mC (.int 1)) (aCons (mV 0) (aCons (mV 1) aNil)))) aNil)))) (aCons (mLst (aCons (mLst (aCons (mC (.str "told")) (aCons (mV 3) aNil))) (aCons (mLst (aCons (mC (.str "told")) (aCons (mV 4) aNil))) (aCons (mLst (aCons (mC (.str "told")) (aCons (mV 4) aNil))) aNil)))) aNil))))))) := rfl
theorem due_ok (bs : List Bool) (n : Int) (hl : bs.length ≤ 24) : dueM [some (.str (mkS bs)), some (.int n), some (tD (enc (prod bs))), some (.bl (fits bs)), none] = some (.ok (whyD bs), [some (.str (mkS bs)), some (.int n), some (tD (enc (prod bs))), some (.bl (fits bs)), none]) := by
  have e3 : gNeA (tD (enc (prod bs))) (.tup false [.int 0, .int 1, .int 2]) = some (.bl (!decide (prod bs = 0))) := ne_home (c := false) (c' := false) (prod bs)
  have hl2 : bs.length ≤ 1000000 := by omega
  have n1 : noOwn (tD (enc (prod bs))) = true := by simp [tD, noOwn, noOwns]
  unfold whyD
  cases hf : fits bs
  · by_cases h : prod bs = 0
    · rw [decide_eq_true h] at e3
      rw [h] at e3 n1 ⊢
      simp only [finM_ret, finM_nx, finM_err, finI_ret, sRet, sRetN, sEx, andThen, sAs, sSeq, sIf, sNx, sPar, sPar3, sRaise, mIf, bIf, bAnd, bOr, bNot, tVal, tTru, tTru2, asB, truD, mOp2, mOp, mC, mV, mMv, rd, mCBV, mCB, mCall, mCallI, mFz, mNeg, mTup, mLst, aCons, aNil, mAndV, mOrV, mNotV, mSl, oNone, oSome, gSl,
  bnd_ok, bnd_er, got_ok, gNm, gTp, gsCons, gsNil, gSubL, mMut, fApp, fPop, iVal, iRng, rngD1, rngD2, itemsD, mCh, cLast, cLink, tYesD,
  List.map_cons, List.map_nil, List.length_cons, List.length_nil, List.replicate, List.cons_append, List.nil_append, List.append_nil, List.getElem?_cons_zero, List.getElem?_cons_succ, List.set_cons_zero, List.set_cons_succ, Option.map_some, Option.join_some, Option.isSome_some, Option.bind_some,
  noOwn_int, noOwn_bl, noOwn_str, noOwn_non, noOwn_ty, noOwn_lst, noOwn_tup, noOwn_dit, noOwns_nil, noOwns_cons, noOwns_ints, fz_int, fz_bl, fz_str, fz_non, if_true, if_false, Bool.and_self, Bool.and_true, Bool.true_and, Bool.false_and, Bool.and_false, decide_true, decide_false, Bool.false_eq_true,
  gAdd_int, gSub_int, gLt_int, gLe_int, gGt_int, gGe_int, gEqA_int, gNeA_int, gEqA_str, gNeA_str, gLen, gInt, gAbs, gSum, intsOf_map, reduceCtorEq, ne_eq, not_false_eq_true, not_true_eq_false, and_self, and_true, true_and, and_false, false_and, Nat.reduceAdd, Nat.reduceSub, Nat.reduceMul, Nat.reduceLT, Nat.reduceLeDiff, Nat.zero_add, Int.reduceNeg, Int.reduceLT, Int.reduceLE, Int.reduceAdd, Int.reduceSub, Int.reduceMul, Int.reduceEq, Int.reduceNe, dueM, e3, n1, hl2, mkS_len, Bool.not_true]
    · rw [decide_eq_false h] at e3
      simp only [finM_ret, finM_nx, finM_err, finI_ret, sRet, sRetN, sEx, andThen, sAs, sSeq, sIf, sNx, sPar, sPar3, sRaise, mIf, bIf, bAnd, bOr, bNot, tVal, tTru, tTru2, asB, truD, mOp2, mOp, mC, mV, mMv, rd, mCBV, mCB, mCall, mCallI, mFz, mNeg, mTup, mLst, aCons, aNil, mAndV, mOrV, mNotV, mSl, oNone, oSome, gSl,
  bnd_ok, bnd_er, got_ok, gNm, gTp, gsCons, gsNil, gSubL, mMut, fApp, fPop, iVal, iRng, rngD1, rngD2, itemsD, mCh, cLast, cLink, tYesD,
  List.map_cons, List.map_nil, List.length_cons, List.length_nil, List.replicate, List.cons_append, List.nil_append, List.append_nil, List.getElem?_cons_zero, List.getElem?_cons_succ, List.set_cons_zero, List.set_cons_succ, Option.map_some, Option.join_some, Option.isSome_some, Option.bind_some,
  noOwn_int, noOwn_bl, noOwn_str, noOwn_non, noOwn_ty, noOwn_lst, noOwn_tup, noOwn_dit, noOwns_nil, noOwns_cons, noOwns_ints, fz_int, fz_bl, fz_str, fz_non, if_true, if_false, Bool.and_self, Bool.and_true, Bool.true_and, Bool.false_and, Bool.and_false, decide_true, decide_false, Bool.false_eq_true,
  gAdd_int, gSub_int, gLt_int, gLe_int, gGt_int, gGe_int, gEqA_int, gNeA_int, gEqA_str, gNeA_str, gLen, gInt, gAbs, gSum, intsOf_map, reduceCtorEq, ne_eq, not_false_eq_true, not_true_eq_false, and_self, and_true, true_and, and_false, false_and, Nat.reduceAdd, Nat.reduceSub, Nat.reduceMul, Nat.reduceLT, Nat.reduceLeDiff, Nat.zero_add, Int.reduceNeg, Int.reduceLT, Int.reduceLE, Int.reduceAdd, Int.reduceSub, Int.reduceMul, Int.reduceEq, Int.reduceNe, dueM, e3, n1, hl2, mkS_len, Bool.not_false, h]
  · simp only [finM_ret, finM_nx, finM_err, finI_ret, sRet, sRetN, sEx, andThen, sAs, sSeq, sIf, sNx, sPar, sPar3, sRaise, mIf, bIf, bAnd, bOr, bNot, tVal, tTru, tTru2, asB, truD, mOp2, mOp, mC, mV, mMv, rd, mCBV, mCB, mCall, mCallI, mFz, mNeg, mTup, mLst, aCons, aNil, mAndV, mOrV, mNotV, mSl, oNone, oSome, gSl,
  bnd_ok, bnd_er, got_ok, gNm, gTp, gsCons, gsNil, gSubL, mMut, fApp, fPop, iVal, iRng, rngD1, rngD2, itemsD, mCh, cLast, cLink, tYesD,
  List.map_cons, List.map_nil, List.length_cons, List.length_nil, List.replicate, List.cons_append, List.nil_append, List.append_nil, List.getElem?_cons_zero, List.getElem?_cons_succ, List.set_cons_zero, List.set_cons_succ, Option.map_some, Option.join_some, Option.isSome_some, Option.bind_some,
  noOwn_int, noOwn_bl, noOwn_str, noOwn_non, noOwn_ty, noOwn_lst, noOwn_tup, noOwn_dit, noOwns_nil, noOwns_cons, noOwns_ints, fz_int, fz_bl, fz_str, fz_non, if_true, if_false, Bool.and_self, Bool.and_true, Bool.true_and, Bool.false_and, Bool.and_false, decide_true, decide_false, Bool.false_eq_true,
  gAdd_int, gSub_int, gLt_int, gLe_int, gGt_int, gGe_int, gEqA_int, gNeA_int, gEqA_str, gNeA_str, gLen, gInt, gAbs, gSum, intsOf_map, reduceCtorEq, ne_eq, not_false_eq_true, not_true_eq_false, and_self, and_true, true_and, and_false, false_and, Nat.reduceAdd, Nat.reduceSub, Nat.reduceMul, Nat.reduceLT, Nat.reduceLeDiff, Nat.zero_add, Int.reduceNeg, Int.reduceLT, Int.reduceLE, Int.reduceAdd, Int.reduceSub, Int.reduceMul, Int.reduceEq, Int.reduceNe, dueM]
theorem right_ok (bs : List Bool) (n : Int) (h3 : 3 ≤ bs.length) (h24 : bs.length ≤ 24) : m__law_right [.str (mkS bs), .int n] = some (.ok (.bl true), none) := by
  obtain ⟨c, e1, e2⟩ := counted_ok bs h3 h24
  have e3 := home_ok bs
  have a1 : sPar 2 3 (aCons (mCall m__law_home (aCons (mV 0) aNil)) (aCons (mOp2 gGt (.ev (mCall m__law_counted (aCons (mV 0) aNil))) (.ev (mC (.int 0)))) aNil)) [some (.str (mkS bs)), some (.int n), none, none, none] = some (.nx, [some (.str (mkS bs)), some (.int n), some (tD (enc (prod bs))), some (.bl (fits bs)), none]) := by
    simp only [finM_ret, finM_nx, finM_err, finI_ret, sRet, sRetN, sEx, andThen, sAs, sSeq, sIf, sNx, sPar, sPar3, sRaise, mIf, bIf, bAnd, bOr, bNot, tVal, tTru, tTru2, asB, truD, mOp2, mOp, mC, mV, mMv, rd, mCBV, mCB, mCall, mCallI, mFz, mNeg, mTup, mLst, aCons, aNil, mAndV, mOrV, mNotV, mSl, oNone, oSome, gSl,
  bnd_ok, bnd_er, got_ok, gNm, gTp, gsCons, gsNil, gSubL, mMut, fApp, fPop, iVal, iRng, rngD1, rngD2, itemsD, mCh, cLast, cLink, tYesD,
  List.map_cons, List.map_nil, List.length_cons, List.length_nil, List.replicate, List.cons_append, List.nil_append, List.append_nil, List.getElem?_cons_zero, List.getElem?_cons_succ, List.set_cons_zero, List.set_cons_succ, Option.map_some, Option.join_some, Option.isSome_some, Option.bind_some,
  noOwn_int, noOwn_bl, noOwn_str, noOwn_non, noOwn_ty, noOwn_lst, noOwn_tup, noOwn_dit, noOwns_nil, noOwns_cons, noOwns_ints, fz_int, fz_bl, fz_str, fz_non, if_true, if_false, Bool.and_self, Bool.and_true, Bool.true_and, Bool.false_and, Bool.and_false, decide_true, decide_false, Bool.false_eq_true,
  gAdd_int, gSub_int, gLt_int, gLe_int, gGt_int, gGe_int, gEqA_int, gNeA_int, gEqA_str, gNeA_str, gLen, gInt, gAbs, gSum, intsOf_map, reduceCtorEq, ne_eq, not_false_eq_true, not_true_eq_false, and_self, and_true, true_and, and_false, false_and, Nat.reduceAdd, Nat.reduceSub, Nat.reduceMul, Nat.reduceLT, Nat.reduceLeDiff, Nat.zero_add, Int.reduceNeg, Int.reduceLT, Int.reduceLE, Int.reduceAdd, Int.reduceSub, Int.reduceMul, Int.reduceEq, Int.reduceNe, e1, e3, e2]
  have g1 : gEqA (tD (enc (prod bs))) (.tup false [.int 0, .int 1, .int 2]) = some (.bl (decide (prod bs = 0))) := eq_home (c := false) (c' := false) (prod bs)
  have g2 := in_plus bs
  have a2 : (sIf (tVal (mOp2 gNeA (.sl 3) (.ev (mAndV (mOp2 gEqA (.sl 2) (.ev (mTup (aCons (mC (.int 0)) (aCons (mC (.int 1)) (aCons (mC (.int 2)) aNil)))))) (mOp2 (gIn fun b => b) (.ev (mC (.str "+"))) (.sl 0))))))
 (sRet (mC (.bl false))) sNx) [some (.str (mkS bs)), some (.int n), some (tD (enc (prod bs))), some (.bl (fits bs)), none] = some (.nx, [some (.str (mkS bs)), some (.int n), some (tD (enc (prod bs))), some (.bl (fits bs)), none]) := by
    have n0 : ∀ b : Bool, gNeA (.bl b) (.bl b) = some (.bl false) := fun b => by rw [gNeA_bl, decide_eq_true rfl]; rfl
    have n1 := n0 (fits bs)
    unfold fits at n1 ⊢
    by_cases h : prod bs = 0
    · rw [decide_eq_true h] at g1 n1 ⊢
      simp only [Bool.true_and] at n1 ⊢
      simp only [finM_ret, finM_nx, finM_err, finI_ret, sRet, sRetN, sEx, andThen, sAs, sSeq, sIf, sNx, sPar, sPar3, sRaise, mIf, bIf, bAnd, bOr, bNot, tVal, tTru, tTru2, asB, truD, mOp2, mOp, mC, mV, mMv, rd, mCBV, mCB, mCall, mCallI, mFz, mNeg, mTup, mLst, aCons, aNil, mAndV, mOrV, mNotV, mSl, oNone, oSome, gSl,
  bnd_ok, bnd_er, got_ok, gNm, gTp, gsCons, gsNil, gSubL, mMut, fApp, fPop, iVal, iRng, rngD1, rngD2, itemsD, mCh, cLast, cLink, tYesD,
  List.map_cons, List.map_nil, List.length_cons, List.length_nil, List.replicate, List.cons_append, List.nil_append, List.append_nil, List.getElem?_cons_zero, List.getElem?_cons_succ, List.set_cons_zero, List.set_cons_succ, Option.map_some, Option.join_some, Option.isSome_some, Option.bind_some,
  noOwn_int, noOwn_bl, noOwn_str, noOwn_non, noOwn_ty, noOwn_lst, noOwn_tup, noOwn_dit, noOwns_nil, noOwns_cons, noOwns_ints, fz_int, fz_bl, fz_str, fz_non, if_true, if_false, Bool.and_self, Bool.and_true, Bool.true_and, Bool.false_and, Bool.and_false, decide_true, decide_false, Bool.false_eq_true,
  gAdd_int, gSub_int, gLt_int, gLe_int, gGt_int, gGe_int, gEqA_int, gNeA_int, gEqA_str, gNeA_str, gLen, gInt, gAbs, gSum, intsOf_map, reduceCtorEq, ne_eq, not_false_eq_true, not_true_eq_false, and_self, and_true, true_and, and_false, false_and, Nat.reduceAdd, Nat.reduceSub, Nat.reduceMul, Nat.reduceLT, Nat.reduceLeDiff, Nat.zero_add, Int.reduceNeg, Int.reduceLT, Int.reduceLE, Int.reduceAdd, Int.reduceSub, Int.reduceMul, Int.reduceEq, Int.reduceNe, g1, g2, n1]
    · rw [decide_eq_false h] at g1 n1 ⊢
      simp only [Bool.false_and] at n1 ⊢
      simp only [finM_ret, finM_nx, finM_err, finI_ret, sRet, sRetN, sEx, andThen, sAs, sSeq, sIf, sNx, sPar, sPar3, sRaise, mIf, bIf, bAnd, bOr, bNot, tVal, tTru, tTru2, asB, truD, mOp2, mOp, mC, mV, mMv, rd, mCBV, mCB, mCall, mCallI, mFz, mNeg, mTup, mLst, aCons, aNil, mAndV, mOrV, mNotV, mSl, oNone, oSome, gSl,
  bnd_ok, bnd_er, got_ok, gNm, gTp, gsCons, gsNil, gSubL, mMut, fApp, fPop, iVal, iRng, rngD1, rngD2, itemsD, mCh, cLast, cLink, tYesD,
  List.map_cons, List.map_nil, List.length_cons, List.length_nil, List.replicate, List.cons_append, List.nil_append, List.append_nil, List.getElem?_cons_zero, List.getElem?_cons_succ, List.set_cons_zero, List.set_cons_succ, Option.map_some, Option.join_some, Option.isSome_some, Option.bind_some,
  noOwn_int, noOwn_bl, noOwn_str, noOwn_non, noOwn_ty, noOwn_lst, noOwn_tup, noOwn_dit, noOwns_nil, noOwns_cons, noOwns_ints, fz_int, fz_bl, fz_str, fz_non, if_true, if_false, Bool.and_self, Bool.and_true, Bool.true_and, Bool.false_and, Bool.and_false, decide_true, decide_false, Bool.false_eq_true,
  gAdd_int, gSub_int, gLt_int, gLe_int, gGt_int, gGe_int, gEqA_int, gNeA_int, gEqA_str, gNeA_str, gLen, gInt, gAbs, gSum, intsOf_map, reduceCtorEq, ne_eq, not_false_eq_true, not_true_eq_false, and_self, and_true, true_and, and_false, false_and, Nat.reduceAdd, Nat.reduceSub, Nat.reduceMul, Nat.reduceLT, Nat.reduceLeDiff, Nat.zero_add, Int.reduceNeg, Int.reduceLT, Int.reduceLE, Int.reduceAdd, Int.reduceSub, Int.reduceMul, Int.reduceEq, Int.reduceNe, g1, n1]
  have a3 : sAs dueM (gNm 4) [some (.str (mkS bs)), some (.int n), some (tD (enc (prod bs))), some (.bl (fits bs)), none] = some (.nx, [some (.str (mkS bs)), some (.int n), some (tD (enc (prod bs))), some (.bl (fits bs)), some (whyD bs)]) := by
    unfold sAs
    rw [andThen_ok (due_ok bs n h24)]
    rfl
  have c0 := fun k => call0_ok bs k h3 h24
  have c1 := fun k => call1_ok bs k h3 h24
  have nw := no_why bs
  have lw := lk_why bs
  have fw := fz_why bs
  have lk : m__law_like [.lst .own [.lst .own [.str "told", .bl (fits bs)], .lst .own [.str "told", whyD bs], .lst .own [.str "told", whyD bs]], .lst .own [.lst .own [.str "told", .bl (fits bs)], .lst .own [.str "told", whyD bs], .lst .own [.str "told", whyD bs]]] = some (.ok (.bl true), none) := by
    apply like_ok
    · simp only [fz_lst, fzs_cons, fzs_nil, fw, fz_str, fz_bl, lkB, lksB, lw.1, decide_true, Bool.and_self]
    · simp only [fz_lst, fzs_cons, fzs_nil, fw, fz_str, fz_bl, szD, szs]
      have := lw.2
      omega
  rw [u__law_right, right_eq, seq_nx a1, seq_nx a2, seq_nx a3]
  simp only [finM_ret, finM_nx, finM_err, finI_ret, sRet, sRetN, sEx, andThen, sAs, sSeq, sIf, sNx, sPar, sPar3, sRaise, mIf, bIf, bAnd, bOr, bNot, tVal, tTru, tTru2, asB, truD, mOp2, mOp, mC, mV, mMv, rd, mCBV, mCB, mCall, mCallI, mFz, mNeg, mTup, mLst, aCons, aNil, mAndV, mOrV, mNotV, mSl, oNone, oSome, gSl,
  bnd_ok, bnd_er, got_ok, gNm, gTp, gsCons, gsNil, gSubL, mMut, fApp, fPop, iVal, iRng, rngD1, rngD2, itemsD, mCh, cLast, cLink, tYesD,
  List.map_cons, List.map_nil, List.length_cons, List.length_nil, List.replicate, List.cons_append, List.nil_append, List.append_nil, List.getElem?_cons_zero, List.getElem?_cons_succ, List.set_cons_zero, List.set_cons_succ, Option.map_some, Option.join_some, Option.isSome_some, Option.bind_some,
  noOwn_int, noOwn_bl, noOwn_str, noOwn_non, noOwn_ty, noOwn_lst, noOwn_tup, noOwn_dit, noOwns_nil, noOwns_cons, noOwns_ints, fz_int, fz_bl, fz_str, fz_non, if_true, if_false, Bool.and_self, Bool.and_true, Bool.true_and, Bool.false_and, Bool.and_false, decide_true, decide_false, Bool.false_eq_true,
  gAdd_int, gSub_int, gLt_int, gLe_int, gGt_int, gGe_int, gEqA_int, gNeA_int, gEqA_str, gNeA_str, gLen, gInt, gAbs, gSum, intsOf_map, reduceCtorEq, ne_eq, not_false_eq_true, not_true_eq_false, and_self, and_true, true_and, and_false, false_and, Nat.reduceAdd, Nat.reduceSub, Nat.reduceMul, Nat.reduceLT, Nat.reduceLeDiff, Nat.zero_add, Int.reduceNeg, Int.reduceLT, Int.reduceLE, Int.reduceAdd, Int.reduceSub, Int.reduceMul, Int.reduceEq, Int.reduceNe, c0, c1, nw, lk]
end Fk07

set_option maxHeartbeats 4000000
namespace Fk07
open PySem PySem.Spec PyProof.Rows L2 Fx
/-! ### texts of signs -/
theorem e_str : ("" : Str) = ⟨#[]⟩ := by decide +kernel
theorem pm_str : ("+-" : Str) = mkS [true, false] := by decide +kernel
theorem strsOf_sg (bs : List Bool) : strsOf (bs.map fun b => D.str (sg b)) = some (bs.map sg) := by
  induction bs with
  | nil => rfl
  | cons b bs ih =>
    show (strsOf (bs.map fun b => D.str (sg b))).map (sg b :: ·) = _
    rw [ih]
    rfl
theorem sum_sg (bs : List Bool) : ((bs.map sg).map (·.length)).sum = bs.length := by
  induction bs with
  | nil => rfl
  | cons b bs ih =>
    simp only [List.map_cons, List.sum_cons, ih, List.length_cons, show (sg b).length = 1 from rfl]
    omega
theorem join_sg (bs : List Bool) : Txt.join ⟨#[]⟩ (bs.map sg) = mkS bs := by
  show Builtin.Str.glued _ _ = _
  rw [PySem.StrLaws.glued_eq_join]
  have := join_ones (bs.map cd)
  rw [List.map_map] at this
  exact this
theorem join_ok {o : Ow} (bs : List Bool) (hl : bs.length ≤ 1000) : gJoin (.str "") (.lst o (bs.map fun b => D.str (sg b))) = some (.str (mkS bs)) := by
  rw [e_str]
  simp only [gJoin, strsOf_sg, Option.bind_some, sum_sg, join_sg]
  rw [if_pos]
  rw [show (⟨#[]⟩ : Str).length = 0 from rfl, Nat.mul_zero]
  omega
theorem app_mkS (a b : List Bool) : mkS a ++ mkS b = mkS (a ++ b) := by
  show (⟨(a.map cd).toArray ++ (b.map cd).toArray⟩ : Str) = ⟨((a ++ b).map cd).toArray⟩
  simp
theorem add_ok (a b : List Bool) (ha : a.length ≤ 1000) (hb : b.length ≤ 1000) : gAdd (.str (mkS a)) (.str (mkS b)) = some (.str (mkS (a ++ b))) := by
  simp only [gAdd, gCatS, mkS_len, app_mkS]
  rw [if_pos (by omega)]
theorem cut_mkS (bs : List Bool) (lo hi : Option Int) : cutS (mkS bs) lo hi = mkS ((bs.drop (HT.sIx bs.length 0 lo)).take (HT.sIx bs.length bs.length hi - HT.sIx bs.length 0 lo)) := by
  unfold cutS
  rw [mkS_list, mkS_len, ← List.map_drop, ← List.map_take]
  rfl
theorem sl_ok (bs : List Bool) (lo hi : Option Int) (h : bs.length ≤ 1000) : gSl (.str (mkS bs)) lo hi = some (.str (mkS ((bs.drop (HT.sIx bs.length 0 lo)).take (HT.sIx bs.length bs.length hi - HT.sIx bs.length 0 lo)))) := by
  simp only [gSl, mkS_len]
  rw [if_pos (by omega), cut_mkS]
theorem rev_mkS (bs : List Bool) : revS (mkS bs) = mkS bs.reverse := by
  unfold revS
  rw [mkS_list]
  unfold mkS
  rw [List.map_reverse]
theorem ix_mkS (bs : List Bool) (k : Nat) (h : k < bs.length) (hl : bs.length ≤ 1000) : gIx (.str (mkS bs)) (.int k) = some (.str (sg bs[k])) := by
  have h1 : k < (mkS bs).cps.toList.length := by rw [mkS_list]; simpa using h
  rw [gIx_str h1 (by rw [mkS_len]; omega)]
  have : (mkS bs).cps.toList[k] = cd bs[k] := by
    simp only [mkS_list, List.getElem_map]
  rw [this]
  rfl
def bOf (i : Int) : Bool := decide (i = 0)
theorem pm_ix {i : Int} (h0 : 0 ≤ i) (h1 : i < 2) : gIx (.str "+-") (.int i) = some (.str (sg (bOf i))) := by
  rw [pm_str]
  have : i = 0 ∨ i = 1 := by omega
  rcases this with rfl | rfl
  · exact ix_mkS [true, false] 0 (by decide) (by decide)
  · exact ix_mkS [true, false] 1 (by decide) (by decide)
theorem mul_sg (b : Bool) (n : Nat) (hn : n ≤ 1000) : gMul (.str (sg b)) (.int n) = some (.str (mkS (List.replicate n b))) := by
  have e : Txt.mul (sg b) n = mkS (List.replicate n b) := by
    have h := mul_one_list (cd b) n
    have h2 : (Txt.mul (sg b) n).cps.toList = (mkS (List.replicate n b)).cps.toList := by
      rw [mkS_list, List.map_replicate]
      exact h
    have h3 : ∀ s t : Str, s.cps.toList = t.cps.toList → s = t := by
      intro ⟨s⟩ ⟨t⟩ h
      simp only at h
      congr 1
      exact Array.toList_inj.mp h
    exact h3 _ _ h2
  simp only [gMul, e]
  rw [if_pos ⟨by omega, by omega, show 1 ≤ 1000 by decide⟩]
theorem and1 (x : Int) : 0 ≤ Builtin.bitAnd x 1 ∧ Builtin.bitAnd x 1 < 2 := by
  rw [bitAnd_m1]
  omega
end Fk07

set_option maxHeartbeats 4000000
namespace Fk07
open PySem PySem.Spec PyProof.Rows L2 Fx
noncomputable def turnB : SM := (sSeq (sAs (mIf (bOr (tVal (mOp2 gNeA (.sl 2) (.ev (mC (.int 1))))) (tVal (mOp2 gEqA (.ev (mCallI 0 m__law_take (aCons (mC (.int 3)) aNil))) (.ev (mC (.int 0)))))) (mCallI 0 m__law_take (aCons (mC (.int 2)) aNil)) (mV 3)) (gNm 3)) (sEx (mMut 4 fApp (aCons (mOp2 gIx (.ev (mC (.str "+-"))) (.sl 3)) aNil))))
noncomputable def numB : SM := (sSeq (sAs (mJoin (mC (.str "")) (mLc [9] (iRng rngD1 (aCons (mC (.int 3)) aNil)) (gNm 9) tYesD (mOp2 gIx (.ev (mC (.str "+-"))) (.ev (mOp2 gAnd (.ev (mCB gInt (aCons (mOp2 gShr (.sl 7) (.sl 9)) aNil))) (.ev (mC (.int 1)))))))) (gNm 8)) (sIf (tVal (mOp2 gEqA (.ev (mCall m__law_home (aCons (mOp2 gAdd (.ev (mSl (mV 6) oNone (oSome (mNeg (mC (.int 3)))))) (.sl 8)) aNil))) (.ev (mTup (aCons (mC (.int 0)) (aCons (mC (.int 1)) (aCons (mC (.int 2)) aNil)))))))
 (sRet (mOp2 gAdd (.ev (mSl (mV 6) oNone (oSome (mNeg (mC (.int 3)))))) (.sl 8)))
 sNx))
theorem join_m {m : EM} {S S1 : Sl} {s : Str} {e z : D} (h : m S = some (.ok e, S1)) (hj : gJoin (.str s) e = some z) : mJoin (mC (.str s)) m S = some (.ok z, S1) := by
  simp only [mJoin, mC, bnd_ok, isStr, if_true, h, hj, got_ok]
theorem slice_m {i : Nat} {S : Sl} {s : Str} {z : D} {lo hi : Option Int} {l u : OM} (h : S[i]? = some (some (.str s))) (hl : l S = some (.ok lo, S)) (hu : u S = some (.ok hi, S)) (g : gSl (.str s) lo hi = some z) : mSl (mV i) l u S = some (.ok z, S) := by
  simp only [mSl, mV_no h noOwn_str, bnd_ok, hl, hu, g, got_ok]
theorem op2_es {g : D → D → Option D} {j : Nat} {a : EM} {S S1 : Sl} {d e z : D} (ha : a S = some (.ok d, S1)) (h1 : S1[j]? = some (some e)) (hg : g d e = some z) : mOp2 g (.ev a) (.sl j) S = some (.ok z, S1) := by
  simp only [mOp2, rd, ha, bnd_ok, h1, hg, got_ok]
theorem op2_ee {g : D → D → Option D} {a b : EM} {S S1 S2 : Sl} {d e z : D} (ha : a S = some (.ok d, S1)) (hb : b S1 = some (.ok e, S2)) (hg : g d e = some z) : mOp2 g (.ev a) (.ev b) S = some (.ok z, S2) := by
  simp only [mOp2, mOp, ha, hb, bnd_ok, hg, got_ok]
theorem op2_ss {g : D → D → Option D} {i j : Nat} {S : Sl} {d e z : D} (ha : S[i]? = some (some d)) (hb : S[j]? = some (some e)) (hg : g d e = some z) : mOp2 g (.sl i) (.sl j) S = some (.ok z, S) := by
  simp only [mOp2, rd, ha, hb, hg, got_ok]
theorem tval_ok {m : EM} {S S1 : Sl} {b : Bool} (h : m S = some (.ok (.bl b), S1)) : tVal m S = some (.ok b, S1) := by
  simp only [tVal, h, bnd_ok, asB, got_ok]
theorem noOwns_sg (bs : List Bool) : noOwns (bs.map fun b => D.str (sg b)) = true := by
  induction bs with
  | nil => simp [noOwns]
  | cons b bs ih => simp [noOwns, noOwn, ih]
theorem turn_ok {B : Nat} {d : D} {many w la : Int} {bs : List Bool} {x5 x6 x7 x8 : Option D} (hB : Bx B d) (hBB : B ≤ 100000) (h0 : 0 ≤ la) (h1 : la < 2) (hl : bs.length ≤ 1000) :
    ∃ d' la', turnB [some d, some (.int many), some (.int w), some (.int la), some (.lst .own ((bs).map fun b => D.str (sg b))), x5, x6, x7, x8, none] = some (.nx, [some d', some (.int many), some (.int w), some (.int la'), some (.lst .own ((bs ++ [bOf la']).map fun b => D.str (sg b))), x5, x6, x7, x8, none]) ∧ Bx (B + 2) d' ∧ 0 ≤ la' ∧ la' < 2 := by
  have key : ∃ d' la', (mIf (bOr (tVal (mOp2 gNeA (.sl 2) (.ev (mC (.int 1))))) (tVal (mOp2 gEqA (.ev (mCallI 0 m__law_take (aCons (mC (.int 3)) aNil))) (.ev (mC (.int 0)))))) (mCallI 0 m__law_take (aCons (mC (.int 2)) aNil)) (mV 3)) [some d, some (.int many), some (.int w), some (.int la), some (.lst .own ((bs).map fun b => D.str (sg b))), x5, x6, x7, x8, none] = some (.ok (.int la'), [some d', some (.int many), some (.int w), some (.int la), some (.lst .own ((bs).map fun b => D.str (sg b))), x5, x6, x7, x8, none]) ∧ Bx (B + 2) d' ∧ 0 ≤ la' ∧ la' < 2 := by
    by_cases hw : w = 1
    · obtain ⟨k, d1, e1, k0, k1, hd1⟩ := take_ok (many := 3) hB (by omega) (by decide) (by decide)
      obtain ⟨k2, d2, e2, k20, k21, hd2⟩ := take_ok (many := 2) hd1 (by omega) (by decide) (by decide)
      by_cases hk : k = 0
      · refine ⟨d2, k2, ?_, hd2, k20, k21⟩
        simp only [finM_ret, finM_nx, finM_err, finI_ret, sRet, sRetN, sEx, andThen, sAs, sSeq, sIf, sNx, sPar, sPar3, sRaise, mIf, bIf, bAnd, bOr, bNot, tVal, tTru, tTru2, asB, truD, mOp2, mOp, mC, mV, mMv, rd, mCBV, mCB, mCall, mCallI, mFz, mNeg, mTup, mLst, aCons, aNil, mAndV, mOrV, mNotV, mSl, oNone, oSome, gSl,
  bnd_ok, bnd_er, got_ok, gNm, gTp, gsCons, gsNil, gSubL, mMut, fApp, fPop, iVal, iRng, rngD1, rngD2, itemsD, mCh, cLast, cLink, tYesD,
  List.map_cons, List.map_nil, List.length_cons, List.length_nil, List.replicate, List.cons_append, List.nil_append, List.append_nil, List.getElem?_cons_zero, List.getElem?_cons_succ, List.set_cons_zero, List.set_cons_succ, Option.map_some, Option.join_some, Option.isSome_some, Option.bind_some,
  noOwn_int, noOwn_bl, noOwn_str, noOwn_non, noOwn_ty, noOwn_lst, noOwn_tup, noOwn_dit, noOwns_nil, noOwns_cons, noOwns_ints, fz_int, fz_bl, fz_str, fz_non, if_true, if_false, Bool.and_self, Bool.and_true, Bool.true_and, Bool.false_and, Bool.and_false, decide_true, decide_false, Bool.false_eq_true,
  gAdd_int, gSub_int, gLt_int, gLe_int, gGt_int, gGe_int, gEqA_int, gNeA_int, gEqA_str, gNeA_str, gLen, gInt, gAbs, gSum, intsOf_map, reduceCtorEq, ne_eq, not_false_eq_true, not_true_eq_false, and_self, and_true, true_and, and_false, false_and, Nat.reduceAdd, Nat.reduceSub, Nat.reduceMul, Nat.reduceLT, Nat.reduceLeDiff, Nat.zero_add, Int.reduceNeg, Int.reduceLT, Int.reduceLE, Int.reduceAdd, Int.reduceSub, Int.reduceMul, Int.reduceEq, Int.reduceNe, hw, hk, e1, e2, Bool.not_true]
      · refine ⟨d1, la, ?_, hd1.mono (by omega), h0, h1⟩
        simp only [finM_ret, finM_nx, finM_err, finI_ret, sRet, sRetN, sEx, andThen, sAs, sSeq, sIf, sNx, sPar, sPar3, sRaise, mIf, bIf, bAnd, bOr, bNot, tVal, tTru, tTru2, asB, truD, mOp2, mOp, mC, mV, mMv, rd, mCBV, mCB, mCall, mCallI, mFz, mNeg, mTup, mLst, aCons, aNil, mAndV, mOrV, mNotV, mSl, oNone, oSome, gSl,
  bnd_ok, bnd_er, got_ok, gNm, gTp, gsCons, gsNil, gSubL, mMut, fApp, fPop, iVal, iRng, rngD1, rngD2, itemsD, mCh, cLast, cLink, tYesD,
  List.map_cons, List.map_nil, List.length_cons, List.length_nil, List.replicate, List.cons_append, List.nil_append, List.append_nil, List.getElem?_cons_zero, List.getElem?_cons_succ, List.set_cons_zero, List.set_cons_succ, Option.map_some, Option.join_some, Option.isSome_some, Option.bind_some,
  noOwn_int, noOwn_bl, noOwn_str, noOwn_non, noOwn_ty, noOwn_lst, noOwn_tup, noOwn_dit, noOwns_nil, noOwns_cons, noOwns_ints, fz_int, fz_bl, fz_str, fz_non, if_true, if_false, Bool.and_self, Bool.and_true, Bool.true_and, Bool.false_and, Bool.and_false, decide_true, decide_false, Bool.false_eq_true,
  gAdd_int, gSub_int, gLt_int, gLe_int, gGt_int, gGe_int, gEqA_int, gNeA_int, gEqA_str, gNeA_str, gLen, gInt, gAbs, gSum, intsOf_map, reduceCtorEq, ne_eq, not_false_eq_true, not_true_eq_false, and_self, and_true, true_and, and_false, false_and, Nat.reduceAdd, Nat.reduceSub, Nat.reduceMul, Nat.reduceLT, Nat.reduceLeDiff, Nat.zero_add, Int.reduceNeg, Int.reduceLT, Int.reduceLE, Int.reduceAdd, Int.reduceSub, Int.reduceMul, Int.reduceEq, Int.reduceNe, hw, hk, e1, Bool.not_true]
    · obtain ⟨k2, d2, e2, k20, k21, hd2⟩ := take_ok (many := 2) hB (by omega) (by decide) (by decide)
      refine ⟨d2, k2, ?_, hd2.mono (by omega), k20, k21⟩
      simp only [finM_ret, finM_nx, finM_err, finI_ret, sRet, sRetN, sEx, andThen, sAs, sSeq, sIf, sNx, sPar, sPar3, sRaise, mIf, bIf, bAnd, bOr, bNot, tVal, tTru, tTru2, asB, truD, mOp2, mOp, mC, mV, mMv, rd, mCBV, mCB, mCall, mCallI, mFz, mNeg, mTup, mLst, aCons, aNil, mAndV, mOrV, mNotV, mSl, oNone, oSome, gSl,
  bnd_ok, bnd_er, got_ok, gNm, gTp, gsCons, gsNil, gSubL, mMut, fApp, fPop, iVal, iRng, rngD1, rngD2, itemsD, mCh, cLast, cLink, tYesD,
  List.map_cons, List.map_nil, List.length_cons, List.length_nil, List.replicate, List.cons_append, List.nil_append, List.append_nil, List.getElem?_cons_zero, List.getElem?_cons_succ, List.set_cons_zero, List.set_cons_succ, Option.map_some, Option.join_some, Option.isSome_some, Option.bind_some,
  noOwn_int, noOwn_bl, noOwn_str, noOwn_non, noOwn_ty, noOwn_lst, noOwn_tup, noOwn_dit, noOwns_nil, noOwns_cons, noOwns_ints, fz_int, fz_bl, fz_str, fz_non, if_true, if_false, Bool.and_self, Bool.and_true, Bool.true_and, Bool.false_and, Bool.and_false, decide_true, decide_false, Bool.false_eq_true,
  gAdd_int, gSub_int, gLt_int, gLe_int, gGt_int, gGe_int, gEqA_int, gNeA_int, gEqA_str, gNeA_str, gLen, gInt, gAbs, gSum, intsOf_map, reduceCtorEq, ne_eq, not_false_eq_true, not_true_eq_false, and_self, and_true, true_and, and_false, false_and, Nat.reduceAdd, Nat.reduceSub, Nat.reduceMul, Nat.reduceLT, Nat.reduceLeDiff, Nat.zero_add, Int.reduceNeg, Int.reduceLT, Int.reduceLE, Int.reduceAdd, Int.reduceSub, Int.reduceMul, Int.reduceEq, Int.reduceNe, hw, e2, Bool.not_false]
  obtain ⟨d', la', e, q1, q2, q3⟩ := key
  refine ⟨d', la', ?_, q1, q2, q3⟩
  unfold turnB
  rw [seq_nx (S1 := [some d', some (.int many), some (.int w), some (.int la'), some (.lst .own ((bs).map fun b => D.str (sg b))), x5, x6, x7, x8, none]) (by unfold sAs; rw [andThen_ok e]; rfl)]
  have p := pm_ix q2 q3
  have n := noOwns_sg bs
  have hl2 : (bs.map fun b => D.str (sg b)).length < 1000000 := by rw [List.length_map]; omega
  rw [List.map_append]
  simp only [finM_ret, finM_nx, finM_err, finI_ret, sRet, sRetN, sEx, andThen, sAs, sSeq, sIf, sNx, sPar, sPar3, sRaise, mIf, bIf, bAnd, bOr, bNot, tVal, tTru, tTru2, asB, truD, mOp2, mOp, mC, mV, mMv, rd, mCBV, mCB, mCall, mCallI, mFz, mNeg, mTup, mLst, aCons, aNil, mAndV, mOrV, mNotV, mSl, oNone, oSome, gSl,
  bnd_ok, bnd_er, got_ok, gNm, gTp, gsCons, gsNil, gSubL, mMut, fApp, fPop, iVal, iRng, rngD1, rngD2, itemsD, mCh, cLast, cLink, tYesD,
  List.map_cons, List.map_nil, List.length_cons, List.length_nil, List.replicate, List.cons_append, List.nil_append, List.append_nil, List.getElem?_cons_zero, List.getElem?_cons_succ, List.set_cons_zero, List.set_cons_succ, Option.map_some, Option.join_some, Option.isSome_some, Option.bind_some,
  noOwn_int, noOwn_bl, noOwn_str, noOwn_non, noOwn_ty, noOwn_lst, noOwn_tup, noOwn_dit, noOwns_nil, noOwns_cons, noOwns_ints, fz_int, fz_bl, fz_str, fz_non, if_true, if_false, Bool.and_self, Bool.and_true, Bool.true_and, Bool.false_and, Bool.and_false, decide_true, decide_false, Bool.false_eq_true,
  gAdd_int, gSub_int, gLt_int, gLe_int, gGt_int, gGe_int, gEqA_int, gNeA_int, gEqA_str, gNeA_str, gLen, gInt, gAbs, gSum, intsOf_map, reduceCtorEq, ne_eq, not_false_eq_true, not_true_eq_false, and_self, and_true, true_and, and_false, false_and, Nat.reduceAdd, Nat.reduceSub, Nat.reduceMul, Nat.reduceLT, Nat.reduceLeDiff, Nat.zero_add, Int.reduceNeg, Int.reduceLT, Int.reduceLE, Int.reduceAdd, Int.reduceSub, Int.reduceMul, Int.reduceEq, Int.reduceNe, p, n, hl2]
theorem end_ok {d : D} {many w la : Int} {bs : List Bool} {x4 x5 x8 : Option D} {j : Int} :
    ∃ es : List Bool, es.length = 3 ∧ (mJoin (mC (.str "")) (mLc [9] (iRng rngD1 (aCons (mC (.int 3)) aNil)) (gNm 9) tYesD (mOp2 gIx (.ev (mC (.str "+-"))) (.ev (mOp2 gAnd (.ev (mCB gInt (aCons (mOp2 gShr (.sl 7) (.sl 9)) aNil))) (.ev (mC (.int 1)))))))) [some d, some (.int many), some (.int w), some (.int la), x4, x5, some (.str (mkS bs)), some (.int j), x8, none] = some (.ok (.str (mkS es)), [some d, some (.int many), some (.int w), some (.int la), x4, x5, some (.str (mkS bs)), some (.int j), x8, none]) := by
  refine ⟨(List.range 3).map fun k => bOf (Builtin.bitAnd (j / 2 ^ k) 1), by simp, ?_⟩
  have e0 : iRng rngD1 (aCons (mC (.int 3)) aNil) [some d, some (.int many), some (.int w), some (.int la), x4, x5, some (.str (mkS bs)), some (.int j), x8, none] = some (.ok (rangeD 0 1 3), [some d, some (.int many), some (.int w), some (.int la), x4, x5, some (.str (mkS bs)), some (.int j), x8, none]) := by
    have e1 : aCons (mC (.int 3)) aNil [some d, some (.int many), some (.int w), some (.int la), x4, x5, some (.str (mkS bs)), some (.int j), x8, none] = some (.ok [.int 3], [some d, some (.int many), some (.int w), some (.int la), x4, x5, some (.str (mkS bs)), some (.int j), x8, none]) := rfl
    unfold iRng
    rw [e1, bnd_ok, rngD1_int (by decide) (by decide)]
    rfl
  have hm := mLc_map (vs := [9]) (g := gNm 9) (m := mOp2 gIx (.ev (mC (.str "+-"))) (.ev (mOp2 gAnd (.ev (mCB gInt (aCons (mOp2 gShr (.sl 7) (.sl 9)) aNil))) (.ev (mC (.int 1)))))) (fun x => match x with | .int k => .str (sg (bOf (Builtin.bitAnd (j / 2 ^ k.toNat) 1))) | _ => .non) e0 rfl (fun x hx => by
    obtain ⟨k, hk, rfl⟩ := List.mem_map.mp (show x ∈ (List.range 3).map fun j : Nat => D.int (0 + (j : Int) * 1) from hx)
    rw [Int.mul_one, Int.zero_add]
    refine ⟨[some d, some (.int many), some (.int w), some (.int la), x4, x5, some (.str (mkS bs)), some (.int j), x8, some (.int (k : Int))], [some d, some (.int many), some (.int w), some (.int la), x4, x5, some (.str (mkS bs)), some (.int j), x8, some (.int (k : Int))], rfl, ?_, rfl⟩
    have s1 : gShr (.int j) (.int k) = some (.int (j / 2 ^ (k : Int).toNat)) := onI_eq (by omega)
    have s2 : gAnd (.int (j / 2 ^ (k : Int).toNat)) (.int 1) = some (.int (Builtin.bitAnd (j / 2 ^ (k : Int).toNat) 1)) := rfl
    have s3 := pm_ix (and1 (j / 2 ^ (k : Int).toNat)).1 (and1 (j / 2 ^ (k : Int).toNat)).2
    simp only [finM_ret, finM_nx, finM_err, finI_ret, sRet, sRetN, sEx, andThen, sAs, sSeq, sIf, sNx, sPar, sPar3, sRaise, mIf, bIf, bAnd, bOr, bNot, tVal, tTru, tTru2, asB, truD, mOp2, mOp, mC, mV, mMv, rd, mCBV, mCB, mCall, mCallI, mFz, mNeg, mTup, mLst, aCons, aNil, mAndV, mOrV, mNotV, mSl, oNone, oSome, gSl,
  bnd_ok, bnd_er, got_ok, gNm, gTp, gsCons, gsNil, gSubL, mMut, fApp, fPop, iVal, iRng, rngD1, rngD2, itemsD, mCh, cLast, cLink, tYesD,
  List.map_cons, List.map_nil, List.length_cons, List.length_nil, List.replicate, List.cons_append, List.nil_append, List.append_nil, List.getElem?_cons_zero, List.getElem?_cons_succ, List.set_cons_zero, List.set_cons_succ, Option.map_some, Option.join_some, Option.isSome_some, Option.bind_some,
  noOwn_int, noOwn_bl, noOwn_str, noOwn_non, noOwn_ty, noOwn_lst, noOwn_tup, noOwn_dit, noOwns_nil, noOwns_cons, noOwns_ints, fz_int, fz_bl, fz_str, fz_non, if_true, if_false, Bool.and_self, Bool.and_true, Bool.true_and, Bool.false_and, Bool.and_false, decide_true, decide_false, Bool.false_eq_true,
  gAdd_int, gSub_int, gLt_int, gLe_int, gGt_int, gGe_int, gEqA_int, gNeA_int, gEqA_str, gNeA_str, gLen, gInt, gAbs, gSum, intsOf_map, reduceCtorEq, ne_eq, not_false_eq_true, not_true_eq_false, and_self, and_true, true_and, and_false, false_and, Nat.reduceAdd, Nat.reduceSub, Nat.reduceMul, Nat.reduceLT, Nat.reduceLeDiff, Nat.zero_add, Int.reduceNeg, Int.reduceLT, Int.reduceLE, Int.reduceAdd, Int.reduceSub, Int.reduceMul, Int.reduceEq, Int.reduceNe, s1, s2, s3]) (by rw [rangeD_len]; decide) rfl
  have hf : (rangeD 0 1 3).map (fun x => match x with | .int k => D.str (sg (bOf (Builtin.bitAnd (j / 2 ^ k.toNat) 1))) | _ => .non) = ((List.range 3).map fun k => bOf (Builtin.bitAnd (j / 2 ^ k) 1)).map fun b => D.str (sg b) := rfl
  rw [hf] at hm
  have hj := join_ok (o := .own) ((List.range 3).map fun k => bOf (Builtin.bitAnd (j / 2 ^ k) 1)) (by simp)
  exact join_m hm hj
theorem sIx_neg3 {n d : Nat} : HT.sIx n d (some (-3)) = n - 3 := by
  simp only [HT.sIx]
  rw [if_pos (by decide)]
  omega
theorem cat_ok {d : D} {many w la : Int} {bs es : List Bool} {x4 x5 x7 : Option D} (h3 : 3 ≤ bs.length) (hl : bs.length ≤ 24) (he : es.length = 3) :
    (mOp2 gAdd (.ev (mSl (mV 6) oNone (oSome (mNeg (mC (.int 3)))))) (.sl 8)) [some d, some (.int many), some (.int w), some (.int la), x4, x5, some (.str (mkS bs)), x7, some (.str (mkS es)), none] = some (.ok (.str (mkS (bs.take (bs.length - 3) ++ es))), [some d, some (.int many), some (.int w), some (.int la), x4, x5, some (.str (mkS bs)), x7, some (.str (mkS es)), none]) := by
  have s1 := sl_ok bs none (some (-3)) (by omega)
  have s2 : (bs.drop (HT.sIx bs.length 0 none)).take (HT.sIx bs.length bs.length (some (-3)) - HT.sIx bs.length 0 none) = bs.take (bs.length - 3) := by
    rw [HT.sIx_none, List.drop_zero, sIx_neg3, Nat.sub_zero]
  rw [s2] at s1
  have s3 := add_ok (bs.take (bs.length - 3)) es (by rw [List.length_take]; omega) (by omega)
  exact op2_es (slice_m (i := 6) (lo := none) (hi := some (-3)) rfl rfl rfl s1) rfl s3
theorem num_ok {d : D} {many w la : Int} {bs : List Bool} {x4 x5 x8 : Option D} {j : Int} (h3 : 3 ≤ bs.length) (hl : bs.length ≤ 24) :
    ∃ y8, numB [some d, some (.int many), some (.int w), some (.int la), x4, x5, some (.str (mkS bs)), some (.int j), x8, none] = some (.nx, [some d, some (.int many), some (.int w), some (.int la), x4, x5, some (.str (mkS bs)), some (.int j), y8, none]) ∨ ∃ cs : List Bool, cs.length = bs.length ∧ numB [some d, some (.int many), some (.int w), some (.int la), x4, x5, some (.str (mkS bs)), some (.int j), x8, none] = some (.ret (.str (mkS cs)), [some d, some (.int many), some (.int w), some (.int la), x4, x5, some (.str (mkS bs)), some (.int j), y8, none]) := by
  obtain ⟨es, he, e1⟩ := end_ok (d := d) (many := many) (w := w) (la := la) (bs := bs) (x4 := x4) (x5 := x5) (x8 := x8) (j := j)
  have e2 := cat_ok (d := d) (many := many) (w := w) (la := la) (x4 := x4) (x5 := x5) (x7 := some (.int j)) h3 hl he
  have e3 := home_ok (bs.take (bs.length - 3) ++ es)
  have e4 : gEqA (tD (enc (prod (bs.take (bs.length - 3) ++ es)))) (.tup false [.int 0, .int 1, .int 2]) = some (.bl (decide (prod (bs.take (bs.length - 3) ++ es) = 0))) := eq_home (c := false) (c' := false) _
  refine ⟨some (.str (mkS es)), ?_⟩
  have a1 : sAs (mJoin (mC (.str "")) (mLc [9] (iRng rngD1 (aCons (mC (.int 3)) aNil)) (gNm 9) tYesD (mOp2 gIx (.ev (mC (.str "+-"))) (.ev (mOp2 gAnd (.ev (mCB gInt (aCons (mOp2 gShr (.sl 7) (.sl 9)) aNil))) (.ev (mC (.int 1)))))))) (gNm 8) [some d, some (.int many), some (.int w), some (.int la), x4, x5, some (.str (mkS bs)), some (.int j), x8, none] = some (.nx, [some d, some (.int many), some (.int w), some (.int la), x4, x5, some (.str (mkS bs)), some (.int j), some (.str (mkS es)), none]) := by
    unfold sAs
    rw [andThen_ok e1]
    rfl
  have ht : tVal (mOp2 gEqA (.ev (mCall m__law_home (aCons (mOp2 gAdd (.ev (mSl (mV 6) oNone (oSome (mNeg (mC (.int 3)))))) (.sl 8)) aNil))) (.ev (mTup (aCons (mC (.int 0)) (aCons (mC (.int 1)) (aCons (mC (.int 2)) aNil)))))) [some d, some (.int many), some (.int w), some (.int la), x4, x5, some (.str (mkS bs)), some (.int j), some (.str (mkS es)), none] = some (.ok (decide (prod (bs.take (bs.length - 3) ++ es) = 0)), [some d, some (.int many), some (.int w), some (.int la), x4, x5, some (.str (mkS bs)), some (.int j), some (.str (mkS es)), none]) := by
    have c1 : mCall m__law_home (aCons (mOp2 gAdd (.ev (mSl (mV 6) oNone (oSome (mNeg (mC (.int 3)))))) (.sl 8)) aNil) [some d, some (.int many), some (.int w), some (.int la), x4, x5, some (.str (mkS bs)), some (.int j), some (.str (mkS es)), none] = some (.ok (tD (enc (prod (bs.take (bs.length - 3) ++ es)))), [some d, some (.int many), some (.int w), some (.int la), x4, x5, some (.str (mkS bs)), some (.int j), some (.str (mkS es)), none]) := by
      simp only [mCall, aCons, aNil, e2, bnd_ok, e3]
    have c2 : mTup (aCons (mC (.int 0)) (aCons (mC (.int 1)) (aCons (mC (.int 2)) aNil))) [some d, some (.int many), some (.int w), some (.int la), x4, x5, some (.str (mkS bs)), some (.int j), some (.str (mkS es)), none] = some (.ok (.tup false [.int 0, .int 1, .int 2]), [some d, some (.int many), some (.int w), some (.int la), x4, x5, some (.str (mkS bs)), some (.int j), some (.str (mkS es)), none]) := rfl
    exact tval_ok (op2_ee c1 c2 e4)
  unfold numB
  rw [seq_nx a1]
  by_cases hp : prod (bs.take (bs.length - 3) ++ es) = 0
  · rw [decide_eq_true hp] at ht
    refine .inr ⟨bs.take (bs.length - 3) ++ es, by rw [List.length_append, List.length_take]; omega, ?_⟩
    rw [if_tt ht]
    unfold sRet
    rw [andThen_ok e2]
  · rw [decide_eq_false hp] at ht
    left
    rw [if_ff ht]
    rfl
/-- a loop that may return -/
theorem forL_two {g : GM} {b : SM} (P : Sl → Prop) (R : D → Sl → Prop) : ∀ (ds : List D) (S : Sl), (∀ d ∈ ds, ∀ S, P S → ∃ S1, g d S = some S1 ∧ ((∃ S2, b S1 = some (.nx, S2) ∧ P S2) ∨ ∃ r S2, b S1 = some (.ret r, S2) ∧ R r S2)) → P S → (∃ S', forL g b ds S = some (.nx, S') ∧ P S') ∨ ∃ r S', forL g b ds S = some (.ret r, S') ∧ R r S'
  | [], S, _, h => .inl ⟨S, rfl, h⟩
  | d :: ds, S, step, h => by
    obtain ⟨S1, h1, ⟨S2, h2, h3⟩ | ⟨r, S2, h2, h3⟩⟩ := step d List.mem_cons_self S h
    · rw [forL_cons h1 h2]
      exact forL_two P R ds S2 (fun e he => step e (List.mem_cons_of_mem _ he)) h3
    · refine .inr ⟨r, S2, ?_, h3⟩
      show (match g d S with
        | none => none
        | some S1 => match b S1 with
          | some (.nx, S2) => forL g b ds S2
          | some (.ct, S2) => forL g b ds S2
          | some (.bk, S2) => some (.nx, S2)
          | r => r) = _
      rw [h1]
      simp only [h2]
end Fk07

set_option maxHeartbeats 4000000
namespace Fk07
open PySem PySem.Spec PyProof.Rows L2 Fx
theorem signs_eq : b__law_signs = (sSeq (sPar 2 3 (aCons (mCallI 0 m__law_take (aCons (mC (.int 5)) aNil)) (aCons (mCallI 0 m__law_take (aCons (mC (.int 2)) aNil)) aNil))) (sSeq (sIf (tVal (mOp2 gEqA (.sl 2) (.ev (mC (.int 0)))))
 (sRet (mOp2 gMul (.ev (mOp2 gIx (.ev (mC (.str "+-"))) (.sl 3))) (.sl 1)))
 sNx) (sSeq (sAs (mLst aNil) (gNm 4)) (sSeq (sFor (iRng rngD1 (aCons (mV 1) aNil)) (gNm 5) turnB) (sSeq (sAs (mJoin (mC (.str "")) (mV 4)) (gNm 6)) (sSeq (sIf (tVal (mOp2 gGt (.sl 2) (.ev (mC (.int 2)))))
 (sFor (iRng rngD1 (aCons (mC (.int 8)) aNil)) (gNm 7) numB)
 sNx) (sRet (mMv 6)))))))) := rfl
theorem fin_ret {d x : D} {S : Sl} (h : S[0]? = some (some x)) : finM true (some (.ret d, S)) = some (.ok d, some x) := by
  simp [finM, finS, h]
theorem signs_ok {d : D} {n B : Nat} (hB : Bx B d) (hBB : B ≤ 10000) (h3 : 3 ≤ n) (h24 : n ≤ 24) : ∃ (bs : List Bool) (d' : D), m__law_signs [d, .int n] = some (.ok (.str (mkS bs)), some d') ∧ bs.length = n ∧ Bx (B + 100) d' := by
  obtain ⟨w, d1, e1, w0, w1, hd1⟩ := take_ok (many := 5) hB (by omega) (by decide) (by decide)
  obtain ⟨la, d2, e2, l0, l1, hd2⟩ := take_ok (many := 2) hd1 (by omega) (by decide) (by decide)
  have a1 : sPar 2 3 (aCons (mCallI 0 m__law_take (aCons (mC (.int 5)) aNil)) (aCons (mCallI 0 m__law_take (aCons (mC (.int 2)) aNil)) aNil)) [some d, some (.int n), none, none, none, none, none, none, none, none] = some (.nx, [some d2, some (.int n), some (.int w), some (.int la), none, none, none, none, none, none]) := by
    simp only [finM_ret, finM_nx, finM_err, finI_ret, sRet, sRetN, sEx, andThen, sAs, sSeq, sIf, sNx, sPar, sPar3, sRaise, mIf, bIf, bAnd, bOr, bNot, tVal, tTru, tTru2, asB, truD, mOp2, mOp, mC, mV, mMv, rd, mCBV, mCB, mCall, mCallI, mFz, mNeg, mTup, mLst, aCons, aNil, mAndV, mOrV, mNotV, mSl, oNone, oSome, gSl,
  bnd_ok, bnd_er, got_ok, gNm, gTp, gsCons, gsNil, gSubL, mMut, fApp, fPop, iVal, iRng, rngD1, rngD2, itemsD, mCh, cLast, cLink, tYesD,
  List.map_cons, List.map_nil, List.length_cons, List.length_nil, List.replicate, List.cons_append, List.nil_append, List.append_nil, List.getElem?_cons_zero, List.getElem?_cons_succ, List.set_cons_zero, List.set_cons_succ, Option.map_some, Option.join_some, Option.isSome_some, Option.bind_some,
  noOwn_int, noOwn_bl, noOwn_str, noOwn_non, noOwn_ty, noOwn_lst, noOwn_tup, noOwn_dit, noOwns_nil, noOwns_cons, noOwns_ints, fz_int, fz_bl, fz_str, fz_non, if_true, if_false, Bool.and_self, Bool.and_true, Bool.true_and, Bool.false_and, Bool.and_false, decide_true, decide_false, Bool.false_eq_true,
  gAdd_int, gSub_int, gLt_int, gLe_int, gGt_int, gGe_int, gEqA_int, gNeA_int, gEqA_str, gNeA_str, gLen, gInt, gAbs, gSum, intsOf_map, reduceCtorEq, ne_eq, not_false_eq_true, not_true_eq_false, and_self, and_true, true_and, and_false, false_and, Nat.reduceAdd, Nat.reduceSub, Nat.reduceMul, Nat.reduceLT, Nat.reduceLeDiff, Nat.zero_add, Int.reduceNeg, Int.reduceLT, Int.reduceLE, Int.reduceAdd, Int.reduceSub, Int.reduceMul, Int.reduceEq, Int.reduceNe, e1, e2]
  rw [u__law_signs, signs_eq, seq_nx a1]
  by_cases hw : w = 0
  · refine ⟨List.replicate n (bOf la), d2, ?_, by simp, hd2.mono (by omega)⟩
    have p := pm_ix l0 l1
    have m := mul_sg (bOf la) n (by omega)
    have a2 : (sIf (tVal (mOp2 gEqA (.sl 2) (.ev (mC (.int 0))))) (sRet (mOp2 gMul (.ev (mOp2 gIx (.ev (mC (.str "+-"))) (.sl 3))) (.sl 1))) sNx) [some d2, some (.int n), some (.int w), some (.int la), none, none, none, none, none, none] = some (.ret (.str (mkS (List.replicate n (bOf la)))), [some d2, some (.int n), some (.int w), some (.int la), none, none, none, none, none, none]) := by
      simp only [finM_ret, finM_nx, finM_err, finI_ret, sRet, sRetN, sEx, andThen, sAs, sSeq, sIf, sNx, sPar, sPar3, sRaise, mIf, bIf, bAnd, bOr, bNot, tVal, tTru, tTru2, asB, truD, mOp2, mOp, mC, mV, mMv, rd, mCBV, mCB, mCall, mCallI, mFz, mNeg, mTup, mLst, aCons, aNil, mAndV, mOrV, mNotV, mSl, oNone, oSome, gSl,
  bnd_ok, bnd_er, got_ok, gNm, gTp, gsCons, gsNil, gSubL, mMut, fApp, fPop, iVal, iRng, rngD1, rngD2, itemsD, mCh, cLast, cLink, tYesD,
  List.map_cons, List.map_nil, List.length_cons, List.length_nil, List.replicate, List.cons_append, List.nil_append, List.append_nil, List.getElem?_cons_zero, List.getElem?_cons_succ, List.set_cons_zero, List.set_cons_succ, Option.map_some, Option.join_some, Option.isSome_some, Option.bind_some,
  noOwn_int, noOwn_bl, noOwn_str, noOwn_non, noOwn_ty, noOwn_lst, noOwn_tup, noOwn_dit, noOwns_nil, noOwns_cons, noOwns_ints, fz_int, fz_bl, fz_str, fz_non, if_true, if_false, Bool.and_self, Bool.and_true, Bool.true_and, Bool.false_and, Bool.and_false, decide_true, decide_false, Bool.false_eq_true,
  gAdd_int, gSub_int, gLt_int, gLe_int, gGt_int, gGe_int, gEqA_int, gNeA_int, gEqA_str, gNeA_str, gLen, gInt, gAbs, gSum, intsOf_map, reduceCtorEq, ne_eq, not_false_eq_true, not_true_eq_false, and_self, and_true, true_and, and_false, false_and, Nat.reduceAdd, Nat.reduceSub, Nat.reduceMul, Nat.reduceLT, Nat.reduceLeDiff, Nat.zero_add, Int.reduceNeg, Int.reduceLT, Int.reduceLE, Int.reduceAdd, Int.reduceSub, Int.reduceMul, Int.reduceEq, Int.reduceNe, hw, p, m]
    rw [seq_ret a2]
    exact fin_ret rfl
  · have a2 : (sIf (tVal (mOp2 gEqA (.sl 2) (.ev (mC (.int 0))))) (sRet (mOp2 gMul (.ev (mOp2 gIx (.ev (mC (.str "+-"))) (.sl 3))) (.sl 1))) sNx) [some d2, some (.int n), some (.int w), some (.int la), none, none, none, none, none, none] = some (.nx, [some d2, some (.int n), some (.int w), some (.int la), none, none, none, none, none, none]) := by
      simp only [finM_ret, finM_nx, finM_err, finI_ret, sRet, sRetN, sEx, andThen, sAs, sSeq, sIf, sNx, sPar, sPar3, sRaise, mIf, bIf, bAnd, bOr, bNot, tVal, tTru, tTru2, asB, truD, mOp2, mOp, mC, mV, mMv, rd, mCBV, mCB, mCall, mCallI, mFz, mNeg, mTup, mLst, aCons, aNil, mAndV, mOrV, mNotV, mSl, oNone, oSome, gSl,
  bnd_ok, bnd_er, got_ok, gNm, gTp, gsCons, gsNil, gSubL, mMut, fApp, fPop, iVal, iRng, rngD1, rngD2, itemsD, mCh, cLast, cLink, tYesD,
  List.map_cons, List.map_nil, List.length_cons, List.length_nil, List.replicate, List.cons_append, List.nil_append, List.append_nil, List.getElem?_cons_zero, List.getElem?_cons_succ, List.set_cons_zero, List.set_cons_succ, Option.map_some, Option.join_some, Option.isSome_some, Option.bind_some,
  noOwn_int, noOwn_bl, noOwn_str, noOwn_non, noOwn_ty, noOwn_lst, noOwn_tup, noOwn_dit, noOwns_nil, noOwns_cons, noOwns_ints, fz_int, fz_bl, fz_str, fz_non, if_true, if_false, Bool.and_self, Bool.and_true, Bool.true_and, Bool.false_and, Bool.and_false, decide_true, decide_false, Bool.false_eq_true,
  gAdd_int, gSub_int, gLt_int, gLe_int, gGt_int, gGe_int, gEqA_int, gNeA_int, gEqA_str, gNeA_str, gLen, gInt, gAbs, gSum, intsOf_map, reduceCtorEq, ne_eq, not_false_eq_true, not_true_eq_false, and_self, and_true, true_and, and_false, false_and, Nat.reduceAdd, Nat.reduceSub, Nat.reduceMul, Nat.reduceLT, Nat.reduceLeDiff, Nat.zero_add, Int.reduceNeg, Int.reduceLT, Int.reduceLE, Int.reduceAdd, Int.reduceSub, Int.reduceMul, Int.reduceEq, Int.reduceNe, hw]
    rw [seq_nx a2, seq_nx (S1 := [some d2, some (.int n), some (.int w), some (.int la), some (.lst .own (([]).map fun b => D.str (sg b))), none, none, none, none, none]) (by simp only [finM_ret, finM_nx, finM_err, finI_ret, sRet, sRetN, sEx, andThen, sAs, sSeq, sIf, sNx, sPar, sPar3, sRaise, mIf, bIf, bAnd, bOr, bNot, tVal, tTru, tTru2, asB, truD, mOp2, mOp, mC, mV, mMv, rd, mCBV, mCB, mCall, mCallI, mFz, mNeg, mTup, mLst, aCons, aNil, mAndV, mOrV, mNotV, mSl, oNone, oSome, gSl,
  bnd_ok, bnd_er, got_ok, gNm, gTp, gsCons, gsNil, gSubL, mMut, fApp, fPop, iVal, iRng, rngD1, rngD2, itemsD, mCh, cLast, cLink, tYesD,
  List.map_cons, List.map_nil, List.length_cons, List.length_nil, List.replicate, List.cons_append, List.nil_append, List.append_nil, List.getElem?_cons_zero, List.getElem?_cons_succ, List.set_cons_zero, List.set_cons_succ, Option.map_some, Option.join_some, Option.isSome_some, Option.bind_some,
  noOwn_int, noOwn_bl, noOwn_str, noOwn_non, noOwn_ty, noOwn_lst, noOwn_tup, noOwn_dit, noOwns_nil, noOwns_cons, noOwns_ints, fz_int, fz_bl, fz_str, fz_non, if_true, if_false, Bool.and_self, Bool.and_true, Bool.true_and, Bool.false_and, Bool.and_false, decide_true, decide_false, Bool.false_eq_true,
  gAdd_int, gSub_int, gLt_int, gLe_int, gGt_int, gGe_int, gEqA_int, gNeA_int, gEqA_str, gNeA_str, gLen, gInt, gAbs, gSum, intsOf_map, reduceCtorEq, ne_eq, not_false_eq_true, not_true_eq_false, and_self, and_true, true_and, and_false, false_and, Nat.reduceAdd, Nat.reduceSub, Nat.reduceMul, Nat.reduceLT, Nat.reduceLeDiff, Nat.zero_add, Int.reduceNeg, Int.reduceLT, Int.reduceLE, Int.reduceAdd, Int.reduceSub, Int.reduceMul, Int.reduceEq, Int.reduceNe])]
    have a3 : iRng rngD1 (aCons (mV 1) aNil) [some d2, some (.int n), some (.int w), some (.int la), some (.lst .own (([]).map fun b => D.str (sg b))), none, none, none, none, none] = some (.ok (rangeD 0 1 n), [some d2, some (.int n), some (.int w), some (.int la), some (.lst .own (([]).map fun b => D.str (sg b))), none, none, none, none, none]) := by
      have q : aCons (mV 1) aNil [some d2, some (.int n), some (.int w), some (.int la), some (.lst .own (([]).map fun b => D.str (sg b))), none, none, none, none, none] = some (.ok [.int n], [some d2, some (.int n), some (.int w), some (.int la), some (.lst .own (([]).map fun b => D.str (sg b))), none, none, none, none, none]) := rfl
      unfold iRng
      rw [q, bnd_ok, rngD1_int (by omega) (by omega), show (n : Int).toNat = n by omega]
      rfl
    obtain ⟨S', a4, d3, la3, bs, x5, rfl, hl, hd3, q0, q1⟩ := forL_range (g := gNm 5) (b := turnB) (lo := 0) (n := n) (fun j S => ∃ d3 la3 bs x5, S = [some d3, some (.int n), some (.int w), some (.int la3), some (.lst .own ((bs).map fun b => D.str (sg b))), x5, none, none, none, none] ∧ bs.length = j ∧ Bx (B + 2 + 2 * j) d3 ∧ 0 ≤ la3 ∧ la3 < 2)
      (fun j S hj ⟨d3, la3, bs, x5, hS, hl, hd3, q0, q1⟩ => by
        subst hS
        obtain ⟨d4, la4, e, hd4, q2, q3⟩ := turn_ok (many := n) (w := w) (bs := bs) (x5 := some (.int (0 + (j : Int)))) (x6 := none) (x7 := none) (x8 := none) hd3 (by omega) q0 q1 (by omega)
        exact ⟨_, _, rfl, e, d4, la4, bs ++ [bOf la4], _, rfl, by simp [hl], hd4.mono (by omega), q2, q3⟩) (S := [some d2, some (.int n), some (.int w), some (.int la), some (.lst .own (([]).map fun b => D.str (sg b))), none, none, none, none, none]) ⟨d2, la, [], none, rfl, rfl, hd2.mono (by omega), l0, l1⟩
    rw [seq_nx (for_of a3 a4)]
    have m4 : mV 4 [some d3, some (.int n), some (.int w), some (.int la3), some (.lst .own ((bs).map fun b => D.str (sg b))), x5, none, none, none, none] = some (.ok (.lst .frz (bs.map fun b => D.str (sg b))), [some d3, some (.int n), some (.int w), some (.int la3), some (.lst .frz ((bs).map fun b => D.str (sg b))), x5, none, none, none, none]) := by
      have n4 : noOwn (.lst .own (bs.map fun b => D.str (sg b))) = false := by simp [noOwn_lst]
      have f4 : fz (.lst .own (bs.map fun b => D.str (sg b))) = .lst .frz (bs.map fun b => D.str (sg b)) := by
        rw [fz_lst, if_pos rfl, fzs_same _ (noOwns_sg bs)]
      have := mV_own (i := 4) (S := [some d3, some (.int n), some (.int w), some (.int la3), some (.lst .own ((bs).map fun b => D.str (sg b))), x5, none, none, none, none]) rfl n4
      rw [f4] at this
      exact this
    have a5 : sAs (mJoin (mC (.str "")) (mV 4)) (gNm 6) [some d3, some (.int n), some (.int w), some (.int la3), some (.lst .own ((bs).map fun b => D.str (sg b))), x5, none, none, none, none] = some (.nx, [some d3, some (.int n), some (.int w), some (.int la3), some (.lst .frz (bs.map fun b => D.str (sg b))), x5, some (.str (mkS bs)), none, none, none]) := by
      unfold sAs
      rw [andThen_ok (join_m m4 (join_ok bs (by omega)))]
      rfl
    rw [seq_nx a5]
    have hd4 : Bx (B + 100) d3 := hd3.mono (by omega)
    have mv : ∀ x7 x8 : Option D, sRet (mMv 6) [some d3, some (.int n), some (.int w), some (.int la3), some (.lst .frz (bs.map fun b => D.str (sg b))), x5, some (.str (mkS bs)), x7, x8, none] = some (.ret (.str (mkS bs)), [some d3, some (.int n), some (.int w), some (.int la3), some (.lst .frz (bs.map fun b => D.str (sg b))), x5, some (.str (mkS bs)), x7, x8, none]) := by
      intro x7 x8
      simp only [finM_ret, finM_nx, finM_err, finI_ret, sRet, sRetN, sEx, andThen, sAs, sSeq, sIf, sNx, sPar, sPar3, sRaise, mIf, bIf, bAnd, bOr, bNot, tVal, tTru, tTru2, asB, truD, mOp2, mOp, mC, mV, mMv, rd, mCBV, mCB, mCall, mCallI, mFz, mNeg, mTup, mLst, aCons, aNil, mAndV, mOrV, mNotV, mSl, oNone, oSome, gSl,
  bnd_ok, bnd_er, got_ok, gNm, gTp, gsCons, gsNil, gSubL, mMut, fApp, fPop, iVal, iRng, rngD1, rngD2, itemsD, mCh, cLast, cLink, tYesD,
  List.map_cons, List.map_nil, List.length_cons, List.length_nil, List.replicate, List.cons_append, List.nil_append, List.append_nil, List.getElem?_cons_zero, List.getElem?_cons_succ, List.set_cons_zero, List.set_cons_succ, Option.map_some, Option.join_some, Option.isSome_some, Option.bind_some,
  noOwn_int, noOwn_bl, noOwn_str, noOwn_non, noOwn_ty, noOwn_lst, noOwn_tup, noOwn_dit, noOwns_nil, noOwns_cons, noOwns_ints, fz_int, fz_bl, fz_str, fz_non, if_true, if_false, Bool.and_self, Bool.and_true, Bool.true_and, Bool.false_and, Bool.and_false, decide_true, decide_false, Bool.false_eq_true,
  gAdd_int, gSub_int, gLt_int, gLe_int, gGt_int, gGe_int, gEqA_int, gNeA_int, gEqA_str, gNeA_str, gLen, gInt, gAbs, gSum, intsOf_map, reduceCtorEq, ne_eq, not_false_eq_true, not_true_eq_false, and_self, and_true, true_and, and_false, false_and, Nat.reduceAdd, Nat.reduceSub, Nat.reduceMul, Nat.reduceLT, Nat.reduceLeDiff, Nat.zero_add, Int.reduceNeg, Int.reduceLT, Int.reduceLE, Int.reduceAdd, Int.reduceSub, Int.reduceMul, Int.reduceEq, Int.reduceNe]
    by_cases hw2 : 2 < w
    · have ht : tVal (mOp2 gGt (.sl 2) (.ev (mC (.int 2)))) [some d3, some (.int n), some (.int w), some (.int la3), some (.lst .frz (bs.map fun b => D.str (sg b))), x5, some (.str (mkS bs)), none, none, none] = some (.ok true, [some d3, some (.int n), some (.int w), some (.int la3), some (.lst .frz (bs.map fun b => D.str (sg b))), x5, some (.str (mkS bs)), none, none, none]) := by
        simp only [finM_ret, finM_nx, finM_err, finI_ret, sRet, sRetN, sEx, andThen, sAs, sSeq, sIf, sNx, sPar, sPar3, sRaise, mIf, bIf, bAnd, bOr, bNot, tVal, tTru, tTru2, asB, truD, mOp2, mOp, mC, mV, mMv, rd, mCBV, mCB, mCall, mCallI, mFz, mNeg, mTup, mLst, aCons, aNil, mAndV, mOrV, mNotV, mSl, oNone, oSome, gSl,
  bnd_ok, bnd_er, got_ok, gNm, gTp, gsCons, gsNil, gSubL, mMut, fApp, fPop, iVal, iRng, rngD1, rngD2, itemsD, mCh, cLast, cLink, tYesD,
  List.map_cons, List.map_nil, List.length_cons, List.length_nil, List.replicate, List.cons_append, List.nil_append, List.append_nil, List.getElem?_cons_zero, List.getElem?_cons_succ, List.set_cons_zero, List.set_cons_succ, Option.map_some, Option.join_some, Option.isSome_some, Option.bind_some,
  noOwn_int, noOwn_bl, noOwn_str, noOwn_non, noOwn_ty, noOwn_lst, noOwn_tup, noOwn_dit, noOwns_nil, noOwns_cons, noOwns_ints, fz_int, fz_bl, fz_str, fz_non, if_true, if_false, Bool.and_self, Bool.and_true, Bool.true_and, Bool.false_and, Bool.and_false, decide_true, decide_false, Bool.false_eq_true,
  gAdd_int, gSub_int, gLt_int, gLe_int, gGt_int, gGe_int, gEqA_int, gNeA_int, gEqA_str, gNeA_str, gLen, gInt, gAbs, gSum, intsOf_map, reduceCtorEq, ne_eq, not_false_eq_true, not_true_eq_false, and_self, and_true, true_and, and_false, false_and, Nat.reduceAdd, Nat.reduceSub, Nat.reduceMul, Nat.reduceLT, Nat.reduceLeDiff, Nat.zero_add, Int.reduceNeg, Int.reduceLT, Int.reduceLE, Int.reduceAdd, Int.reduceSub, Int.reduceMul, Int.reduceEq, Int.reduceNe, hw2]
      have a6 : iRng rngD1 (aCons (mC (.int 8)) aNil) [some d3, some (.int n), some (.int w), some (.int la3), some (.lst .frz (bs.map fun b => D.str (sg b))), x5, some (.str (mkS bs)), none, none, none] = some (.ok (rangeD 0 1 8), [some d3, some (.int n), some (.int w), some (.int la3), some (.lst .frz (bs.map fun b => D.str (sg b))), x5, some (.str (mkS bs)), none, none, none]) := by
        have q : aCons (mC (.int 8)) aNil [some d3, some (.int n), some (.int w), some (.int la3), some (.lst .frz (bs.map fun b => D.str (sg b))), x5, some (.str (mkS bs)), none, none, none] = some (.ok [.int 8], [some d3, some (.int n), some (.int w), some (.int la3), some (.lst .frz (bs.map fun b => D.str (sg b))), x5, some (.str (mkS bs)), none, none, none]) := rfl
        unfold iRng
        rw [q, bnd_ok, rngD1_int (by decide) (by decide)]
        rfl
      rcases forL_two (g := gNm 7) (b := numB) (fun S => ∃ x7 x8, S = [some d3, some (.int n), some (.int w), some (.int la3), some (.lst .frz (bs.map fun b => D.str (sg b))), x5, some (.str (mkS bs)), x7, x8, none]) (fun r S => (∃ cs : List Bool, cs.length = n ∧ r = .str (mkS cs)) ∧ S[0]? = some (some d3)) (rangeD 0 1 8) [some d3, some (.int n), some (.int w), some (.int la3), some (.lst .frz (bs.map fun b => D.str (sg b))), x5, some (.str (mkS bs)), none, none, none]
        (fun x hx S ⟨x7, x8, hS⟩ => by
          subst hS
          obtain ⟨k, hk, rfl⟩ := List.mem_map.mp (show x ∈ (List.range 8).map fun j : Nat => D.int (0 + (j : Int) * 1) from hx)
          obtain ⟨y8, e | ⟨cs, hc, e⟩⟩ := num_ok (d := d3) (many := n) (w := w) (la := la3) (x4 := some (.lst .frz (bs.map fun b => D.str (sg b)))) (x5 := x5) (x8 := x8) (j := 0 + (k : Int) * 1) (bs := bs) (by omega) (by omega)
          · exact ⟨_, rfl, .inl ⟨_, e, _, _, rfl⟩⟩
          · exact ⟨_, rfl, .inr ⟨_, _, e, ⟨cs, by omega, rfl⟩, rfl⟩⟩) ⟨none, none, rfl⟩ with ⟨S', e, x7, x8, rfl⟩ | ⟨r, S', e, ⟨cs, hc, rfl⟩, h0⟩
      · refine ⟨bs, d3, ?_, hl, hd4⟩
        rw [seq_nx (by rw [if_tt ht]; exact for_of a6 e), mv]
        exact fin_ret rfl
      · refine ⟨cs, d3, ?_, hc, hd4⟩
        rw [seq_ret (by rw [if_tt ht]; exact for_of a6 e)]
        exact fin_ret h0
    · refine ⟨bs, d3, ?_, hl, hd4⟩
      have ht : tVal (mOp2 gGt (.sl 2) (.ev (mC (.int 2)))) [some d3, some (.int n), some (.int w), some (.int la3), some (.lst .frz (bs.map fun b => D.str (sg b))), x5, some (.str (mkS bs)), none, none, none] = some (.ok false, [some d3, some (.int n), some (.int w), some (.int la3), some (.lst .frz (bs.map fun b => D.str (sg b))), x5, some (.str (mkS bs)), none, none, none]) := by
        simp only [finM_ret, finM_nx, finM_err, finI_ret, sRet, sRetN, sEx, andThen, sAs, sSeq, sIf, sNx, sPar, sPar3, sRaise, mIf, bIf, bAnd, bOr, bNot, tVal, tTru, tTru2, asB, truD, mOp2, mOp, mC, mV, mMv, rd, mCBV, mCB, mCall, mCallI, mFz, mNeg, mTup, mLst, aCons, aNil, mAndV, mOrV, mNotV, mSl, oNone, oSome, gSl,
  bnd_ok, bnd_er, got_ok, gNm, gTp, gsCons, gsNil, gSubL, mMut, fApp, fPop, iVal, iRng, rngD1, rngD2, itemsD, mCh, cLast, cLink, tYesD,
  List.map_cons, List.map_nil, List.length_cons, List.length_nil, List.replicate, List.cons_append, List.nil_append, List.append_nil, List.getElem?_cons_zero, List.getElem?_cons_succ, List.set_cons_zero, List.set_cons_succ, Option.map_some, Option.join_some, Option.isSome_some, Option.bind_some,
  noOwn_int, noOwn_bl, noOwn_str, noOwn_non, noOwn_ty, noOwn_lst, noOwn_tup, noOwn_dit, noOwns_nil, noOwns_cons, noOwns_ints, fz_int, fz_bl, fz_str, fz_non, if_true, if_false, Bool.and_self, Bool.and_true, Bool.true_and, Bool.false_and, Bool.and_false, decide_true, decide_false, Bool.false_eq_true,
  gAdd_int, gSub_int, gLt_int, gLe_int, gGt_int, gGe_int, gEqA_int, gNeA_int, gEqA_str, gNeA_str, gLen, gInt, gAbs, gSum, intsOf_map, reduceCtorEq, ne_eq, not_false_eq_true, not_true_eq_false, and_self, and_true, true_and, and_false, false_and, Nat.reduceAdd, Nat.reduceSub, Nat.reduceMul, Nat.reduceLT, Nat.reduceLeDiff, Nat.zero_add, Int.reduceNeg, Int.reduceLT, Int.reduceLE, Int.reduceAdd, Int.reduceSub, Int.reduceMul, Int.reduceEq, Int.reduceNe, hw2]
      rw [seq_nx (S1 := [some d3, some (.int n), some (.int w), some (.int la3), some (.lst .frz (bs.map fun b => D.str (sg b))), x5, some (.str (mkS bs)), none, none, none]) (by rw [if_ff ht]; rfl), mv]
      exact fin_ret rfl
end Fk07

set_option maxHeartbeats 4000000
namespace Fk07
open PySem PySem.Spec PyProof.Rows L2 Fx
noncomputable def midB : SM := (sAs (mOp2 gAdd (.ev (mOp2 gAdd (.sl 5) (.ev (mC (.int 1))))) (.ev (mOp2 gIx (.ev (mLst (aCons (mCallI 0 m__law_take (aCons (mOp2 gSub (.ev (mOp2 gSub (.sl 6) (.sl 5))) (.ev (mC (.int 1)))) aNil)) (aCons (mC (.int 0)) (aCons (mOp2 gSub (.ev (mOp2 gSub (.sl 6) (.sl 5))) (.ev (mC (.int 2)))) (aCons (mCallI 0 m__law_take (aCons (mOp2 gSub (.ev (mOp2 gSub (.sl 6) (.sl 5))) (.ev (mC (.int 1)))) aNil)) aNil)))))) (.sl 4)))) (gNm 7))
noncomputable def if1B : SM := (sIf (tVal (mOp2 gGt (.ev (mOp2 gSub (.sl 7) (.sl 5))) (.ev (mC (.int 1))))) (sEx (mMut 2 fApp (aCons (mTup (aCons (mV 5) (aCons (mV 7) aNil))) aNil))) sNx)
noncomputable def if2B : SM := (sIf (tVal (mOp2 gGt (.ev (mOp2 gSub (.sl 6) (.sl 7))) (.ev (mC (.int 1))))) (sEx (mMut 2 fApp (aCons (mTup (aCons (mV 7) (aCons (mV 6) aNil))) aNil))) sNx)
noncomputable def pushB : SM := (sAs (mOp2 gAdd (.sl 3) (.ev (mLst (aCons (mTup (aCons (mV 5) (aCons (mV 7) aNil))) (aCons (mTup (aCons (mV 7) (aCons (mV 6) aNil))) aNil))))) (gNm 3))
noncomputable def wideB : SM := (sIf (tVal (mOp2 gGt (.ev (mOp2 gSub (.sl 6) (.sl 5))) (.ev (mC (.int 1))))) (sSeq midB (sSeq if1B (sSeq if2B pushB))) sNx)
theorem drawn_eq : b__law_drawn = (sSeq (sPar3 2 3 4 (aCons (mLst aNil) (aCons (mLst (aCons (mTup (aCons (mC (.int 0)) (aCons (mOp2 gSub (.sl 1) (.ev (mC (.int 1)))) aNil))) aNil)) (aCons (mCallI 0 m__law_take (aCons (mC (.int 4)) aNil)) aNil)))) (sSeq (sWh (tVal (mOp2 gNeA (.sl 3) (.ev (mLst aNil)))) (sSeq (sAs (mMut 3 fPop aNil) (gTp (gsCons (gNm 5) (gsCons (gNm 6) gsNil)))) wideB)) (sSeq (sAs (mCallI 0 m__law_take (aCons (mV 1) aNil)) (gNm 8)) (sRet (mCB gTuple (aCons (mCB gSorted (aCons (mLc [9, 10] (iVal (mV 2)) (gTp (gsCons (gNm 9) (gsCons (gNm 10) gsNil))) tYesD (mCB gTuple (aCons (mCB gSorted (aCons (mLst (aCons (mOp2 gMod (.ev (mCB gInt (aCons (mOp2 gAdd (.sl 9) (.sl 8)) aNil))) (.sl 1)) (aCons (mOp2 gMod (.ev (mCB gInt (aCons (mOp2 gAdd (.sl 10) (.sl 8)) aNil))) (.sl 1)) aNil))) aNil)) aNil))) aNil)) aNil)))))) := rfl
theorem no_pairs (ps : List (Int × Int)) : noOwns (ps.map dPair) = true := by
  induction ps with
  | nil => simp [noOwns]
  | cons p ps ih => simp [noOwns, noOwn, dPair, ih]
theorem ix4 {a b c e : Int} {w : Int} (h0 : 0 ≤ w) (h1 : w < 4) : gIx (.lst .own [.int a, .int b, .int c, .int e]) (.int w) = some (.int (if w = 0 then a else if w = 1 then b else if w = 2 then c else e)) := by
  have hw : w = 0 ∨ w = 1 ∨ w = 2 ∨ w = 3 := by omega
  rcases hw with rfl | rfl | rfl | rfl
  · exact gIx_lst (k := 0) (by simp) (by simp [noOwn])
  · exact gIx_lst (k := 1) (by simp) (by simp [noOwn])
  · exact gIx_lst (k := 2) (by simp) (by simp [noOwn])
  · exact gIx_lst (k := 3) (by simp) (by simp [noOwn])
theorem mid_val {B : Nat} {d : D} {n way l h : Int} {fd td : List (Int × Int)} {x7 : Option D} (hB : Bx B d) (hBB : B ≤ 100000) (hs : 2 ≤ h - l) (hl : h - l < 1000) (w0 : 0 ≤ way) (w1 : way < 4) :
    ∃ m d', midB [some d, some (.int n), some (.lst .own ((fd).map dPair)), some (.lst .own ((td).map dPair)), some (.int way), some (.int l), some (.int h), x7, none, none, none] = some (.nx, [some d', some (.int n), some (.lst .own ((fd).map dPair)), some (.lst .own ((td).map dPair)), some (.int way), some (.int l), some (.int h), some (.int m), none, none, none]) ∧ l < m ∧ m < h ∧ Bx (B + 2) d' := by
  obtain ⟨k, d1, e1, k0, k1, hd1⟩ := take_ok (many := h - l - 1) hB (by omega) (by omega) (by omega)
  obtain ⟨k2, d2, e2, k20, k21, hd2⟩ := take_ok (many := h - l - 1) hd1 (by omega) (by omega) (by omega)
  refine ⟨l + 1 + (if way = 0 then k else if way = 1 then 0 else if way = 2 then h - l - 2 else k2), d2, ?_, ?_, ?_, hd2⟩
  · have i := ix4 (a := k) (b := 0) (c := h - l - 2) (e := k2) w0 w1
    generalize (if way = 0 then k else if way = 1 then 0 else if way = 2 then h - l - 2 else k2) = r at i
    simp only [finM_ret, finM_nx, finM_err, finI_ret, sRet, sRetN, sEx, andThen, sAs, sSeq, sIf, sNx, sPar, sPar3, sRaise, mIf, bIf, bAnd, bOr, bNot, tVal, tTru, tTru2, asB, truD, mOp2, mOp, mC, mV, mMv, rd, mCBV, mCB, mCall, mCallI, mFz, mNeg, mTup, mLst, aCons, aNil, mAndV, mOrV, mNotV, mSl, oNone, oSome, gSl,
  bnd_ok, bnd_er, got_ok, gNm, gTp, gsCons, gsNil, gSubL, mMut, fApp, fPop, iVal, iRng, rngD1, rngD2, itemsD, mCh, cLast, cLink, tYesD,
  List.map_cons, List.map_nil, List.length_cons, List.length_nil, List.replicate, List.cons_append, List.nil_append, List.append_nil, List.getElem?_cons_zero, List.getElem?_cons_succ, List.set_cons_zero, List.set_cons_succ, Option.map_some, Option.join_some, Option.isSome_some, Option.bind_some,
  noOwn_int, noOwn_bl, noOwn_str, noOwn_non, noOwn_ty, noOwn_lst, noOwn_tup, noOwn_dit, noOwns_nil, noOwns_cons, noOwns_ints, fz_int, fz_bl, fz_str, fz_non, if_true, if_false, Bool.and_self, Bool.and_true, Bool.true_and, Bool.false_and, Bool.and_false, decide_true, decide_false, Bool.false_eq_true,
  gAdd_int, gSub_int, gLt_int, gLe_int, gGt_int, gGe_int, gEqA_int, gNeA_int, gEqA_str, gNeA_str, gLen, gInt, gAbs, gSum, intsOf_map, reduceCtorEq, ne_eq, not_false_eq_true, not_true_eq_false, and_self, and_true, true_and, and_false, false_and, Nat.reduceAdd, Nat.reduceSub, Nat.reduceMul, Nat.reduceLT, Nat.reduceLeDiff, Nat.zero_add, Int.reduceNeg, Int.reduceLT, Int.reduceLE, Int.reduceAdd, Int.reduceSub, Int.reduceMul, Int.reduceEq, Int.reduceNe, midB, e1, e2, i]
  · split
    · omega
    · split
      · omega
      · split <;> omega
  · split
    · omega
    · split
      · omega
      · split <;> omega
section
variable {d : D} {n way l h m : Int} {fd td : List (Int × Int)} {x5 x6 x7 : Option D}
theorem if1_ok (hf : fd.length ≤ 1000) : if1B [some d, some (.int n), some (.lst .own ((fd).map dPair)), some (.lst .own ((td).map dPair)), some (.int way), some (.int l), some (.int h), some (.int m), none, none, none] = some (.nx, [some d, some (.int n), some (.lst .own ((fd ++ (if 1 < m - l then [(l, m)] else [])).map dPair)), some (.lst .own ((td).map dPair)), some (.int way), some (.int l), some (.int h), some (.int m), none, none, none]) := by
  have n1 := no_pairs fd
  have l1 : (fd.map dPair).length < 1000000 := by rw [List.length_map]; omega
  by_cases hw : 1 < m - l
  · rw [if_pos hw, List.map_append]
    simp only [finM_ret, finM_nx, finM_err, finI_ret, sRet, sRetN, sEx, andThen, sAs, sSeq, sIf, sNx, sPar, sPar3, sRaise, mIf, bIf, bAnd, bOr, bNot, tVal, tTru, tTru2, asB, truD, mOp2, mOp, mC, mV, mMv, rd, mCBV, mCB, mCall, mCallI, mFz, mNeg, mTup, mLst, aCons, aNil, mAndV, mOrV, mNotV, mSl, oNone, oSome, gSl,
  bnd_ok, bnd_er, got_ok, gNm, gTp, gsCons, gsNil, gSubL, mMut, fApp, fPop, iVal, iRng, rngD1, rngD2, itemsD, mCh, cLast, cLink, tYesD,
  List.map_cons, List.map_nil, List.length_cons, List.length_nil, List.replicate, List.cons_append, List.nil_append, List.append_nil, List.getElem?_cons_zero, List.getElem?_cons_succ, List.set_cons_zero, List.set_cons_succ, Option.map_some, Option.join_some, Option.isSome_some, Option.bind_some,
  noOwn_int, noOwn_bl, noOwn_str, noOwn_non, noOwn_ty, noOwn_lst, noOwn_tup, noOwn_dit, noOwns_nil, noOwns_cons, noOwns_ints, fz_int, fz_bl, fz_str, fz_non, if_true, if_false, Bool.and_self, Bool.and_true, Bool.true_and, Bool.false_and, Bool.and_false, decide_true, decide_false, Bool.false_eq_true,
  gAdd_int, gSub_int, gLt_int, gLe_int, gGt_int, gGe_int, gEqA_int, gNeA_int, gEqA_str, gNeA_str, gLen, gInt, gAbs, gSum, intsOf_map, reduceCtorEq, ne_eq, not_false_eq_true, not_true_eq_false, and_self, and_true, true_and, and_false, false_and, Nat.reduceAdd, Nat.reduceSub, Nat.reduceMul, Nat.reduceLT, Nat.reduceLeDiff, Nat.zero_add, Int.reduceNeg, Int.reduceLT, Int.reduceLE, Int.reduceAdd, Int.reduceSub, Int.reduceMul, Int.reduceEq, Int.reduceNe, if1B, hw, n1, l1]
    rfl
  · rw [if_neg hw, List.append_nil]
    simp only [finM_ret, finM_nx, finM_err, finI_ret, sRet, sRetN, sEx, andThen, sAs, sSeq, sIf, sNx, sPar, sPar3, sRaise, mIf, bIf, bAnd, bOr, bNot, tVal, tTru, tTru2, asB, truD, mOp2, mOp, mC, mV, mMv, rd, mCBV, mCB, mCall, mCallI, mFz, mNeg, mTup, mLst, aCons, aNil, mAndV, mOrV, mNotV, mSl, oNone, oSome, gSl,
  bnd_ok, bnd_er, got_ok, gNm, gTp, gsCons, gsNil, gSubL, mMut, fApp, fPop, iVal, iRng, rngD1, rngD2, itemsD, mCh, cLast, cLink, tYesD,
  List.map_cons, List.map_nil, List.length_cons, List.length_nil, List.replicate, List.cons_append, List.nil_append, List.append_nil, List.getElem?_cons_zero, List.getElem?_cons_succ, List.set_cons_zero, List.set_cons_succ, Option.map_some, Option.join_some, Option.isSome_some, Option.bind_some,
  noOwn_int, noOwn_bl, noOwn_str, noOwn_non, noOwn_ty, noOwn_lst, noOwn_tup, noOwn_dit, noOwns_nil, noOwns_cons, noOwns_ints, fz_int, fz_bl, fz_str, fz_non, if_true, if_false, Bool.and_self, Bool.and_true, Bool.true_and, Bool.false_and, Bool.and_false, decide_true, decide_false, Bool.false_eq_true,
  gAdd_int, gSub_int, gLt_int, gLe_int, gGt_int, gGe_int, gEqA_int, gNeA_int, gEqA_str, gNeA_str, gLen, gInt, gAbs, gSum, intsOf_map, reduceCtorEq, ne_eq, not_false_eq_true, not_true_eq_false, and_self, and_true, true_and, and_false, false_and, Nat.reduceAdd, Nat.reduceSub, Nat.reduceMul, Nat.reduceLT, Nat.reduceLeDiff, Nat.zero_add, Int.reduceNeg, Int.reduceLT, Int.reduceLE, Int.reduceAdd, Int.reduceSub, Int.reduceMul, Int.reduceEq, Int.reduceNe, if1B, hw]
theorem if2_ok (hf : fd.length ≤ 1000) : if2B [some d, some (.int n), some (.lst .own ((fd).map dPair)), some (.lst .own ((td).map dPair)), some (.int way), some (.int l), some (.int h), some (.int m), none, none, none] = some (.nx, [some d, some (.int n), some (.lst .own ((fd ++ (if 1 < h - m then [(m, h)] else [])).map dPair)), some (.lst .own ((td).map dPair)), some (.int way), some (.int l), some (.int h), some (.int m), none, none, none]) := by
  have n1 := no_pairs fd
  have l1 : (fd.map dPair).length < 1000000 := by rw [List.length_map]; omega
  by_cases hw : 1 < h - m
  · rw [if_pos hw, List.map_append]
    simp only [finM_ret, finM_nx, finM_err, finI_ret, sRet, sRetN, sEx, andThen, sAs, sSeq, sIf, sNx, sPar, sPar3, sRaise, mIf, bIf, bAnd, bOr, bNot, tVal, tTru, tTru2, asB, truD, mOp2, mOp, mC, mV, mMv, rd, mCBV, mCB, mCall, mCallI, mFz, mNeg, mTup, mLst, aCons, aNil, mAndV, mOrV, mNotV, mSl, oNone, oSome, gSl,
  bnd_ok, bnd_er, got_ok, gNm, gTp, gsCons, gsNil, gSubL, mMut, fApp, fPop, iVal, iRng, rngD1, rngD2, itemsD, mCh, cLast, cLink, tYesD,
  List.map_cons, List.map_nil, List.length_cons, List.length_nil, List.replicate, List.cons_append, List.nil_append, List.append_nil, List.getElem?_cons_zero, List.getElem?_cons_succ, List.set_cons_zero, List.set_cons_succ, Option.map_some, Option.join_some, Option.isSome_some, Option.bind_some,
  noOwn_int, noOwn_bl, noOwn_str, noOwn_non, noOwn_ty, noOwn_lst, noOwn_tup, noOwn_dit, noOwns_nil, noOwns_cons, noOwns_ints, fz_int, fz_bl, fz_str, fz_non, if_true, if_false, Bool.and_self, Bool.and_true, Bool.true_and, Bool.false_and, Bool.and_false, decide_true, decide_false, Bool.false_eq_true,
  gAdd_int, gSub_int, gLt_int, gLe_int, gGt_int, gGe_int, gEqA_int, gNeA_int, gEqA_str, gNeA_str, gLen, gInt, gAbs, gSum, intsOf_map, reduceCtorEq, ne_eq, not_false_eq_true, not_true_eq_false, and_self, and_true, true_and, and_false, false_and, Nat.reduceAdd, Nat.reduceSub, Nat.reduceMul, Nat.reduceLT, Nat.reduceLeDiff, Nat.zero_add, Int.reduceNeg, Int.reduceLT, Int.reduceLE, Int.reduceAdd, Int.reduceSub, Int.reduceMul, Int.reduceEq, Int.reduceNe, if2B, hw, n1, l1]
    rfl
  · rw [if_neg hw, List.append_nil]
    simp only [finM_ret, finM_nx, finM_err, finI_ret, sRet, sRetN, sEx, andThen, sAs, sSeq, sIf, sNx, sPar, sPar3, sRaise, mIf, bIf, bAnd, bOr, bNot, tVal, tTru, tTru2, asB, truD, mOp2, mOp, mC, mV, mMv, rd, mCBV, mCB, mCall, mCallI, mFz, mNeg, mTup, mLst, aCons, aNil, mAndV, mOrV, mNotV, mSl, oNone, oSome, gSl,
  bnd_ok, bnd_er, got_ok, gNm, gTp, gsCons, gsNil, gSubL, mMut, fApp, fPop, iVal, iRng, rngD1, rngD2, itemsD, mCh, cLast, cLink, tYesD,
  List.map_cons, List.map_nil, List.length_cons, List.length_nil, List.replicate, List.cons_append, List.nil_append, List.append_nil, List.getElem?_cons_zero, List.getElem?_cons_succ, List.set_cons_zero, List.set_cons_succ, Option.map_some, Option.join_some, Option.isSome_some, Option.bind_some,
  noOwn_int, noOwn_bl, noOwn_str, noOwn_non, noOwn_ty, noOwn_lst, noOwn_tup, noOwn_dit, noOwns_nil, noOwns_cons, noOwns_ints, fz_int, fz_bl, fz_str, fz_non, if_true, if_false, Bool.and_self, Bool.and_true, Bool.true_and, Bool.false_and, Bool.and_false, decide_true, decide_false, Bool.false_eq_true,
  gAdd_int, gSub_int, gLt_int, gLe_int, gGt_int, gGe_int, gEqA_int, gNeA_int, gEqA_str, gNeA_str, gLen, gInt, gAbs, gSum, intsOf_map, reduceCtorEq, ne_eq, not_false_eq_true, not_true_eq_false, and_self, and_true, true_and, and_false, false_and, Nat.reduceAdd, Nat.reduceSub, Nat.reduceMul, Nat.reduceLT, Nat.reduceLeDiff, Nat.zero_add, Int.reduceNeg, Int.reduceLT, Int.reduceLE, Int.reduceAdd, Int.reduceSub, Int.reduceMul, Int.reduceEq, Int.reduceNe, if2B, hw]
theorem push_ok (hf : td.length ≤ 1000) : pushB [some d, some (.int n), some (.lst .own ((fd).map dPair)), some (.lst .own ((td).map dPair)), some (.int way), some (.int l), some (.int h), some (.int m), none, none, none] = some (.nx, [some d, some (.int n), some (.lst .own ((fd).map dPair)), some (.lst .own ((td ++ [(l, m), (m, h)]).map dPair)), some (.int way), some (.int l), some (.int h), some (.int m), none, none, none]) := by
  have e1 : mLst (aCons (mTup (aCons (mV 5) (aCons (mV 7) aNil))) (aCons (mTup (aCons (mV 7) (aCons (mV 6) aNil))) aNil)) [some d, some (.int n), some (.lst .own ((fd).map dPair)), some (.lst .own ((td).map dPair)), some (.int way), some (.int l), some (.int h), some (.int m), none, none, none] = some (.ok (.lst .own ([(l, m), (m, h)].map dPair)), [some d, some (.int n), some (.lst .own ((fd).map dPair)), some (.lst .own ((td).map dPair)), some (.int way), some (.int l), some (.int h), some (.int m), none, none, none]) := by
    simp only [finM_ret, finM_nx, finM_err, finI_ret, sRet, sRetN, sEx, andThen, sAs, sSeq, sIf, sNx, sPar, sPar3, sRaise, mIf, bIf, bAnd, bOr, bNot, tVal, tTru, tTru2, asB, truD, mOp2, mOp, mC, mV, mMv, rd, mCBV, mCB, mCall, mCallI, mFz, mNeg, mTup, mLst, aCons, aNil, mAndV, mOrV, mNotV, mSl, oNone, oSome, gSl,
  bnd_ok, bnd_er, got_ok, gNm, gTp, gsCons, gsNil, gSubL, mMut, fApp, fPop, iVal, iRng, rngD1, rngD2, itemsD, mCh, cLast, cLink, tYesD,
  List.map_cons, List.map_nil, List.length_cons, List.length_nil, List.replicate, List.cons_append, List.nil_append, List.append_nil, List.getElem?_cons_zero, List.getElem?_cons_succ, List.set_cons_zero, List.set_cons_succ, Option.map_some, Option.join_some, Option.isSome_some, Option.bind_some,
  noOwn_int, noOwn_bl, noOwn_str, noOwn_non, noOwn_ty, noOwn_lst, noOwn_tup, noOwn_dit, noOwns_nil, noOwns_cons, noOwns_ints, fz_int, fz_bl, fz_str, fz_non, if_true, if_false, Bool.and_self, Bool.and_true, Bool.true_and, Bool.false_and, Bool.and_false, decide_true, decide_false, Bool.false_eq_true,
  gAdd_int, gSub_int, gLt_int, gLe_int, gGt_int, gGe_int, gEqA_int, gNeA_int, gEqA_str, gNeA_str, gLen, gInt, gAbs, gSum, intsOf_map, reduceCtorEq, ne_eq, not_false_eq_true, not_true_eq_false, and_self, and_true, true_and, and_false, false_and, Nat.reduceAdd, Nat.reduceSub, Nat.reduceMul, Nat.reduceLT, Nat.reduceLeDiff, Nat.zero_add, Int.reduceNeg, Int.reduceLT, Int.reduceLE, Int.reduceAdd, Int.reduceSub, Int.reduceMul, Int.reduceEq, Int.reduceNe, dPair]
  have e2 := catL (no_pairs td) (no_pairs [(l, m), (m, h)]) (by simp only [List.length_map, List.length_cons, List.length_nil]; omega)
  rw [← List.map_append] at e2
  unfold pushB sAs
  rw [andThen_ok (op2_se rfl e1 rfl e2)]
  rfl
theorem pop_ok : (sAs (mMut 3 fPop aNil) (gTp (gsCons (gNm 5) (gsCons (gNm 6) gsNil)))) [some d, some (.int n), some (.lst .own ((fd).map dPair)), some (.lst .own ((td ++ [(l, h)]).map dPair)), some (.int way), x5, x6, x7, none, none, none] = some (.nx, [some d, some (.int n), some (.lst .own ((fd).map dPair)), some (.lst .own ((td).map dPair)), some (.int way), some (.int l), some (.int h), x7, none, none, none]) := by
  have nt := no_pairs (td ++ [(l, h)])
  have pp : fPop ((td ++ [(l, h)]).map dPair) [] = some (td.map dPair, dPair (l, h)) := by
    rw [List.map_append]
    simp [fPop]
  simp only [sAs, andThen, mMut, aNil, bnd_ok, List.getElem?_cons_succ, List.getElem?_cons_zero, nt, noOwns_nil, and_self, if_true, pp]
  rfl
end
end Fk07

set_option maxHeartbeats 4000000
namespace Fk07
open PySem PySem.Spec PyProof.Rows L2 Fx
def mzP (p : Int × Int) : Nat := (2 * (p.2 - p.1) - 1).toNat
def fnP (p : Int × Int) : Nat := (p.2 - p.1 - 2).toNat
def mz (td : List (Int × Int)) : Nat := (td.map mzP).sum
def fz2 (td : List (Int × Int)) : Nat := (td.map fnP).sum
theorem mz_app (a b : List (Int × Int)) : mz (a ++ b) = mz a + mz b := by simp [mz]
theorem fz2_app (a b : List (Int × Int)) : fz2 (a ++ b) = fz2 a + fz2 b := by simp [fz2]
structure Dr (n : Int) (fd td : List (Int × Int)) : Prop where
  f : ∀ p ∈ fd, 0 ≤ p.1 ∧ p.1 < n ∧ 0 ≤ p.2 ∧ p.2 < n
  t : ∀ p ∈ td, 0 ≤ p.1 ∧ p.1 < p.2 ∧ p.2 < n
  c : ((fd.length + fz2 td : Nat) : Int) = n - 3
theorem mz_len {n : Int} {fd td : List (Int × Int)} (h : Dr n fd td) : td.length ≤ mz td := by
  have : ∀ td : List (Int × Int), (∀ p ∈ td, 0 ≤ p.1 ∧ p.1 < p.2 ∧ p.2 < n) → td.length ≤ mz td := by
    intro td
    induction td with
    | nil => intro _; exact Nat.le_refl _
    | cons p td ih =>
      intro h
      have h1 := h p List.mem_cons_self
      have h2 := ih fun q hq => h q (List.mem_cons_of_mem _ hq)
      simp only [mz, List.map_cons, List.sum_cons, List.length_cons, mzP] at h2 ⊢
      omega
  exact this td h.t
theorem wide_ok {B : Nat} {d : D} {n way l h : Int} {fd td : List (Int × Int)} {x7 : Option D} (hB : Bx B d) (hBB : B ≤ 100000) (hn : n ≤ 24) (w0 : 0 ≤ way) (w1 : way < 4) (hd : Dr n fd (td ++ [(l, h)])) (hm : mz (td ++ [(l, h)]) ≤ 1000) :
    ∃ d' fd' td' y7, wideB [some d, some (.int n), some (.lst .own ((fd).map dPair)), some (.lst .own ((td).map dPair)), some (.int way), some (.int l), some (.int h), x7, none, none, none] = some (.nx, [some d', some (.int n), some (.lst .own ((fd').map dPair)), some (.lst .own ((td').map dPair)), some (.int way), some (.int l), some (.int h), y7, none, none, none]) ∧ Bx (B + 2) d' ∧ Dr n fd' td' ∧ mz td' + 1 ≤ mz (td ++ [(l, h)]) := by
  have hp := hd.t (l, h) (by simp)
  simp only at hp
  have hc := hd.c
  have ht : ∀ p ∈ td, 0 ≤ p.1 ∧ p.1 < p.2 ∧ p.2 < n := fun p q => hd.t p (List.mem_append_left _ q)
  have ml := mz_len hd
  rw [List.length_append] at ml
  have hlen : td.length ≤ 1000 := by omega
  have hfl : fd.length ≤ 998 := by omega
  have m1 : mz (td ++ [(l, h)]) = mz td + (2 * (h - l) - 1).toNat := by rw [mz_app]; simp [mz, mzP]
  have f1 : fz2 (td ++ [(l, h)]) = fz2 td + (h - l - 2).toNat := by rw [fz2_app]; simp [fz2, fnP]
  by_cases hs : 1 < h - l
  · obtain ⟨m, d', e1, lm, mh, hd'⟩ := mid_val (x7 := x7) (fd := fd) (td := td) (n := n) hB hBB (show 2 ≤ h - l by omega) (by omega) w0 w1
    have t : tVal (mOp2 gGt (.ev (mOp2 gSub (.sl 6) (.sl 5))) (.ev (mC (.int 1)))) [some d, some (.int n), some (.lst .own ((fd).map dPair)), some (.lst .own ((td).map dPair)), some (.int way), some (.int l), some (.int h), x7, none, none, none] = some (.ok true, [some d, some (.int n), some (.lst .own ((fd).map dPair)), some (.lst .own ((td).map dPair)), some (.int way), some (.int l), some (.int h), x7, none, none, none]) := by
      simp only [finM_ret, finM_nx, finM_err, finI_ret, sRet, sRetN, sEx, andThen, sAs, sSeq, sIf, sNx, sPar, sPar3, sRaise, mIf, bIf, bAnd, bOr, bNot, tVal, tTru, tTru2, asB, truD, mOp2, mOp, mC, mV, mMv, rd, mCBV, mCB, mCall, mCallI, mFz, mNeg, mTup, mLst, aCons, aNil, mAndV, mOrV, mNotV, mSl, oNone, oSome, gSl,
  bnd_ok, bnd_er, got_ok, gNm, gTp, gsCons, gsNil, gSubL, mMut, fApp, fPop, iVal, iRng, rngD1, rngD2, itemsD, mCh, cLast, cLink, tYesD,
  List.map_cons, List.map_nil, List.length_cons, List.length_nil, List.replicate, List.cons_append, List.nil_append, List.append_nil, List.getElem?_cons_zero, List.getElem?_cons_succ, List.set_cons_zero, List.set_cons_succ, Option.map_some, Option.join_some, Option.isSome_some, Option.bind_some,
  noOwn_int, noOwn_bl, noOwn_str, noOwn_non, noOwn_ty, noOwn_lst, noOwn_tup, noOwn_dit, noOwns_nil, noOwns_cons, noOwns_ints, fz_int, fz_bl, fz_str, fz_non, if_true, if_false, Bool.and_self, Bool.and_true, Bool.true_and, Bool.false_and, Bool.and_false, decide_true, decide_false, Bool.false_eq_true,
  gAdd_int, gSub_int, gLt_int, gLe_int, gGt_int, gGe_int, gEqA_int, gNeA_int, gEqA_str, gNeA_str, gLen, gInt, gAbs, gSum, intsOf_map, reduceCtorEq, ne_eq, not_false_eq_true, not_true_eq_false, and_self, and_true, true_and, and_false, false_and, Nat.reduceAdd, Nat.reduceSub, Nat.reduceMul, Nat.reduceLT, Nat.reduceLeDiff, Nat.zero_add, Int.reduceNeg, Int.reduceLT, Int.reduceLE, Int.reduceAdd, Int.reduceSub, Int.reduceMul, Int.reduceEq, Int.reduceNe, hs]
    refine ⟨d', (fd ++ (if 1 < m - l then [(l, m)] else [])) ++ (if 1 < h - m then [(m, h)] else []), td ++ [(l, m), (m, h)], some (.int m), ?_, hd', ⟨?_, ?_, ?_⟩, ?_⟩
    · unfold wideB
      rw [if_tt t, seq_nx e1, seq_nx (if1_ok (by omega)), seq_nx (if2_ok (by rw [List.length_append]; split <;> simp <;> omega)), push_ok hlen]
    · intro p hq
      rcases List.mem_append.mp hq with hq | hq
      · rcases List.mem_append.mp hq with hq | hq
        · exact hd.f p hq
        · split at hq
          · simp only [List.mem_cons, List.not_mem_nil, or_false] at hq
            subst hq
            simp only
            omega
          · cases hq
      · split at hq
        · simp only [List.mem_cons, List.not_mem_nil, or_false] at hq
          subst hq
          simp only
          omega
        · cases hq
    · intro p hq
      rcases List.mem_append.mp hq with hq | hq
      · exact ht p hq
      · simp only [List.mem_cons, List.not_mem_nil, or_false] at hq
        rcases hq with rfl | rfl <;> simp only <;> omega
    · have f2 : fz2 (td ++ [(l, m), (m, h)]) = fz2 td + ((m - l - 2).toNat + (h - m - 2).toNat) := by rw [fz2_app]; simp [fz2, fnP]
      have l2 : (fd ++ (if 1 < m - l then [(l, m)] else []) ++ (if 1 < h - m then [(m, h)] else [])).length = fd.length + (if 1 < m - l then 1 else 0) + (if 1 < h - m then 1 else 0) := by
        rw [List.length_append, List.length_append]
        split <;> split <;> rfl
      rw [l2, f2]
      split <;> split <;> omega
    · have m2 : mz (td ++ [(l, m), (m, h)]) = mz td + ((2 * (m - l) - 1).toNat + (2 * (h - m) - 1).toNat) := by rw [mz_app]; simp [mz, mzP]
      omega
  · have t : tVal (mOp2 gGt (.ev (mOp2 gSub (.sl 6) (.sl 5))) (.ev (mC (.int 1)))) [some d, some (.int n), some (.lst .own ((fd).map dPair)), some (.lst .own ((td).map dPair)), some (.int way), some (.int l), some (.int h), x7, none, none, none] = some (.ok false, [some d, some (.int n), some (.lst .own ((fd).map dPair)), some (.lst .own ((td).map dPair)), some (.int way), some (.int l), some (.int h), x7, none, none, none]) := by
      simp only [finM_ret, finM_nx, finM_err, finI_ret, sRet, sRetN, sEx, andThen, sAs, sSeq, sIf, sNx, sPar, sPar3, sRaise, mIf, bIf, bAnd, bOr, bNot, tVal, tTru, tTru2, asB, truD, mOp2, mOp, mC, mV, mMv, rd, mCBV, mCB, mCall, mCallI, mFz, mNeg, mTup, mLst, aCons, aNil, mAndV, mOrV, mNotV, mSl, oNone, oSome, gSl,
  bnd_ok, bnd_er, got_ok, gNm, gTp, gsCons, gsNil, gSubL, mMut, fApp, fPop, iVal, iRng, rngD1, rngD2, itemsD, mCh, cLast, cLink, tYesD,
  List.map_cons, List.map_nil, List.length_cons, List.length_nil, List.replicate, List.cons_append, List.nil_append, List.append_nil, List.getElem?_cons_zero, List.getElem?_cons_succ, List.set_cons_zero, List.set_cons_succ, Option.map_some, Option.join_some, Option.isSome_some, Option.bind_some,
  noOwn_int, noOwn_bl, noOwn_str, noOwn_non, noOwn_ty, noOwn_lst, noOwn_tup, noOwn_dit, noOwns_nil, noOwns_cons, noOwns_ints, fz_int, fz_bl, fz_str, fz_non, if_true, if_false, Bool.and_self, Bool.and_true, Bool.true_and, Bool.false_and, Bool.and_false, decide_true, decide_false, Bool.false_eq_true,
  gAdd_int, gSub_int, gLt_int, gLe_int, gGt_int, gGe_int, gEqA_int, gNeA_int, gEqA_str, gNeA_str, gLen, gInt, gAbs, gSum, intsOf_map, reduceCtorEq, ne_eq, not_false_eq_true, not_true_eq_false, and_self, and_true, true_and, and_false, false_and, Nat.reduceAdd, Nat.reduceSub, Nat.reduceMul, Nat.reduceLT, Nat.reduceLeDiff, Nat.zero_add, Int.reduceNeg, Int.reduceLT, Int.reduceLE, Int.reduceAdd, Int.reduceSub, Int.reduceMul, Int.reduceEq, Int.reduceNe, hs]
    refine ⟨d, fd, td, x7, ?_, hB.mono (by omega), ⟨hd.f, ht, ?_⟩, ?_⟩
    · unfold wideB
      rw [if_ff t]
      rfl
    · omega
    · omega
/-! ### the pairs, turned and sorted -/
def qP (n tu : Int) (p : Int × Int) : Int × Int := ((sortI [(p.1 + tu).fmod n, (p.2 + tu).fmod n]).getD 0 0, (sortI [(p.1 + tu).fmod n, (p.2 + tu).fmod n]).getD 1 0)
theorem sort2 (a b : Int) : ∃ x y, sortI [a, b] = [x, y] ∧ (x = a ∨ x = b) ∧ (y = a ∨ y = b) := by
  have hp : (sortI [a, b]).Perm [a, b] := List.mergeSort_perm _ _
  have hl := hp.length_eq
  match h : sortI [a, b] with
  | [] => rw [h] at hl; simp at hl
  | [_] => rw [h] at hl; simp at hl
  | [x, y] =>
    rw [h] at hp
    have h1 := hp.mem_iff (a := x)
    have h2 := hp.mem_iff (a := y)
    simp at h1 h2
    exact ⟨x, y, rfl, h1, h2⟩
  | _ :: _ :: _ :: _ => rw [h] at hl; simp at hl
theorem pairsD_map (ps : List (Int × Int)) : pairsD (ps.map dPair) = some ps := by
  induction ps with
  | nil => rfl
  | cons p ps ih =>
    rw [List.map_cons]
    have e : pairsD (dPair p :: ps.map dPair) = (match some p, pairsD (ps.map dPair) with
      | some p, some ps => some (p :: ps)
      | _, _ => none) := rfl
    rw [e, ih]
theorem sorted_pairs {o : Ow} (ps : List (Int × Int)) : gSorted [.lst o (ps.map dPair)] = some (.lst .own ((sortP ps).map dPair)) := by
  cases ps with
  | nil =>
    have h1 : gSorI [.lst o (([] : List (Int × Int)).map dPair)] = some (.lst .own ((sortI []).map .int)) := rfl
    show cOr gSorI gSorP _ = _
    unfold cOr
    rw [h1]
    simp [sortI, sortP]
  | cons p ps =>
    have h1 : gSorI [.lst o ((p :: ps).map dPair)] = none := rfl
    have h2 : gSorP [.lst o ((p :: ps).map dPair)] = some (.lst .own ((sortP (p :: ps)).map dPair)) := by
      show (pairsD ((p :: ps).map dPair)).map _ = _
      rw [pairsD_map]
      rfl
    show cOr gSorI gSorP _ = _
    unfold cOr
    rw [h1]
    exact h2
theorem item_ok {d : D} {n a b tu : Int} {x2 x3 x4 x5 x6 x7 : Option D} (hn : n ≠ 0) : (mCB gTuple (aCons (mCB gSorted (aCons (mLst (aCons (mOp2 gMod (.ev (mCB gInt (aCons (mOp2 gAdd (.sl 9) (.sl 8)) aNil))) (.sl 1)) (aCons (mOp2 gMod (.ev (mCB gInt (aCons (mOp2 gAdd (.sl 10) (.sl 8)) aNil))) (.sl 1)) aNil))) aNil)) aNil)) [some d, some (.int n), x2, x3, x4, x5, x6, x7, some (.int tu), some (.int a), some (.int b)] = some (.ok (dPair (qP n tu (a, b))), [some d, some (.int n), x2, x3, x4, x5, x6, x7, some (.int tu), some (.int a), some (.int b)]) := by
  have m1 : gMod (.int (a + tu)) (.int n) = some (.int ((a + tu).fmod n)) := gMod_int hn
  have m2 : gMod (.int (b + tu)) (.int n) = some (.int ((b + tu).fmod n)) := gMod_int hn
  obtain ⟨x, y, e, _, _⟩ := sort2 ((a + tu).fmod n) ((b + tu).fmod n)
  have s1 : gSorted [.lst .own [.int ((a + tu).fmod n), .int ((b + tu).fmod n)]] = some (.lst .own [.int x, .int y]) := by
    show cOr gSorI gSorP _ = _
    unfold cOr
    have : gSorI [.lst .own [.int ((a + tu).fmod n), .int ((b + tu).fmod n)]] = some (.lst .own ((sortI [(a + tu).fmod n, (b + tu).fmod n]).map .int)) := rfl
    rw [this, e]
    rfl
  have s2 : gTuple [.lst .own [.int x, .int y]] = some (.tup false [.int x, .int y]) := by
    simp [gTuple, gTupS, noOwns, noOwn]
  unfold qP dPair
  simp only [e]
  simp only [finM_ret, finM_nx, finM_err, finI_ret, sRet, sRetN, sEx, andThen, sAs, sSeq, sIf, sNx, sPar, sPar3, sRaise, mIf, bIf, bAnd, bOr, bNot, tVal, tTru, tTru2, asB, truD, mOp2, mOp, mC, mV, mMv, rd, mCBV, mCB, mCall, mCallI, mFz, mNeg, mTup, mLst, aCons, aNil, mAndV, mOrV, mNotV, mSl, oNone, oSome, gSl,
  bnd_ok, bnd_er, got_ok, gNm, gTp, gsCons, gsNil, gSubL, mMut, fApp, fPop, iVal, iRng, rngD1, rngD2, itemsD, mCh, cLast, cLink, tYesD,
  List.map_cons, List.map_nil, List.length_cons, List.length_nil, List.replicate, List.cons_append, List.nil_append, List.append_nil, List.getElem?_cons_zero, List.getElem?_cons_succ, List.set_cons_zero, List.set_cons_succ, Option.map_some, Option.join_some, Option.isSome_some, Option.bind_some,
  noOwn_int, noOwn_bl, noOwn_str, noOwn_non, noOwn_ty, noOwn_lst, noOwn_tup, noOwn_dit, noOwns_nil, noOwns_cons, noOwns_ints, fz_int, fz_bl, fz_str, fz_non, if_true, if_false, Bool.and_self, Bool.and_true, Bool.true_and, Bool.false_and, Bool.and_false, decide_true, decide_false, Bool.false_eq_true,
  gAdd_int, gSub_int, gLt_int, gLe_int, gGt_int, gGe_int, gEqA_int, gNeA_int, gEqA_str, gNeA_str, gLen, gInt, gAbs, gSum, intsOf_map, reduceCtorEq, ne_eq, not_false_eq_true, not_true_eq_false, and_self, and_true, true_and, and_false, false_and, Nat.reduceAdd, Nat.reduceSub, Nat.reduceMul, Nat.reduceLT, Nat.reduceLeDiff, Nat.zero_add, Int.reduceNeg, Int.reduceLT, Int.reduceLE, Int.reduceAdd, Int.reduceSub, Int.reduceMul, Int.reduceEq, Int.reduceNe, m1, m2, s1, s2]
  rfl
end Fk07

set_option maxHeartbeats 4000000
namespace Fk07
open PySem PySem.Spec PyProof.Rows L2 Fx
theorem cb1_ok {g : List D → Option D} {m : EM} {S S1 : Sl} {d z : D} (h : m S = some (.ok d, S1)) (hg : g [d] = some z) : mCB g (aCons m aNil) S = some (.ok z, S1) := by
  simp only [mCB, aCons, aNil, h, bnd_ok, hg, got_ok]
theorem lcP_ok {d3 : D} {n way tu : Int} {fd : List (Int × Int)} {x5 x6 x7 : Option D} (hn : n ≠ 0) (hl : fd.length ≤ 1000) : (mLc [9, 10] (iVal (mV 2)) (gTp (gsCons (gNm 9) (gsCons (gNm 10) gsNil))) tYesD (mCB gTuple (aCons (mCB gSorted (aCons (mLst (aCons (mOp2 gMod (.ev (mCB gInt (aCons (mOp2 gAdd (.sl 9) (.sl 8)) aNil))) (.sl 1)) (aCons (mOp2 gMod (.ev (mCB gInt (aCons (mOp2 gAdd (.sl 10) (.sl 8)) aNil))) (.sl 1)) aNil))) aNil)) aNil))) [some d3, some (.int n), some (.lst .own (fd.map dPair)), some (.lst .own []), some (.int way), x5, x6, x7, some (.int tu), none, none] = some (.ok (.lst .own ((fd.map (qP n tu)).map dPair)), [some d3, some (.int n), some (.lst .frz (fd.map dPair)), some (.lst .own []), some (.int way), x5, x6, x7, some (.int tu), none, none]) := by
  have m2 : mV 2 [some d3, some (.int n), some (.lst .own (fd.map dPair)), some (.lst .own []), some (.int way), x5, x6, x7, some (.int tu), none, none] = some (.ok (.lst .frz (fd.map dPair)), [some d3, some (.int n), some (.lst .frz (fd.map dPair)), some (.lst .own []), some (.int way), x5, x6, x7, some (.int tu), none, none]) := by
    have n2 : noOwn (.lst .own (fd.map dPair)) = false := by simp [noOwn_lst]
    have f2 : fz (.lst .own (fd.map dPair)) = .lst .frz (fd.map dPair) := by
      rw [fz_lst, if_pos rfl, fzs_same _ (no_pairs fd)]
    have := mV_own (i := 2) (S := [some d3, some (.int n), some (.lst .own (fd.map dPair)), some (.lst .own []), some (.int way), x5, x6, x7, some (.int tu), none, none]) rfl n2
    rw [f2] at this
    exact this
  have e0 : iVal (mV 2) [some d3, some (.int n), some (.lst .own (fd.map dPair)), some (.lst .own []), some (.int way), x5, x6, x7, some (.int tu), none, none] = some (.ok (fd.map dPair), [some d3, some (.int n), some (.lst .frz (fd.map dPair)), some (.lst .own []), some (.int way), x5, x6, x7, some (.int tu), none, none]) := by
    have n3 := no_pairs fd
    simp only [iVal, m2, bnd_ok, itemsD, n3, if_true, got_ok]
  have hm := mLc_map (vs := [9, 10]) (g := gTp (gsCons (gNm 9) (gsCons (gNm 10) gsNil))) (m := (mCB gTuple (aCons (mCB gSorted (aCons (mLst (aCons (mOp2 gMod (.ev (mCB gInt (aCons (mOp2 gAdd (.sl 9) (.sl 8)) aNil))) (.sl 1)) (aCons (mOp2 gMod (.ev (mCB gInt (aCons (mOp2 gAdd (.sl 10) (.sl 8)) aNil))) (.sl 1)) aNil))) aNil)) aNil))) (fun x => match x with | .tup _ [.int a, .int b] => dPair (qP n tu (a, b)) | _ => .non) e0 rfl (fun x hx => by
    obtain ⟨p, hp, rfl⟩ := List.mem_map.mp hx
    exact ⟨_, _, rfl, item_ok (a := p.1) (b := p.2) hn, rfl⟩) (by rw [List.length_map]; omega) rfl
  have hf : (fd.map dPair).map (fun x => match x with | .tup _ [.int a, .int b] => dPair (qP n tu (a, b)) | _ => .non) = (fd.map (qP n tu)).map dPair := by
    rw [List.map_map, List.map_map]
    rfl
  rw [hf] at hm
  exact hm
theorem q_in {n tu : Int} (hn : 0 < n) (p : Int × Int) : 0 ≤ (qP n tu p).1 ∧ (qP n tu p).1 < n ∧ 0 ≤ (qP n tu p).2 ∧ (qP n tu p).2 < n := by
  obtain ⟨x, y, e, h1, h2⟩ := sort2 ((p.1 + tu).fmod n) ((p.2 + tu).fmod n)
  have a1 := fm_nn (a := p.1 + tu) hn
  have a2 := fm_nn (a := p.2 + tu) hn
  unfold qP
  rw [e]
  simp only [List.getD_cons_zero, List.getD_cons_succ]
  rcases h1 with rfl | rfl <;> rcases h2 with rfl | rfl <;> exact ⟨by omega, by omega, by omega, by omega⟩
theorem drawn_ok {d : D} {n : Int} {B : Nat} (hB : Bx B d) (hBB : B ≤ 10000) (h3 : 3 ≤ n) (h24 : n ≤ 24) : ∃ (ps : List (Int × Int)) (d' : D), m__law_drawn [d, .int n] = some (.ok (.tup false (ps.map dPair)), some d') ∧ (ps.length : Int) = n - 3 ∧ (∀ p ∈ ps, 0 ≤ p.1 ∧ p.1 < n ∧ 0 ≤ p.2 ∧ p.2 < n) ∧ Bx (B + 200) d' := by
  obtain ⟨way, d1, e1, w0, w1, hd1⟩ := take_ok (many := 4) hB (by omega) (by decide) (by decide)
  have a1 : sPar3 2 3 4 (aCons (mLst aNil) (aCons (mLst (aCons (mTup (aCons (mC (.int 0)) (aCons (mOp2 gSub (.sl 1) (.ev (mC (.int 1)))) aNil))) aNil)) (aCons (mCallI 0 m__law_take (aCons (mC (.int 4)) aNil)) aNil))) [some d, some (.int n), none, none, none, none, none, none, none, none, none] = some (.nx, [some d1, some (.int n), some (.lst .own (([]).map dPair)), some (.lst .own (([(0, n - 1)]).map dPair)), some (.int way), none, none, none, none, none, none]) := by
    simp only [finM_ret, finM_nx, finM_err, finI_ret, sRet, sRetN, sEx, andThen, sAs, sSeq, sIf, sNx, sPar, sPar3, sRaise, mIf, bIf, bAnd, bOr, bNot, tVal, tTru, tTru2, asB, truD, mOp2, mOp, mC, mV, mMv, rd, mCBV, mCB, mCall, mCallI, mFz, mNeg, mTup, mLst, aCons, aNil, mAndV, mOrV, mNotV, mSl, oNone, oSome, gSl,
  bnd_ok, bnd_er, got_ok, gNm, gTp, gsCons, gsNil, gSubL, mMut, fApp, fPop, iVal, iRng, rngD1, rngD2, itemsD, mCh, cLast, cLink, tYesD,
  List.map_cons, List.map_nil, List.length_cons, List.length_nil, List.replicate, List.cons_append, List.nil_append, List.append_nil, List.getElem?_cons_zero, List.getElem?_cons_succ, List.set_cons_zero, List.set_cons_succ, Option.map_some, Option.join_some, Option.isSome_some, Option.bind_some,
  noOwn_int, noOwn_bl, noOwn_str, noOwn_non, noOwn_ty, noOwn_lst, noOwn_tup, noOwn_dit, noOwns_nil, noOwns_cons, noOwns_ints, fz_int, fz_bl, fz_str, fz_non, if_true, if_false, Bool.and_self, Bool.and_true, Bool.true_and, Bool.false_and, Bool.and_false, decide_true, decide_false, Bool.false_eq_true,
  gAdd_int, gSub_int, gLt_int, gLe_int, gGt_int, gGe_int, gEqA_int, gNeA_int, gEqA_str, gNeA_str, gLen, gInt, gAbs, gSum, intsOf_map, reduceCtorEq, ne_eq, not_false_eq_true, not_true_eq_false, and_self, and_true, true_and, and_false, false_and, Nat.reduceAdd, Nat.reduceSub, Nat.reduceMul, Nat.reduceLT, Nat.reduceLeDiff, Nat.zero_add, Int.reduceNeg, Int.reduceLT, Int.reduceLE, Int.reduceAdd, Int.reduceSub, Int.reduceMul, Int.reduceEq, Int.reduceNe, sPar3, e1, dPair]
  obtain ⟨S', e2, d2, b, fd, x5, x6, x7, rfl, hd2, hb, hdr⟩ := sWh_inv (t := tVal (mOp2 gNeA (.sl 3) (.ev (mLst aNil)))) (b := sSeq (sAs (mMut 3 fPop aNil) (gTp (gsCons (gNm 5) (gsCons (gNm 6) gsNil)))) wideB)
    (fun k S => ∃ d2 b fd td x5 x6 x7, S = [some d2, some (.int n), some (.lst .own ((fd).map dPair)), some (.lst .own ((td).map dPair)), some (.int way), x5, x6, x7, none, none, none] ∧ Bx b d2 ∧ b + 2 * mz td ≤ B + 150 ∧ Dr n fd td ∧ k = mz td ∧ mz td ≤ 1000) (fun S => ∃ d2 b fd x5 x6 x7, S = [some d2, some (.int n), some (.lst .own ((fd).map dPair)), some (.lst .own (([]).map dPair)), some (.int way), x5, x6, x7, none, none, none] ∧ Bx b d2 ∧ b ≤ B + 150 ∧ Dr n fd [])
    (fun k S ⟨d2, b, fd, td, x5, x6, x7, hS, hd2, hb, hdr, hk, hz⟩ => by
      subst hS hk
      have ht : tVal (mOp2 gNeA (.sl 3) (.ev (mLst aNil))) [some d2, some (.int n), some (.lst .own ((fd).map dPair)), some (.lst .own ((td).map dPair)), some (.int way), x5, x6, x7, none, none, none] = some (.ok (!(td.map dPair).isEmpty), [some d2, some (.int n), some (.lst .own ((fd).map dPair)), some (.lst .own ((td).map dPair)), some (.int way), x5, x6, x7, none, none, none]) :=
        tval_ok (op2_se (g := gNeA) (b := mLst aNil) (e := .lst .own []) rfl rfl rfl gNeA_nil)
      rcases List.eq_nil_or_concat td with rfl | ⟨init, p, hh⟩
      · exact .inl ⟨_, ht, d2, b, fd, x5, x6, x7, rfl, hd2, by omega, hdr⟩
      · rw [List.concat_eq_append] at hh
        subst hh
        obtain ⟨l, h⟩ := p
        obtain ⟨d4, fd4, td4, y7, e, hd4, hdr4, hz4⟩ := wide_ok (x7 := x7) hd2 (by omega) h24 w0 w1 hdr hz
        have he : (!((init ++ [(l, h)]).map dPair).isEmpty) = true := by simp
        rw [he] at ht
        exact .inr ⟨_, _, mz td4, ht, by rw [seq_nx pop_ok, e], by omega, d4, b + 2, fd4, td4, _, _, _, rfl, hd4, by omega, hdr4, rfl, by omega⟩) (mz [(0, n - 1)]) [some d1, some (.int n), some (.lst .own (([]).map dPair)), some (.lst .own (([(0, n - 1)]).map dPair)), some (.int way), none, none, none, none, none, none]
    ⟨d1, B + 1, [], [(0, n - 1)], none, none, none, rfl, hd1, by simp [mz, mzP]; omega, ⟨fun p h => (nomatch h), fun p h => by
      simp only [List.mem_cons, List.not_mem_nil, or_false] at h
      subst h
      simp only
      omega, by simp [fz2, fnP]; omega⟩, rfl, by simp [mz, mzP]; omega⟩
  obtain ⟨tu, d3, e3, t0, t1, hd3⟩ := take_ok (many := n) hd2 (by omega) (by omega) (by omega)
  have hc := hdr.c
  simp only [fz2, List.map_nil, List.sum_nil, Nat.add_zero] at hc
  have a3 : sAs (mCallI 0 m__law_take (aCons (mV 1) aNil)) (gNm 8) [some d2, some (.int n), some (.lst .own ((fd).map dPair)), some (.lst .own (([]).map dPair)), some (.int way), x5, x6, x7, none, none, none] = some (.nx, [some d3, some (.int n), some (.lst .own (fd.map dPair)), some (.lst .own []), some (.int way), x5, x6, x7, some (.int tu), none, none]) := by
    simp only [finM_ret, finM_nx, finM_err, finI_ret, sRet, sRetN, sEx, andThen, sAs, sSeq, sIf, sNx, sPar, sPar3, sRaise, mIf, bIf, bAnd, bOr, bNot, tVal, tTru, tTru2, asB, truD, mOp2, mOp, mC, mV, mMv, rd, mCBV, mCB, mCall, mCallI, mFz, mNeg, mTup, mLst, aCons, aNil, mAndV, mOrV, mNotV, mSl, oNone, oSome, gSl,
  bnd_ok, bnd_er, got_ok, gNm, gTp, gsCons, gsNil, gSubL, mMut, fApp, fPop, iVal, iRng, rngD1, rngD2, itemsD, mCh, cLast, cLink, tYesD,
  List.map_cons, List.map_nil, List.length_cons, List.length_nil, List.replicate, List.cons_append, List.nil_append, List.append_nil, List.getElem?_cons_zero, List.getElem?_cons_succ, List.set_cons_zero, List.set_cons_succ, Option.map_some, Option.join_some, Option.isSome_some, Option.bind_some,
  noOwn_int, noOwn_bl, noOwn_str, noOwn_non, noOwn_ty, noOwn_lst, noOwn_tup, noOwn_dit, noOwns_nil, noOwns_cons, noOwns_ints, fz_int, fz_bl, fz_str, fz_non, if_true, if_false, Bool.and_self, Bool.and_true, Bool.true_and, Bool.false_and, Bool.and_false, decide_true, decide_false, Bool.false_eq_true,
  gAdd_int, gSub_int, gLt_int, gLe_int, gGt_int, gGe_int, gEqA_int, gNeA_int, gEqA_str, gNeA_str, gLen, gInt, gAbs, gSum, intsOf_map, reduceCtorEq, ne_eq, not_false_eq_true, not_true_eq_false, and_self, and_true, true_and, and_false, false_and, Nat.reduceAdd, Nat.reduceSub, Nat.reduceMul, Nat.reduceLT, Nat.reduceLeDiff, Nat.zero_add, Int.reduceNeg, Int.reduceLT, Int.reduceLE, Int.reduceAdd, Int.reduceSub, Int.reduceMul, Int.reduceEq, Int.reduceNe, e3]
  have a4 := lcP_ok (d3 := d3) (n := n) (way := way) (tu := tu) (fd := fd) (x5 := x5) (x6 := x6) (x7 := x7) (by omega) (by omega)
  have a5 := sorted_pairs (o := .own) (fd.map (qP n tu))
  have a6 : gTuple [.lst .own ((sortP (fd.map (qP n tu))).map dPair)] = some (.tup false ((sortP (fd.map (qP n tu))).map dPair)) := by
    simp only [gTuple, gTupS, no_pairs, if_true]
  have hp : (sortP (fd.map (qP n tu))).Perm (fd.map (qP n tu)) := List.mergeSort_perm _ _
  refine ⟨sortP (fd.map (qP n tu)), d3, ?_, ?_, ?_, hd3.mono (by omega)⟩
  · rw [u__law_drawn, drawn_eq, seq_nx a1, seq_nx e2, seq_nx a3]
    have a7 : mCB gSorted (aCons (mLc [9, 10] (iVal (mV 2)) (gTp (gsCons (gNm 9) (gsCons (gNm 10) gsNil))) tYesD (mCB gTuple (aCons (mCB gSorted (aCons (mLst (aCons (mOp2 gMod (.ev (mCB gInt (aCons (mOp2 gAdd (.sl 9) (.sl 8)) aNil))) (.sl 1)) (aCons (mOp2 gMod (.ev (mCB gInt (aCons (mOp2 gAdd (.sl 10) (.sl 8)) aNil))) (.sl 1)) aNil))) aNil)) aNil))) aNil) [some d3, some (.int n), some (.lst .own (fd.map dPair)), some (.lst .own []), some (.int way), x5, x6, x7, some (.int tu), none, none] = some (.ok (.lst .own ((sortP (fd.map (qP n tu))).map dPair)), [some d3, some (.int n), some (.lst .frz (fd.map dPair)), some (.lst .own []), some (.int way), x5, x6, x7, some (.int tu), none, none]) := by
      exact cb1_ok a4 a5
    have a8 : mCB gTuple (aCons (mCB gSorted (aCons (mLc [9, 10] (iVal (mV 2)) (gTp (gsCons (gNm 9) (gsCons (gNm 10) gsNil))) tYesD (mCB gTuple (aCons (mCB gSorted (aCons (mLst (aCons (mOp2 gMod (.ev (mCB gInt (aCons (mOp2 gAdd (.sl 9) (.sl 8)) aNil))) (.sl 1)) (aCons (mOp2 gMod (.ev (mCB gInt (aCons (mOp2 gAdd (.sl 10) (.sl 8)) aNil))) (.sl 1)) aNil))) aNil)) aNil))) aNil)) aNil) [some d3, some (.int n), some (.lst .own (fd.map dPair)), some (.lst .own []), some (.int way), x5, x6, x7, some (.int tu), none, none] = some (.ok (.tup false ((sortP (fd.map (qP n tu))).map dPair)), [some d3, some (.int n), some (.lst .frz (fd.map dPair)), some (.lst .own []), some (.int way), x5, x6, x7, some (.int tu), none, none]) := by
      exact cb1_ok a7 a6
    unfold sRet
    rw [andThen_ok a8]
    exact fin_ret rfl
  · rw [hp.length_eq, List.length_map]
    omega
  · intro p hm
    obtain ⟨q, _, rfl⟩ := List.mem_map.mp (hp.mem_iff.mp hm)
    exact q_in (by omega) q
end Fk07

set_option maxHeartbeats 1000000
namespace Fk07
open PySem PySem.Spec PyProof.Rows L2 Fx
noncomputable def addB : SM := (sAs (mTup (aCons (mOp2 gAdd (.ev (mOp2 gIx (.sl 1) (.sl 2))) (.ev (mC (.int 1)))) (aCons (mOp2 gAdd (.ev (mOp2 gIx (.sl 1) (.sl 3))) (.ev (mC (.int 1)))) aNil))) (gTp (gsCons (gSubL 1 (mV 2)) (gsCons (gSubL 1 (mV 3)) gsNil))))
theorem numbers_eq : b__law_numbers = (sSeq (sAs (mOp2 gMul (.ev (mLst (aCons (mC (.int 1)) aNil))) (.ev (mOp2 gAdd (.ev (mCBV 0 gLen aNil)) (.ev (mC (.int 3)))))) (gNm 1)) (sSeq (sFor (iVal (mV 0)) (gTp (gsCons (gNm 2) (gsCons (gNm 3) gsNil))) addB) (sRet (mMv 1)))) := rfl
theorem ixN_int {n : Nat} {a : Int} (h0 : 0 ≤ a) (h1 : a < n) : ixN n a = some a.toNat := by
  unfold ixN
  rw [if_pos h0, if_pos h1]
theorem ix_ints {ns : List Int} {a : Int} (h0 : 0 ≤ a) (h1 : a < ns.length) : ∃ k, gIx (.lst .own (ns.map D.int)) (.int a) = some (.int k) := by
  have h2 : a.toNat < (ns.map D.int).length := by rw [List.length_map]; omega
  have := gIx_lst (o := .own) h2 (by simp [noOwn])
  rw [show ((a.toNat : Nat) : Int) = a by omega] at this
  exact ⟨_, this.trans (by rw [List.getElem_map])⟩
theorem add_step {z : D} {ns : List Int} {a b : Int} (a0 : 0 ≤ a) (a1 : a < ns.length) (b0 : 0 ≤ b) (b1 : b < ns.length) : ∃ ms : List Int, addB [some z, some (.lst .own ((ns).map D.int)), some (.int a), some (.int b)] = some (.nx, [some z, some (.lst .own ((ms).map D.int)), some (.int a), some (.int b)]) ∧ ms.length = ns.length := by
  obtain ⟨i, e1⟩ := ix_ints a0 a1
  obtain ⟨j, e2⟩ := ix_ints b0 b1
  refine ⟨(ns.set a.toNat (i + 1)).set b.toNat (j + 1), ?_, by rw [List.length_set, List.length_set]⟩
  have x1 : ixN (ns.map D.int).length a = some a.toNat := ixN_int a0 (by rw [List.length_map]; exact a1)
  have x2 : ixN ((ns.map D.int).set a.toNat (.int (i + 1))).length b = some b.toNat := ixN_int b0 (by rw [List.length_set, List.length_map]; exact b1)
  have n1 := noOwns_ints ns
  have n2 := noOwns_ints (ns.set a.toNat (i + 1))
  rw [List.map_set] at n2
  rw [List.map_set, List.map_set]
  have t : mTup (aCons (mOp2 gAdd (.ev (mOp2 gIx (.sl 1) (.sl 2))) (.ev (mC (.int 1)))) (aCons (mOp2 gAdd (.ev (mOp2 gIx (.sl 1) (.sl 3))) (.ev (mC (.int 1)))) aNil)) [some z, some (.lst .own ((ns).map D.int)), some (.int a), some (.int b)] = some (.ok (.tup false [.int (i + 1), .int (j + 1)]), [some z, some (.lst .own ((ns).map D.int)), some (.int a), some (.int b)]) := by
    simp only [finM_ret, finM_nx, finM_err, finI_ret, sRet, sRetN, sEx, andThen, sAs, sSeq, sIf, sNx, sPar, sPar3, sRaise, mIf, bIf, bAnd, bOr, bNot, tVal, tTru, tTru2, asB, truD, mOp2, mOp, mC, mV, mMv, rd, mCBV, mCB, mCall, mCallI, mFz, mNeg, mTup, mLst, aCons, aNil, mAndV, mOrV, mNotV, mSl, oNone, oSome, gSl,
  bnd_ok, bnd_er, got_ok, gNm, gTp, gsCons, gsNil, gSubL, mMut, fApp, fPop, iVal, iRng, rngD1, rngD2, itemsD, mCh, cLast, cLink, tYesD,
  List.map_cons, List.map_nil, List.length_cons, List.length_nil, List.replicate, List.cons_append, List.nil_append, List.append_nil, List.getElem?_cons_zero, List.getElem?_cons_succ, List.set_cons_zero, List.set_cons_succ, Option.map_some, Option.join_some, Option.isSome_some, Option.bind_some,
  noOwn_int, noOwn_bl, noOwn_str, noOwn_non, noOwn_ty, noOwn_lst, noOwn_tup, noOwn_dit, noOwns_nil, noOwns_cons, noOwns_ints, fz_int, fz_bl, fz_str, fz_non, if_true, if_false, Bool.and_self, Bool.and_true, Bool.true_and, Bool.false_and, Bool.and_false, decide_true, decide_false, Bool.false_eq_true,
  gAdd_int, gSub_int, gLt_int, gLe_int, gGt_int, gGe_int, gEqA_int, gNeA_int, gEqA_str, gNeA_str, gLen, gInt, gAbs, gSum, intsOf_map, reduceCtorEq, ne_eq, not_false_eq_true, not_true_eq_false, and_self, and_true, true_and, and_false, false_and, Nat.reduceAdd, Nat.reduceSub, Nat.reduceMul, Nat.reduceLT, Nat.reduceLeDiff, Nat.zero_add, Int.reduceNeg, Int.reduceLT, Int.reduceLE, Int.reduceAdd, Int.reduceSub, Int.reduceMul, Int.reduceEq, Int.reduceNe, e1, e2]
  unfold addB sAs
  rw [andThen_ok t]
  simp only [gTp, gsCons, gsNil, gSubL, mV, List.getElem?_cons_zero, List.getElem?_cons_succ, noOwn_int, if_true, n1, n2, and_self, x1, x2, List.set_cons_zero, List.set_cons_succ, Option.bind_some, Option.map_some]
theorem ones (n : Nat) : (List.replicate n [D.int 1]).flatten = (List.replicate n (1 : Int)).map D.int := by
  induction n with
  | zero => rfl
  | succ n ih => rw [List.replicate_succ, List.flatten_cons, ih, List.replicate_succ]; rfl
theorem numbers_ok {ps : List (Int × Int)} {n : Nat} (hl : (ps.length : Int) = n - 3) (h24 : n ≤ 24) (hp : ∀ p ∈ ps, 0 ≤ p.1 ∧ p.1 < n ∧ 0 ≤ p.2 ∧ p.2 < n) : ∃ ns : List Int, m__law_numbers [.tup false (ps.map dPair)] = some (.ok (.lst .own (ns.map D.int)), none) ∧ ns.length = n := by
  have n0 : noOwn (.tup false (ps.map dPair)) = true := by rw [noOwn_tup]; exact no_pairs ps
  have a1 : sAs (mOp2 gMul (.ev (mLst (aCons (mC (.int 1)) aNil))) (.ev (mOp2 gAdd (.ev (mCBV 0 gLen aNil)) (.ev (mC (.int 3)))))) (gNm 1) [some (.tup false (ps.map dPair)), none, none, none] = some (.nx, [some (.tup false (ps.map dPair)), some (.lst .own ((List.replicate n (1 : Int)).map D.int)), none, none]) := by
    have m : gMul (.lst .own [.int 1]) (.int ((ps.map dPair).length + 3)) = some (.lst .own ((List.replicate n (1 : Int)).map D.int)) := by
      rw [← ones, List.length_map, show ((ps.length : Int) + 3) = (n : Int) by omega]
      simp only [gMul]
      rw [if_pos ⟨by decide, by simp [noOwns, noOwn], by omega, by omega, by decide⟩, show (n : Int).toNat = n by omega]
    have e1 : mLst (aCons (mC (.int 1)) aNil) [some (.tup false (ps.map dPair)), none, none, none] = some (.ok (.lst .own [.int 1]), [some (.tup false (ps.map dPair)), none, none, none]) := rfl
    have e2 : mOp2 gAdd (.ev (mCBV 0 gLen aNil)) (.ev (mC (.int 3))) [some (.tup false (ps.map dPair)), none, none, none] = some (.ok (.int ((ps.map dPair).length + 3)), [some (.tup false (ps.map dPair)), none, none, none]) := rfl
    unfold sAs
    rw [andThen_ok (op2_ee e1 e2 m)]
    rfl
  have a2 : iVal (mV 0) [some (.tup false (ps.map dPair)), some (.lst .own ((List.replicate n (1 : Int)).map D.int)), none, none] = some (.ok (ps.map dPair), [some (.tup false (ps.map dPair)), some (.lst .own ((List.replicate n (1 : Int)).map D.int)), none, none]) := by
    have np := no_pairs ps
    simp only [iVal, mV, List.getElem?_cons_zero, n0, if_true, bnd_ok, itemsD, np, got_ok]
  obtain ⟨S', a3, ns, x2, x3, rfl, hn, _⟩ := forL_map (α := Int × Int) (g := (gTp (gsCons (gNm 2) (gsCons (gNm 3) gsNil)))) (b := addB) (f := dPair) (fun qs S => ∃ ns x2 x3, S = [some (.tup false (ps.map dPair)), some (.lst .own ((ns : List Int).map D.int)), x2, x3] ∧ ns.length = n ∧ ∀ q ∈ qs, q ∈ ps)
    (fun q qs S ⟨ns, x2, x3, hS, hn, hq⟩ => by
      subst hS
      have hb := hp q (hq q List.mem_cons_self)
      obtain ⟨ms, e, hm⟩ := add_step (z := .tup false (ps.map dPair)) (ns := ns) (a := q.1) (b := q.2) hb.1 (by rw [hn]; exact hb.2.1) hb.2.2.1 (by rw [hn]; exact hb.2.2.2)
      exact ⟨_, _, rfl, e, ms, _, _, rfl, by omega, fun r hr => hq r (List.mem_cons_of_mem _ hr)⟩) (xs := ps) (S := [some (.tup false (ps.map dPair)), some (.lst .own ((List.replicate n (1 : Int)).map D.int)), none, none]) ⟨_, _, _, rfl, by simp, fun q h => h⟩
  refine ⟨ns, ?_, hn⟩
  rw [u__law_numbers, numbers_eq, seq_nx a1, seq_nx (for_of a2 a3)]
  have n1 : noOwn (.lst .own (ns.map D.int)) = false := by simp [noOwn_lst]
  have e2 : mMv 1 [some (.tup false (ps.map dPair)), some (.lst .own (ns.map D.int)), x2, x3] = some (.ok (.lst .own (ns.map D.int)), [some (.tup false (ps.map dPair)), none, x2, x3]) := by
    unfold mMv
    simp only [List.getElem?_cons_succ, List.getElem?_cons_zero, n1, Bool.false_eq_true, if_false]
    rfl
  unfold sRet
  rw [andThen_ok e2]
  rfl
theorem strip_ok {ps : List (Int × Int)} {n : Nat} (hl : (ps.length : Int) = n - 3) (h24 : n ≤ 24) (hp : ∀ p ∈ ps, 0 ≤ p.1 ∧ p.1 < n ∧ 0 ≤ p.2 ∧ p.2 < n) : ∃ bs : List Bool, m__law_strip [.tup false (ps.map dPair)] = some (.ok (.str (mkS bs)), none) ∧ bs.length = n := by
  obtain ⟨ns, e1, hn⟩ := numbers_ok hl h24 hp
  have n0 : noOwn (.tup false (ps.map dPair)) = true := by rw [noOwn_tup]; exact no_pairs ps
  refine ⟨ns.map fun i => decide (i.fmod 2 = 1), ?_, by simpa using hn⟩
  have e0 : iVal (mCall m__law_numbers (aCons (mV 0) aNil)) [some (.tup false (ps.map dPair)), none] = some (.ok (ns.map D.int), [some (.tup false (ps.map dPair)), none]) := by
    have np := noOwns_ints ns
    simp only [iVal, mCall, aCons, aNil, mV, List.getElem?_cons_zero, n0, if_true, bnd_ok, e1, itemsD, np, got_ok]
  have hm := mLc_map (vs := [1]) (g := gNm 1) (m := (mIf (tVal (mOp2 gEqA (.ev (mOp2 gMod (.ev (mCBV 1 gInt aNil)) (.ev (mC (.int 2))))) (.ev (mC (.int 1))))) (mC (.str "+")) (mC (.str "-")))) (fun x => match x with | .int i => .str (sg (decide (i.fmod 2 = 1))) | _ => .non) e0 rfl (fun x hx => by
    obtain ⟨i, hi, rfl⟩ := List.mem_map.mp hx
    refine ⟨[some (.tup false (ps.map dPair)), some (.int i)], [some (.tup false (ps.map dPair)), some (.int i)], rfl, ?_, rfl⟩
    have m1 : gMod (.int i) (.int 2) = some (.int (i.fmod 2)) := gMod_int (by decide)
    by_cases h : i.fmod 2 = 1
    · simp only [finM_ret, finM_nx, finM_err, finI_ret, sRet, sRetN, sEx, andThen, sAs, sSeq, sIf, sNx, sPar, sPar3, sRaise, mIf, bIf, bAnd, bOr, bNot, tVal, tTru, tTru2, asB, truD, mOp2, mOp, mC, mV, mMv, rd, mCBV, mCB, mCall, mCallI, mFz, mNeg, mTup, mLst, aCons, aNil, mAndV, mOrV, mNotV, mSl, oNone, oSome, gSl,
  bnd_ok, bnd_er, got_ok, gNm, gTp, gsCons, gsNil, gSubL, mMut, fApp, fPop, iVal, iRng, rngD1, rngD2, itemsD, mCh, cLast, cLink, tYesD,
  List.map_cons, List.map_nil, List.length_cons, List.length_nil, List.replicate, List.cons_append, List.nil_append, List.append_nil, List.getElem?_cons_zero, List.getElem?_cons_succ, List.set_cons_zero, List.set_cons_succ, Option.map_some, Option.join_some, Option.isSome_some, Option.bind_some,
  noOwn_int, noOwn_bl, noOwn_str, noOwn_non, noOwn_ty, noOwn_lst, noOwn_tup, noOwn_dit, noOwns_nil, noOwns_cons, noOwns_ints, fz_int, fz_bl, fz_str, fz_non, if_true, if_false, Bool.and_self, Bool.and_true, Bool.true_and, Bool.false_and, Bool.and_false, decide_true, decide_false, Bool.false_eq_true,
  gAdd_int, gSub_int, gLt_int, gLe_int, gGt_int, gGe_int, gEqA_int, gNeA_int, gEqA_str, gNeA_str, gLen, gInt, gAbs, gSum, intsOf_map, reduceCtorEq, ne_eq, not_false_eq_true, not_true_eq_false, and_self, and_true, true_and, and_false, false_and, Nat.reduceAdd, Nat.reduceSub, Nat.reduceMul, Nat.reduceLT, Nat.reduceLeDiff, Nat.zero_add, Int.reduceNeg, Int.reduceLT, Int.reduceLE, Int.reduceAdd, Int.reduceSub, Int.reduceMul, Int.reduceEq, Int.reduceNe, m1, h]
      rfl
    · have h2 : decide (i.fmod 2 = 1) = false := decide_eq_false h
      simp only [finM_ret, finM_nx, finM_err, finI_ret, sRet, sRetN, sEx, andThen, sAs, sSeq, sIf, sNx, sPar, sPar3, sRaise, mIf, bIf, bAnd, bOr, bNot, tVal, tTru, tTru2, asB, truD, mOp2, mOp, mC, mV, mMv, rd, mCBV, mCB, mCall, mCallI, mFz, mNeg, mTup, mLst, aCons, aNil, mAndV, mOrV, mNotV, mSl, oNone, oSome, gSl,
  bnd_ok, bnd_er, got_ok, gNm, gTp, gsCons, gsNil, gSubL, mMut, fApp, fPop, iVal, iRng, rngD1, rngD2, itemsD, mCh, cLast, cLink, tYesD,
  List.map_cons, List.map_nil, List.length_cons, List.length_nil, List.replicate, List.cons_append, List.nil_append, List.append_nil, List.getElem?_cons_zero, List.getElem?_cons_succ, List.set_cons_zero, List.set_cons_succ, Option.map_some, Option.join_some, Option.isSome_some, Option.bind_some,
  noOwn_int, noOwn_bl, noOwn_str, noOwn_non, noOwn_ty, noOwn_lst, noOwn_tup, noOwn_dit, noOwns_nil, noOwns_cons, noOwns_ints, fz_int, fz_bl, fz_str, fz_non, if_true, if_false, Bool.and_self, Bool.and_true, Bool.true_and, Bool.false_and, Bool.and_false, decide_true, decide_false, Bool.false_eq_true,
  gAdd_int, gSub_int, gLt_int, gLe_int, gGt_int, gGe_int, gEqA_int, gNeA_int, gEqA_str, gNeA_str, gLen, gInt, gAbs, gSum, intsOf_map, reduceCtorEq, ne_eq, not_false_eq_true, not_true_eq_false, and_self, and_true, true_and, and_false, false_and, Nat.reduceAdd, Nat.reduceSub, Nat.reduceMul, Nat.reduceLT, Nat.reduceLeDiff, Nat.zero_add, Int.reduceNeg, Int.reduceLT, Int.reduceLE, Int.reduceAdd, Int.reduceSub, Int.reduceMul, Int.reduceEq, Int.reduceNe, m1, h]
      rfl) (by rw [List.length_map]; omega) rfl
  have hf : (ns.map D.int).map (fun x => match x with | .int i => D.str (sg (decide (i.fmod 2 = 1))) | _ => .non) = (ns.map fun i => decide (i.fmod 2 = 1)).map fun b => D.str (sg b) := by
    rw [List.map_map, List.map_map]
    rfl
  rw [hf] at hm
  have hj := join_ok (o := .own) (ns.map fun i => decide (i.fmod 2 = 1)) (by rw [List.length_map]; omega)
  rw [u__law_strip]
  unfold b__law_strip sRet
  rw [andThen_ok (join_m hm hj)]
  rfl
end Fk07

set_option maxHeartbeats 1000000
namespace Fk07
open PySem PySem.Spec PyProof.Rows L2 Fx
noncomputable def turnL : SM := (sSeq (sAs (mOp2 gIx (.ev (mLst (aCons (mC (.int 3)) (aCons (mC (.int 4)) (aCons (mC (.int 5)) (aCons (mC (.int 6)) (aCons (mC (.int 7)) (aCons (mC (.int 8)) (aCons (mC (.int 10)) (aCons (mC (.int 13)) (aCons (mC (.int 16)) (aCons (mC (.int 24)) aNil)))))))))))) (.ev (mCallI 3 m__law_take (aCons (mC (.int 10)) aNil)))) (gNm 6)) (sSeq (sAs (mIf (tVal (mOp2 gLt (.sl 5) (.ev (mC (.int 3))))) (mCallI 3 m__law_signs (aCons (mV 6) aNil)) (mCall m__law_strip (aCons (mCallI 3 m__law_drawn (aCons (mV 6) aNil)) aNil))) (gNm 7)) (sSeq (sIf (tVal (mOp2 gEqA (.sl 5) (.ev (mC (.int 4))))) (sSeq (sAs (mCallI 3 m__law_take (aCons (mV 6) aNil)) (gNm 8)) (sAs (mOp2 gAdd (.ev (mOp2 gAdd (.ev (mSl (mV 7) oNone (oSome (mV 8)))) (.ev (mIf (tVal (mOp2 gEqA (.ev (mOp2 gIx (.sl 7) (.sl 8))) (.ev (mC (.str "+"))))) (mC (.str "-")) (mC (.str "+")))))) (.ev (mSl (mV 7) (oSome (mOp2 gAdd (.sl 8) (.ev (mC (.int 1))))) oNone))) (gNm 7))) sNx) (sSeq (sIf (bNot (tTru2 (.ev (mCall m__law_right (aCons (mV 7) (aCons (mOp2 gMod (.ev (mCB gInt (aCons (mOp2 gAdd (.sl 4) (.sl 5)) aNil))) (.ev (mC (.int 2)))) aNil)))))) (sRet (mC (.bl false))) sNx) (sSeq (sAs (mCallI 3 m__law_take (aCons (mV 6) aNil)) (gNm 8)) (sIf (bOr (bNot (tTru2 (.ev (mCall m__law_right (aCons (mOp2 gAdd (.ev (mSl (mV 7) (oSome (mV 8)) oNone)) (.ev (mSl (mV 7) oNone (oSome (mV 8))))) (aCons (mV 4) aNil)))))) (bNot (tTru2 (.ev (mCall m__law_right (aCons (mRevS (mV 7)) (aCons (mOp2 gSub (.ev (mC (.int 1))) (.sl 4)) aNil))))))) (sRet (mC (.bl false))) sNx))))))
theorem ix10 {i : Int} (h0 : 0 ≤ i) (h1 : i < 10) : ∃ v : Nat, gIx (.lst .own [.int 3, .int 4, .int 5, .int 6, .int 7, .int 8, .int 10, .int 13, .int 16, .int 24]) (.int i) = some (.int v) ∧ 3 ≤ v ∧ v ≤ 24 := by
  have key : ∀ k : Nat, ∀ h : k < [(3 : Nat), 4, 5, 6, 7, 8, 10, 13, 16, 24].length, gIx (.lst .own ([(3 : Nat), 4, 5, 6, 7, 8, 10, 13, 16, 24].map fun n : Nat => D.int n)) (.int k) = some (.int ([(3 : Nat), 4, 5, 6, 7, 8, 10, 13, 16, 24][k] : Nat)) := by
    intro k h
    rw [gIx_lst (k := k) (by rw [List.length_map]; exact h) (by rw [List.getElem_map]; exact noOwn_int), List.getElem_map]
  have h2 : i.toNat < [(3 : Nat), 4, 5, 6, 7, 8, 10, 13, 16, 24].length := by simp only [List.length_cons, List.length_nil]; omega
  have := key i.toNat h2
  rw [show ((i.toNat : Nat) : Int) = i by omega] at this
  have b : ∀ x ∈ [(3 : Nat), 4, 5, 6, 7, 8, 10, 13, 16, 24], 3 ≤ x ∧ x ≤ 24 := by decide
  exact ⟨_, this, b _ (List.getElem_mem h2)⟩
theorem sl_take (bs : List Bool) (k : Nat) (h : bs.length ≤ 100) : gSl (.str (mkS bs)) none (some (k : Int)) = some (.str (mkS (bs.take (min k bs.length)))) := by
  rw [sl_ok bs _ _ (by omega), HT.sIx_none, HT.sIx_nat, List.drop_zero, Nat.sub_zero]
theorem sl_drop (bs : List Bool) (k : Nat) (h : bs.length ≤ 100) : gSl (.str (mkS bs)) (some (k : Int)) none = some (.str (mkS ((bs.drop (min k bs.length)).take (bs.length - min k bs.length)))) := by
  rw [sl_ok bs _ _ (by omega), HT.sIx_none, HT.sIx_nat]
section
variable {sc d : D} {g : Bool} {k nm t : Int} {v : Nat} {bs : List Bool} {x6 x7 x8 x9 x11 : Option D} {B : Nat}
theorem t1_ok (hB : Bx B d) (hBB : B ≤ 5000) : ∃ (v : Nat) (d' : D), (sAs (mOp2 gIx (.ev (mLst (aCons (mC (.int 3)) (aCons (mC (.int 4)) (aCons (mC (.int 5)) (aCons (mC (.int 6)) (aCons (mC (.int 7)) (aCons (mC (.int 8)) (aCons (mC (.int 10)) (aCons (mC (.int 13)) (aCons (mC (.int 16)) (aCons (mC (.int 24)) aNil)))))))))))) (.ev (mCallI 3 m__law_take (aCons (mC (.int 10)) aNil)))) (gNm 6)) [some sc, some (.bl g), some (.int k), some d, some (.int nm), some (.int t), x6, x7, x8, x9, none, x11] = some (.nx, [some sc, some (.bl g), some (.int k), some d', some (.int nm), some (.int t), some (.int v), x7, x8, x9, none, x11]) ∧ 3 ≤ v ∧ v ≤ 24 ∧ Bx (B + 1) d' := by
  obtain ⟨i, d', e, i0, i1, hd'⟩ := take_ok (many := 10) hB (by omega) (by decide) (by decide)
  obtain ⟨v, ev, v3, v24⟩ := ix10 i0 i1
  refine ⟨v, d', ?_, v3, v24, hd'⟩
  simp only [finM_ret, finM_nx, finM_err, finI_ret, sRet, sRetN, sEx, andThen, sAs, sSeq, sIf, sNx, sPar, sPar3, sRaise, mIf, bIf, bAnd, bOr, bNot, tVal, tTru, tTru2, asB, truD, mOp2, mOp, mC, mV, mMv, rd, mCBV, mCB, mCall, mCallI, mFz, mNeg, mTup, mLst, aCons, aNil, mAndV, mOrV, mNotV, mSl, oNone, oSome, gSl,
  bnd_ok, bnd_er, got_ok, gNm, gTp, gsCons, gsNil, gSubL, mMut, fApp, fPop, iVal, iRng, rngD1, rngD2, itemsD, mCh, cLast, cLink, tYesD,
  List.map_cons, List.map_nil, List.length_cons, List.length_nil, List.replicate, List.cons_append, List.nil_append, List.append_nil, List.getElem?_cons_zero, List.getElem?_cons_succ, List.set_cons_zero, List.set_cons_succ, Option.map_some, Option.join_some, Option.isSome_some, Option.bind_some,
  noOwn_int, noOwn_bl, noOwn_str, noOwn_non, noOwn_ty, noOwn_lst, noOwn_tup, noOwn_dit, noOwns_nil, noOwns_cons, noOwns_ints, fz_int, fz_bl, fz_str, fz_non, if_true, if_false, Bool.and_self, Bool.and_true, Bool.true_and, Bool.false_and, Bool.and_false, decide_true, decide_false, Bool.false_eq_true,
  gAdd_int, gSub_int, gLt_int, gLe_int, gGt_int, gGe_int, gEqA_int, gNeA_int, gEqA_str, gNeA_str, gLen, gInt, gAbs, gSum, intsOf_map, reduceCtorEq, ne_eq, not_false_eq_true, not_true_eq_false, and_self, and_true, true_and, and_false, false_and, Nat.reduceAdd, Nat.reduceSub, Nat.reduceMul, Nat.reduceLT, Nat.reduceLeDiff, Nat.zero_add, Int.reduceNeg, Int.reduceLT, Int.reduceLE, Int.reduceAdd, Int.reduceSub, Int.reduceMul, Int.reduceEq, Int.reduceNe, e, ev]
theorem t2_ok (hB : Bx B d) (hBB : B ≤ 5000) (v3 : 3 ≤ v) (v24 : v ≤ 24) : ∃ (bs : List Bool) (d' : D), (sAs (mIf (tVal (mOp2 gLt (.sl 5) (.ev (mC (.int 3))))) (mCallI 3 m__law_signs (aCons (mV 6) aNil)) (mCall m__law_strip (aCons (mCallI 3 m__law_drawn (aCons (mV 6) aNil)) aNil))) (gNm 7)) [some sc, some (.bl g), some (.int k), some d, some (.int nm), some (.int t), some (.int v), x7, x8, x9, none, x11] = some (.nx, [some sc, some (.bl g), some (.int k), some d', some (.int nm), some (.int t), some (.int v), some (.str (mkS bs)), x8, x9, none, x11]) ∧ bs.length = v ∧ Bx (B + 200) d' := by
  by_cases h : t < 3
  · obtain ⟨bs, d', e, hl, hd⟩ := signs_ok (n := v) hB (by omega) v3 v24
    refine ⟨bs, d', ?_, hl, hd.mono (by omega)⟩
    simp only [finM_ret, finM_nx, finM_err, finI_ret, sRet, sRetN, sEx, andThen, sAs, sSeq, sIf, sNx, sPar, sPar3, sRaise, mIf, bIf, bAnd, bOr, bNot, tVal, tTru, tTru2, asB, truD, mOp2, mOp, mC, mV, mMv, rd, mCBV, mCB, mCall, mCallI, mFz, mNeg, mTup, mLst, aCons, aNil, mAndV, mOrV, mNotV, mSl, oNone, oSome, gSl,
  bnd_ok, bnd_er, got_ok, gNm, gTp, gsCons, gsNil, gSubL, mMut, fApp, fPop, iVal, iRng, rngD1, rngD2, itemsD, mCh, cLast, cLink, tYesD,
  List.map_cons, List.map_nil, List.length_cons, List.length_nil, List.replicate, List.cons_append, List.nil_append, List.append_nil, List.getElem?_cons_zero, List.getElem?_cons_succ, List.set_cons_zero, List.set_cons_succ, Option.map_some, Option.join_some, Option.isSome_some, Option.bind_some,
  noOwn_int, noOwn_bl, noOwn_str, noOwn_non, noOwn_ty, noOwn_lst, noOwn_tup, noOwn_dit, noOwns_nil, noOwns_cons, noOwns_ints, fz_int, fz_bl, fz_str, fz_non, if_true, if_false, Bool.and_self, Bool.and_true, Bool.true_and, Bool.false_and, Bool.and_false, decide_true, decide_false, Bool.false_eq_true,
  gAdd_int, gSub_int, gLt_int, gLe_int, gGt_int, gGe_int, gEqA_int, gNeA_int, gEqA_str, gNeA_str, gLen, gInt, gAbs, gSum, intsOf_map, reduceCtorEq, ne_eq, not_false_eq_true, not_true_eq_false, and_self, and_true, true_and, and_false, false_and, Nat.reduceAdd, Nat.reduceSub, Nat.reduceMul, Nat.reduceLT, Nat.reduceLeDiff, Nat.zero_add, Int.reduceNeg, Int.reduceLT, Int.reduceLE, Int.reduceAdd, Int.reduceSub, Int.reduceMul, Int.reduceEq, Int.reduceNe, h, e]
  · obtain ⟨ps, d', e, hl, hp, hd⟩ := drawn_ok (n := v) hB (by omega) (by omega) (by omega)
    obtain ⟨bs, e2, hl2⟩ := strip_ok hl v24 hp
    refine ⟨bs, d', ?_, hl2, hd⟩
    simp only [finM_ret, finM_nx, finM_err, finI_ret, sRet, sRetN, sEx, andThen, sAs, sSeq, sIf, sNx, sPar, sPar3, sRaise, mIf, bIf, bAnd, bOr, bNot, tVal, tTru, tTru2, asB, truD, mOp2, mOp, mC, mV, mMv, rd, mCBV, mCB, mCall, mCallI, mFz, mNeg, mTup, mLst, aCons, aNil, mAndV, mOrV, mNotV, mSl, oNone, oSome, gSl,
  bnd_ok, bnd_er, got_ok, gNm, gTp, gsCons, gsNil, gSubL, mMut, fApp, fPop, iVal, iRng, rngD1, rngD2, itemsD, mCh, cLast, cLink, tYesD,
  List.map_cons, List.map_nil, List.length_cons, List.length_nil, List.replicate, List.cons_append, List.nil_append, List.append_nil, List.getElem?_cons_zero, List.getElem?_cons_succ, List.set_cons_zero, List.set_cons_succ, Option.map_some, Option.join_some, Option.isSome_some, Option.bind_some,
  noOwn_int, noOwn_bl, noOwn_str, noOwn_non, noOwn_ty, noOwn_lst, noOwn_tup, noOwn_dit, noOwns_nil, noOwns_cons, noOwns_ints, fz_int, fz_bl, fz_str, fz_non, if_true, if_false, Bool.and_self, Bool.and_true, Bool.true_and, Bool.false_and, Bool.and_false, decide_true, decide_false, Bool.false_eq_true,
  gAdd_int, gSub_int, gLt_int, gLe_int, gGt_int, gGe_int, gEqA_int, gNeA_int, gEqA_str, gNeA_str, gLen, gInt, gAbs, gSum, intsOf_map, reduceCtorEq, ne_eq, not_false_eq_true, not_true_eq_false, and_self, and_true, true_and, and_false, false_and, Nat.reduceAdd, Nat.reduceSub, Nat.reduceMul, Nat.reduceLT, Nat.reduceLeDiff, Nat.zero_add, Int.reduceNeg, Int.reduceLT, Int.reduceLE, Int.reduceAdd, Int.reduceSub, Int.reduceMul, Int.reduceEq, Int.reduceNe, h, e, e2]
theorem tk_ok (hB : Bx B d) (hBB : B ≤ 5000) (v3 : 3 ≤ v) (v24 : v ≤ 24) : ∃ (at' : Nat) (d' : D), (sAs (mCallI 3 m__law_take (aCons (mV 6) aNil)) (gNm 8)) [some sc, some (.bl g), some (.int k), some d, some (.int nm), some (.int t), some (.int v), some (.str (mkS bs)), x8, x9, none, x11] = some (.nx, [some sc, some (.bl g), some (.int k), some d', some (.int nm), some (.int t), some (.int v), some (.str (mkS bs)), some (.int at'), x9, none, x11]) ∧ at' < v ∧ Bx (B + 1) d' := by
  obtain ⟨i, d', e, i0, i1, hd'⟩ := take_ok (many := v) hB (by omega) (by omega) (by omega)
  refine ⟨i.toNat, d', ?_, by omega, hd'⟩
  rw [show ((i.toNat : Nat) : Int) = i by omega]
  simp only [finM_ret, finM_nx, finM_err, finI_ret, sRet, sRetN, sEx, andThen, sAs, sSeq, sIf, sNx, sPar, sPar3, sRaise, mIf, bIf, bAnd, bOr, bNot, tVal, tTru, tTru2, asB, truD, mOp2, mOp, mC, mV, mMv, rd, mCBV, mCB, mCall, mCallI, mFz, mNeg, mTup, mLst, aCons, aNil, mAndV, mOrV, mNotV, mSl, oNone, oSome, gSl,
  bnd_ok, bnd_er, got_ok, gNm, gTp, gsCons, gsNil, gSubL, mMut, fApp, fPop, iVal, iRng, rngD1, rngD2, itemsD, mCh, cLast, cLink, tYesD,
  List.map_cons, List.map_nil, List.length_cons, List.length_nil, List.replicate, List.cons_append, List.nil_append, List.append_nil, List.getElem?_cons_zero, List.getElem?_cons_succ, List.set_cons_zero, List.set_cons_succ, Option.map_some, Option.join_some, Option.isSome_some, Option.bind_some,
  noOwn_int, noOwn_bl, noOwn_str, noOwn_non, noOwn_ty, noOwn_lst, noOwn_tup, noOwn_dit, noOwns_nil, noOwns_cons, noOwns_ints, fz_int, fz_bl, fz_str, fz_non, if_true, if_false, Bool.and_self, Bool.and_true, Bool.true_and, Bool.false_and, Bool.and_false, decide_true, decide_false, Bool.false_eq_true,
  gAdd_int, gSub_int, gLt_int, gLe_int, gGt_int, gGe_int, gEqA_int, gNeA_int, gEqA_str, gNeA_str, gLen, gInt, gAbs, gSum, intsOf_map, reduceCtorEq, ne_eq, not_false_eq_true, not_true_eq_false, and_self, and_true, true_and, and_false, false_and, Nat.reduceAdd, Nat.reduceSub, Nat.reduceMul, Nat.reduceLT, Nat.reduceLeDiff, Nat.zero_add, Int.reduceNeg, Int.reduceLT, Int.reduceLE, Int.reduceAdd, Int.reduceSub, Int.reduceMul, Int.reduceEq, Int.reduceNe, e]
theorem sw_ok {at' : Nat} (hl : bs.length = v) (v24 : v ≤ 24) (ha : at' < v) : ∃ cs : List Bool, (mOp2 gAdd (.ev (mOp2 gAdd (.ev (mSl (mV 7) oNone (oSome (mV 8)))) (.ev (mIf (tVal (mOp2 gEqA (.ev (mOp2 gIx (.sl 7) (.sl 8))) (.ev (mC (.str "+"))))) (mC (.str "-")) (mC (.str "+")))))) (.ev (mSl (mV 7) (oSome (mOp2 gAdd (.sl 8) (.ev (mC (.int 1))))) oNone))) [some sc, some (.bl g), some (.int k), some d, some (.int nm), some (.int t), some (.int v), some (.str (mkS bs)), some (.int at'), x9, none, x11] = some (.ok (.str (mkS cs)), [some sc, some (.bl g), some (.int k), some d, some (.int nm), some (.int t), some (.int v), some (.str (mkS bs)), some (.int at'), x9, none, x11]) ∧ cs.length = v := by
  have hb : at' < bs.length := by omega
  have s1 := slice_m (i := 7) (S := [some sc, some (.bl g), some (.int k), some d, some (.int nm), some (.int t), some (.int v), some (.str (mkS bs)), some (.int at'), x9, none, x11]) (l := oNone) (u := oSome (mV 8)) rfl rfl rfl (sl_take bs at' (by omega))
  have s2 := sl_drop bs (at' + 1) (by omega)
  rw [show ((at' + 1 : Nat) : Int) = (at' : Int) + 1 by omega] at s2
  have s3 := slice_m (i := 7) (S := [some sc, some (.bl g), some (.int k), some d, some (.int nm), some (.int t), some (.int v), some (.str (mkS bs)), some (.int at'), x9, none, x11]) (l := oSome (mOp2 gAdd (.sl 8) (.ev (mC (.int 1))))) (u := oNone) rfl rfl rfl s2
  have ix := ix_mkS bs at' hb (by omega)
  have q : gEqA (.str (sg bs[at'])) (.str "+") = some (.bl bs[at']) := by rw [gEqA_str, sg_plus]
  have f : (mIf (tVal (mOp2 gEqA (.ev (mOp2 gIx (.sl 7) (.sl 8))) (.ev (mC (.str "+"))))) (mC (.str "-")) (mC (.str "+"))) [some sc, some (.bl g), some (.int k), some d, some (.int nm), some (.int t), some (.int v), some (.str (mkS bs)), some (.int at'), x9, none, x11] = some (.ok (.str (mkS [!bs[at']])), [some sc, some (.bl g), some (.int k), some d, some (.int nm), some (.int t), some (.int v), some (.str (mkS bs)), some (.int at'), x9, none, x11]) := by
    have ht := tval_ok (op2_ee (S := [some sc, some (.bl g), some (.int k), some d, some (.int nm), some (.int t), some (.int v), some (.str (mkS bs)), some (.int at'), x9, none, x11]) (op2_ss (i := 7) (j := 8) rfl rfl ix) (b := mC (.str "+")) rfl q)
    have p1 : ("+" : Str) = mkS [true] := plus_eq
    have p2 : ("-" : Str) = mkS [false] := minus_eq
    cases hx : bs[at'] with
    | true =>
      rw [hx] at ht
      simp only [mIf, ht, bnd_ok, if_true]
      simp only [mC, p2, Bool.not_true]
    | false =>
      rw [hx] at ht
      simp only [mIf, ht, bnd_ok, Bool.false_eq_true, if_false]
      simp only [mC, p1, Bool.not_false]
  refine ⟨bs.take (min at' bs.length) ++ [!bs[at']] ++ (bs.drop (min (at' + 1) bs.length)).take (bs.length - min (at' + 1) bs.length), ?_, ?_⟩
  · have l1 : (bs.take (min at' bs.length)).length ≤ 100 := by rw [List.length_take]; omega
    exact op2_ee (op2_ee s1 f (add_ok _ _ (by omega) (by simp))) s3 (add_ok _ _ (by rw [List.length_append, List.length_take]; simp only [List.length_cons, List.length_nil]; omega) (by rw [List.length_take, List.length_drop]; omega))
  · rw [List.length_append, List.length_append, List.length_take, List.length_take, List.length_drop]
    simp only [List.length_cons, List.length_nil]
    omega
theorem t3_ok (hB : Bx B d) (hBB : B ≤ 5000) (v3 : 3 ≤ v) (v24 : v ≤ 24) (hl : bs.length = v) : ∃ (cs : List Bool) (d' : D) (y8 : Option D), (sIf (tVal (mOp2 gEqA (.sl 5) (.ev (mC (.int 4))))) (sSeq (sAs (mCallI 3 m__law_take (aCons (mV 6) aNil)) (gNm 8)) (sAs (mOp2 gAdd (.ev (mOp2 gAdd (.ev (mSl (mV 7) oNone (oSome (mV 8)))) (.ev (mIf (tVal (mOp2 gEqA (.ev (mOp2 gIx (.sl 7) (.sl 8))) (.ev (mC (.str "+"))))) (mC (.str "-")) (mC (.str "+")))))) (.ev (mSl (mV 7) (oSome (mOp2 gAdd (.sl 8) (.ev (mC (.int 1))))) oNone))) (gNm 7))) sNx) [some sc, some (.bl g), some (.int k), some d, some (.int nm), some (.int t), some (.int v), some (.str (mkS bs)), x8, x9, none, x11] = some (.nx, [some sc, some (.bl g), some (.int k), some d', some (.int nm), some (.int t), some (.int v), some (.str (mkS cs)), y8, x9, none, x11]) ∧ cs.length = v ∧ Bx (B + 1) d' := by
  by_cases h : t = 4
  · have ht : tVal (mOp2 gEqA (.sl 5) (.ev (mC (.int 4)))) [some sc, some (.bl g), some (.int k), some d, some (.int nm), some (.int t), some (.int v), some (.str (mkS bs)), x8, x9, none, x11] = some (.ok true, [some sc, some (.bl g), some (.int k), some d, some (.int nm), some (.int t), some (.int v), some (.str (mkS bs)), x8, x9, none, x11]) := by
      simp only [finM_ret, finM_nx, finM_err, finI_ret, sRet, sRetN, sEx, andThen, sAs, sSeq, sIf, sNx, sPar, sPar3, sRaise, mIf, bIf, bAnd, bOr, bNot, tVal, tTru, tTru2, asB, truD, mOp2, mOp, mC, mV, mMv, rd, mCBV, mCB, mCall, mCallI, mFz, mNeg, mTup, mLst, aCons, aNil, mAndV, mOrV, mNotV, mSl, oNone, oSome, gSl,
  bnd_ok, bnd_er, got_ok, gNm, gTp, gsCons, gsNil, gSubL, mMut, fApp, fPop, iVal, iRng, rngD1, rngD2, itemsD, mCh, cLast, cLink, tYesD,
  List.map_cons, List.map_nil, List.length_cons, List.length_nil, List.replicate, List.cons_append, List.nil_append, List.append_nil, List.getElem?_cons_zero, List.getElem?_cons_succ, List.set_cons_zero, List.set_cons_succ, Option.map_some, Option.join_some, Option.isSome_some, Option.bind_some,
  noOwn_int, noOwn_bl, noOwn_str, noOwn_non, noOwn_ty, noOwn_lst, noOwn_tup, noOwn_dit, noOwns_nil, noOwns_cons, noOwns_ints, fz_int, fz_bl, fz_str, fz_non, if_true, if_false, Bool.and_self, Bool.and_true, Bool.true_and, Bool.false_and, Bool.and_false, decide_true, decide_false, Bool.false_eq_true,
  gAdd_int, gSub_int, gLt_int, gLe_int, gGt_int, gGe_int, gEqA_int, gNeA_int, gEqA_str, gNeA_str, gLen, gInt, gAbs, gSum, intsOf_map, reduceCtorEq, ne_eq, not_false_eq_true, not_true_eq_false, and_self, and_true, true_and, and_false, false_and, Nat.reduceAdd, Nat.reduceSub, Nat.reduceMul, Nat.reduceLT, Nat.reduceLeDiff, Nat.zero_add, Int.reduceNeg, Int.reduceLT, Int.reduceLE, Int.reduceAdd, Int.reduceSub, Int.reduceMul, Int.reduceEq, Int.reduceNe, h]
    obtain ⟨a, d', e1, ha, hd⟩ := tk_ok (sc := sc) (g := g) (k := k) (nm := nm) (t := t) (bs := bs) (x8 := x8) (x9 := x9) (x11 := x11) hB hBB v3 v24
    obtain ⟨cs, e2, hc⟩ := sw_ok (sc := sc) (d := d') (g := g) (k := k) (nm := nm) (t := t) (x9 := x9) (x11 := x11) hl v24 ha
    refine ⟨cs, d', some (.int a), ?_, hc, hd⟩
    rw [if_tt ht, seq_nx e1]
    unfold sAs
    rw [andThen_ok e2]
    rfl
  · have ht : tVal (mOp2 gEqA (.sl 5) (.ev (mC (.int 4)))) [some sc, some (.bl g), some (.int k), some d, some (.int nm), some (.int t), some (.int v), some (.str (mkS bs)), x8, x9, none, x11] = some (.ok false, [some sc, some (.bl g), some (.int k), some d, some (.int nm), some (.int t), some (.int v), some (.str (mkS bs)), x8, x9, none, x11]) := by
      simp only [finM_ret, finM_nx, finM_err, finI_ret, sRet, sRetN, sEx, andThen, sAs, sSeq, sIf, sNx, sPar, sPar3, sRaise, mIf, bIf, bAnd, bOr, bNot, tVal, tTru, tTru2, asB, truD, mOp2, mOp, mC, mV, mMv, rd, mCBV, mCB, mCall, mCallI, mFz, mNeg, mTup, mLst, aCons, aNil, mAndV, mOrV, mNotV, mSl, oNone, oSome, gSl,
  bnd_ok, bnd_er, got_ok, gNm, gTp, gsCons, gsNil, gSubL, mMut, fApp, fPop, iVal, iRng, rngD1, rngD2, itemsD, mCh, cLast, cLink, tYesD,
  List.map_cons, List.map_nil, List.length_cons, List.length_nil, List.replicate, List.cons_append, List.nil_append, List.append_nil, List.getElem?_cons_zero, List.getElem?_cons_succ, List.set_cons_zero, List.set_cons_succ, Option.map_some, Option.join_some, Option.isSome_some, Option.bind_some,
  noOwn_int, noOwn_bl, noOwn_str, noOwn_non, noOwn_ty, noOwn_lst, noOwn_tup, noOwn_dit, noOwns_nil, noOwns_cons, noOwns_ints, fz_int, fz_bl, fz_str, fz_non, if_true, if_false, Bool.and_self, Bool.and_true, Bool.true_and, Bool.false_and, Bool.and_false, decide_true, decide_false, Bool.false_eq_true,
  gAdd_int, gSub_int, gLt_int, gLe_int, gGt_int, gGe_int, gEqA_int, gNeA_int, gEqA_str, gNeA_str, gLen, gInt, gAbs, gSum, intsOf_map, reduceCtorEq, ne_eq, not_false_eq_true, not_true_eq_false, and_self, and_true, true_and, and_false, false_and, Nat.reduceAdd, Nat.reduceSub, Nat.reduceMul, Nat.reduceLT, Nat.reduceLeDiff, Nat.zero_add, Int.reduceNeg, Int.reduceLT, Int.reduceLE, Int.reduceAdd, Int.reduceSub, Int.reduceMul, Int.reduceEq, Int.reduceNe, h]
    refine ⟨bs, d, x8, ?_, hl, hB.mono (by omega)⟩
    rw [if_ff ht]
    rfl
end
end Fk07

set_option maxHeartbeats 1000000
namespace Fk07
open PySem PySem.Spec PyProof.Rows L2 Fx
theorem ttru_ok {m : EM} {S S1 : Sl} {b : Bool} (h : m S = some (.ok (.bl b), S1)) : tTru2 (.ev m) S = some (.ok b, S1) := by
  simp only [tTru2, tTru, h, bnd_ok, truD, got_ok]
theorem not_ok {t : BM} {S S1 : Sl} {b : Bool} (h : t S = some (.ok b, S1)) : bNot t S = some (.ok (!b), S1) := by
  simp only [bNot, h, bnd_ok]
theorem or_ff {t u : BM} {S S1 S2 : Sl} {b : Bool} (h : t S = some (.ok false, S1)) (h2 : u S1 = some (.ok b, S2)) : bOr t u S = some (.ok b, S2) := by
  simp only [bOr, h, bnd_ok, Bool.false_eq_true, if_false, h2]
theorem call2_ok {f : FM} {a b : EM} {S S1 S2 : Sl} {d e z : D} (ha : a S = some (.ok d, S1)) (hb : b S1 = some (.ok e, S2)) (hf : f [d, e] = some (.ok z, none)) : mCall f (aCons a (aCons b aNil)) S = some (.ok z, S2) := by
  simp only [mCall, aCons, aNil, ha, hb, bnd_ok, hf]
theorem revS_m {i : Nat} {S : Sl} {bs : List Bool} (h : S[i]? = some (some (.str (mkS bs)))) (hl : bs.length ≤ 100) : mRevS (mV i) S = some (.ok (.str (mkS bs.reverse)), S) := by
  have h2 : (mkS bs).length ≤ 1000000 := by rw [mkS_len]; omega
  simp only [mRevS, mV_no h noOwn_str, bnd_ok, h2, if_true, rev_mkS]
section
variable {sc d : D} {g : Bool} {k nm t : Int} {v : Nat} {bs : List Bool} {x6 x7 x8 x9 x11 : Option D} {B : Nat}
theorem t4_ok (v3 : 3 ≤ v) (v24 : v ≤ 24) (hl : bs.length = v) : (sIf (bNot (tTru2 (.ev (mCall m__law_right (aCons (mV 7) (aCons (mOp2 gMod (.ev (mCB gInt (aCons (mOp2 gAdd (.sl 4) (.sl 5)) aNil))) (.ev (mC (.int 2)))) aNil)))))) (sRet (mC (.bl false))) sNx) [some sc, some (.bl g), some (.int k), some d, some (.int nm), some (.int t), some (.int v), some (.str (mkS bs)), x8, x9, none, x11] = some (.nx, [some sc, some (.bl g), some (.int k), some d, some (.int nm), some (.int t), some (.int v), some (.str (mkS bs)), x8, x9, none, x11]) := by
  have e1 : mOp2 gMod (.ev (mCB gInt (aCons (mOp2 gAdd (.sl 4) (.sl 5)) aNil))) (.ev (mC (.int 2))) [some sc, some (.bl g), some (.int k), some d, some (.int nm), some (.int t), some (.int v), some (.str (mkS bs)), x8, x9, none, x11] = some (.ok (.int ((nm + t).fmod 2)), [some sc, some (.bl g), some (.int k), some d, some (.int nm), some (.int t), some (.int v), some (.str (mkS bs)), x8, x9, none, x11]) := by
    have m : gMod (.int (nm + t)) (.int 2) = some (.int ((nm + t).fmod 2)) := gMod_int (by decide)
    simp only [finM_ret, finM_nx, finM_err, finI_ret, sRet, sRetN, sEx, andThen, sAs, sSeq, sIf, sNx, sPar, sPar3, sRaise, mIf, bIf, bAnd, bOr, bNot, tVal, tTru, tTru2, asB, truD, mOp2, mOp, mC, mV, mMv, rd, mCBV, mCB, mCall, mCallI, mFz, mNeg, mTup, mLst, aCons, aNil, mAndV, mOrV, mNotV, mSl, oNone, oSome, gSl,
  bnd_ok, bnd_er, got_ok, gNm, gTp, gsCons, gsNil, gSubL, mMut, fApp, fPop, iVal, iRng, rngD1, rngD2, itemsD, mCh, cLast, cLink, tYesD,
  List.map_cons, List.map_nil, List.length_cons, List.length_nil, List.replicate, List.cons_append, List.nil_append, List.append_nil, List.getElem?_cons_zero, List.getElem?_cons_succ, List.set_cons_zero, List.set_cons_succ, Option.map_some, Option.join_some, Option.isSome_some, Option.bind_some,
  noOwn_int, noOwn_bl, noOwn_str, noOwn_non, noOwn_ty, noOwn_lst, noOwn_tup, noOwn_dit, noOwns_nil, noOwns_cons, noOwns_ints, fz_int, fz_bl, fz_str, fz_non, if_true, if_false, Bool.and_self, Bool.and_true, Bool.true_and, Bool.false_and, Bool.and_false, decide_true, decide_false, Bool.false_eq_true,
  gAdd_int, gSub_int, gLt_int, gLe_int, gGt_int, gGe_int, gEqA_int, gNeA_int, gEqA_str, gNeA_str, gLen, gInt, gAbs, gSum, intsOf_map, reduceCtorEq, ne_eq, not_false_eq_true, not_true_eq_false, and_self, and_true, true_and, and_false, false_and, Nat.reduceAdd, Nat.reduceSub, Nat.reduceMul, Nat.reduceLT, Nat.reduceLeDiff, Nat.zero_add, Int.reduceNeg, Int.reduceLT, Int.reduceLE, Int.reduceAdd, Int.reduceSub, Int.reduceMul, Int.reduceEq, Int.reduceNe, m]
  have e2 := call2_ok (a := mV 7) (S := [some sc, some (.bl g), some (.int k), some d, some (.int nm), some (.int t), some (.int v), some (.str (mkS bs)), x8, x9, none, x11]) (mV_no rfl noOwn_str) e1 (right_ok bs _ (by omega) (by omega))
  rw [if_ff (not_ok (ttru_ok e2))]
  rfl
theorem t6_ok {at' : Nat} (v3 : 3 ≤ v) (v24 : v ≤ 24) (hl : bs.length = v) (ha : at' < v) : (sIf (bOr (bNot (tTru2 (.ev (mCall m__law_right (aCons (mOp2 gAdd (.ev (mSl (mV 7) (oSome (mV 8)) oNone)) (.ev (mSl (mV 7) oNone (oSome (mV 8))))) (aCons (mV 4) aNil)))))) (bNot (tTru2 (.ev (mCall m__law_right (aCons (mRevS (mV 7)) (aCons (mOp2 gSub (.ev (mC (.int 1))) (.sl 4)) aNil))))))) (sRet (mC (.bl false))) sNx) [some sc, some (.bl g), some (.int k), some d, some (.int nm), some (.int t), some (.int v), some (.str (mkS bs)), some (.int at'), x9, none, x11] = some (.nx, [some sc, some (.bl g), some (.int k), some d, some (.int nm), some (.int t), some (.int v), some (.str (mkS bs)), some (.int at'), x9, none, x11]) := by
  have s1 := slice_m (i := 7) (S := [some sc, some (.bl g), some (.int k), some d, some (.int nm), some (.int t), some (.int v), some (.str (mkS bs)), some (.int at'), x9, none, x11]) (l := oSome (mV 8)) (u := oNone) rfl rfl rfl (sl_drop bs at' (by omega))
  have s2 := slice_m (i := 7) (S := [some sc, some (.bl g), some (.int k), some d, some (.int nm), some (.int t), some (.int v), some (.str (mkS bs)), some (.int at'), x9, none, x11]) (l := oNone) (u := oSome (mV 8)) rfl rfl rfl (sl_take bs at' (by omega))
  have l1 : ((bs.drop (min at' bs.length)).take (bs.length - min at' bs.length)).length = v - at' := by rw [List.length_take, List.length_drop]; omega
  have l2 : (bs.take (min at' bs.length)).length = at' := by rw [List.length_take]; omega
  have s3 := op2_ee s1 s2 (add_ok _ _ (by omega) (by omega))
  have e2 := call2_ok (b := mV 4) s3 (mV_no rfl noOwn_int) (right_ok _ nm (by rw [List.length_append]; omega) (by rw [List.length_append]; omega))
  have e3 : mOp2 gSub (.ev (mC (.int 1))) (.sl 4) [some sc, some (.bl g), some (.int k), some d, some (.int nm), some (.int t), some (.int v), some (.str (mkS bs)), some (.int at'), x9, none, x11] = some (.ok (.int (1 - nm)), [some sc, some (.bl g), some (.int k), some d, some (.int nm), some (.int t), some (.int v), some (.str (mkS bs)), some (.int at'), x9, none, x11]) := rfl
  have e4 := call2_ok (revS_m (i := 7) (S := [some sc, some (.bl g), some (.int k), some d, some (.int nm), some (.int t), some (.int v), some (.str (mkS bs)), some (.int at'), x9, none, x11]) rfl (show bs.length ≤ 100 by omega)) e3 (right_ok bs.reverse (1 - nm) (by rw [List.length_reverse]; omega) (by rw [List.length_reverse]; omega))
  rw [if_ff (or_ff (not_ok (ttru_ok e2)) (not_ok (ttru_ok e4)))]
  rfl
theorem turnL_ok (hB : Bx B d) (hBB : B ≤ 4000) : ∃ (d' : D) (v : Nat) (bs : List Bool) (y8 : Option D), turnL [some sc, some (.bl g), some (.int k), some d, some (.int nm), some (.int t), x6, x7, x8, x9, none, x11] = some (.nx, [some sc, some (.bl g), some (.int k), some d', some (.int nm), some (.int t), some (.int v), some (.str (mkS bs)), y8, x9, none, x11]) ∧ 3 ≤ v ∧ v ≤ 24 ∧ bs.length = v ∧ Bx (B + 203) d' := by
  obtain ⟨v, d1, e1, v3, v24, h1⟩ := t1_ok (sc := sc) (g := g) (k := k) (nm := nm) (t := t) (x6 := x6) (x7 := x7) (x8 := x8) (x9 := x9) (x11 := x11) hB (by omega)
  obtain ⟨b2, d2, e2, l2, h2⟩ := t2_ok (sc := sc) (g := g) (k := k) (nm := nm) (t := t) (x7 := x7) (x8 := x8) (x9 := x9) (x11 := x11) h1 (by omega) v3 v24
  obtain ⟨b3, d3, y3, e3, l3, h3⟩ := t3_ok (sc := sc) (g := g) (k := k) (nm := nm) (t := t) (x8 := x8) (x9 := x9) (x11 := x11) h2 (by omega) v3 v24 l2
  have e4 := t4_ok (sc := sc) (d := d3) (g := g) (k := k) (nm := nm) (t := t) (x8 := y3) (x9 := x9) (x11 := x11) v3 v24 l3
  obtain ⟨a, d5, e5, l5, h5⟩ := tk_ok (sc := sc) (g := g) (k := k) (nm := nm) (t := t) (bs := b3) (x8 := y3) (x9 := x9) (x11 := x11) h3 (by omega) v3 v24
  have e6 := t6_ok (sc := sc) (d := d5) (g := g) (k := k) (nm := nm) (t := t) (x9 := x9) (x11 := x11) v3 v24 l3 l5
  refine ⟨d5, v, b3, some (.int a), ?_, v3, v24, l3, h5.mono (by omega)⟩
  unfold turnL
  rw [seq_nx e1, seq_nx e2, seq_nx e3, seq_nx e4, seq_nx e5, e6]
end
end Fk07

set_option maxHeartbeats 1000000
namespace Fk07
open PySem PySem.Spec PyProof.Rows L2 Fx
noncomputable def valB : SM := (sIf (bNot (tTru2 (.ev (mCall m__law_like (aCons (mLst (aCons (mCall m__law_call (aCons (mC (.int 0)) (aCons (mV 11) (aCons (mV 4) aNil)))) (aCons (mCall m__law_call (aCons (mC (.int 1)) (aCons (mV 11) (aCons (mOp2 gSub (.ev (mC (.int 1))) (.sl 4)) aNil)))) aNil))) (aCons (mLst (aCons (mLst (aCons (mC (.str "strip")) (aCons (mV 11) aNil))) (aCons (mLst (aCons (mC (.str "strip")) (aCons (mV 11) aNil))) aNil))) aNil)))))) (sRet (mC (.bl false))) sNx)
structure Bad (d : D) : Prop where
  no : noOwn d = true
  st : m_is_strip [d] = some (.ok (.bl false), none)
  lk : lkB d d = true
  sz : szD d ≤ 300
theorem bad_str {z : Str} (hz : z.length ≤ 100) (h : (decide (3 ≤ z.length) && (decide (z.length ≤ 24) && z.cps.toList.all okc)) = false) : Bad (.str z) :=
  ⟨noOwn_str, by rw [is_strip_str z (by omega), h], by simp [lkB], by simp [szD]⟩
theorem lks_sg (bs : List Bool) : lksB (bs.map fun b => D.str (sg b)) (bs.map fun b => D.str (sg b)) = true := by
  induction bs with
  | nil => simp [lksB]
  | cons b bs ih => simp [lksB, lkB, ih]
theorem szs_sg (bs : List Bool) : szs (bs.map fun b => D.str (sg b)) = bs.length := by
  induction bs with
  | nil => simp [szs]
  | cons b bs ih => simp only [List.map_cons, szs, szD, ih, List.length_cons]; omega
theorem bads (bs : List Bool) (hl : bs.length ≤ 24) : ∀ d ∈ ([.non, .str "", .str "++", .str (mkS (List.replicate 25 true)), .str "+ +", .lst .frz (bs.map fun b => D.str (sg b)), .tup false (bs.map fun b => D.str (sg b)), .int 5, .bl true, .dit .frz [], .str (mkS bs ++ "\n"), .str "+-*"] : List D), Bad d := by
  intro d hd
  simp only [List.mem_cons, List.not_mem_nil, or_false] at hd
  rcases hd with rfl | rfl | rfl | rfl | rfl | rfl | rfl | rfl | rfl | rfl | rfl | rfl
  · exact ⟨noOwn_non, is_strip_not _ "NoneType" rfl (by decide) (by decide) noOwn_non, rfl, by decide⟩
  · exact bad_str (by decide +kernel) (by decide +kernel)
  · exact bad_str (by decide +kernel) (by decide +kernel)
  · exact bad_str (by decide +kernel) (by decide +kernel)
  · exact bad_str (by decide +kernel) (by decide +kernel)
  · have n : noOwn (.lst .frz (bs.map fun b => D.str (sg b))) = true := by rw [noOwn_lst, noOwns_sg]; rfl
    exact ⟨n, is_strip_not _ "list" rfl (by decide) (by decide) n, by simp only [lkB, lks_sg], by simp only [szD, szs_sg]; omega⟩
  · have n : noOwn (.tup false (bs.map fun b => D.str (sg b))) = true := by rw [noOwn_tup, noOwns_sg]
    exact ⟨n, is_strip_not _ "tuple" rfl (by decide) (by decide) n, by simp only [lkB, lks_sg], by simp only [szD, szs_sg]; omega⟩
  · exact ⟨noOwn_int, is_strip_not _ "int" rfl (by decide) (by decide) noOwn_int, by simp [lkB], by decide⟩
  · exact ⟨noOwn_bl, is_strip_not _ "bool" rfl (by decide) (by decide) noOwn_bl, by simp [lkB], by decide⟩
  · have n : noOwn (.dit .frz []) = true := by simp [noOwn_dit, noOwns]
    exact ⟨n, is_strip_not _ "dict" rfl (by decide) (by decide) n, by simp [lkB], by decide⟩
  · have e : (mkS bs ++ ("\n" : Str)).cps.toList = bs.map cd ++ [10] := by
      have : ("\n" : Str) = ⟨#[10]⟩ := by decide +kernel
      rw [this]
      show ((bs.map cd).toArray ++ #[10]).toList = _
      simp
    have l : (mkS bs ++ ("\n" : Str)).length = bs.length + 1 := by
      show (mkS bs ++ ("\n" : Str)).cps.size = _
      rw [← Array.length_toList, e]
      simp
    refine bad_str (by omega) ?_
    rw [e, List.all_append]
    simp [okc]
  · exact bad_str (by decide +kernel) (by decide +kernel)
section
variable {sc d : D} {g : Bool} {k nm : Int} {bs : List Bool} {x5 x6 x8 x9 x11 : Option D}
theorem val_ok {e : D} (h : Bad e) : valB [some sc, some (.bl g), some (.int k), some d, some (.int nm), x5, x6, some (.str (mkS bs)), x8, x9, none, some e] = some (.nx, [some sc, some (.bl g), some (.int k), some d, some (.int nm), x5, x6, some (.str (mkS bs)), x8, x9, none, some e]) := by
  have c0 := fun w n => call_bad w e n h.no h.st
  have no := h.no
  have lk : m__law_like [.lst .own [.lst .own [.str "strip", e], .lst .own [.str "strip", e]], .lst .own [.lst .own [.str "strip", e], .lst .own [.str "strip", e]]] = some (.ok (.bl true), none) := by
    have fe := fz_same e no
    have l1 := h.lk
    have l2 := h.sz
    apply like_ok
    · simp only [fz_lst, fzs_cons, fzs_nil, fe, fz_str, lkB, lksB, l1, decide_true, Bool.and_self]
    · simp only [fz_lst, fzs_cons, fzs_nil, fe, fz_str, szD, szs]
      omega
  have t : bNot (tTru2 (.ev (mCall m__law_like (aCons (mLst (aCons (mCall m__law_call (aCons (mC (.int 0)) (aCons (mV 11) (aCons (mV 4) aNil)))) (aCons (mCall m__law_call (aCons (mC (.int 1)) (aCons (mV 11) (aCons (mOp2 gSub (.ev (mC (.int 1))) (.sl 4)) aNil)))) aNil))) (aCons (mLst (aCons (mLst (aCons (mC (.str "strip")) (aCons (mV 11) aNil))) (aCons (mLst (aCons (mC (.str "strip")) (aCons (mV 11) aNil))) aNil))) aNil))))) [some sc, some (.bl g), some (.int k), some d, some (.int nm), x5, x6, some (.str (mkS bs)), x8, x9, none, some e] = some (.ok false, [some sc, some (.bl g), some (.int k), some d, some (.int nm), x5, x6, some (.str (mkS bs)), x8, x9, none, some e]) := by
    simp only [finM_ret, finM_nx, finM_err, finI_ret, sRet, sRetN, sEx, andThen, sAs, sSeq, sIf, sNx, sPar, sPar3, sRaise, mIf, bIf, bAnd, bOr, bNot, tVal, tTru, tTru2, asB, truD, mOp2, mOp, mC, mV, mMv, rd, mCBV, mCB, mCall, mCallI, mFz, mNeg, mTup, mLst, aCons, aNil, mAndV, mOrV, mNotV, mSl, oNone, oSome, gSl,
  bnd_ok, bnd_er, got_ok, gNm, gTp, gsCons, gsNil, gSubL, mMut, fApp, fPop, iVal, iRng, rngD1, rngD2, itemsD, mCh, cLast, cLink, tYesD,
  List.map_cons, List.map_nil, List.length_cons, List.length_nil, List.replicate, List.cons_append, List.nil_append, List.append_nil, List.getElem?_cons_zero, List.getElem?_cons_succ, List.set_cons_zero, List.set_cons_succ, Option.map_some, Option.join_some, Option.isSome_some, Option.bind_some,
  noOwn_int, noOwn_bl, noOwn_str, noOwn_non, noOwn_ty, noOwn_lst, noOwn_tup, noOwn_dit, noOwns_nil, noOwns_cons, noOwns_ints, fz_int, fz_bl, fz_str, fz_non, if_true, if_false, Bool.and_self, Bool.and_true, Bool.true_and, Bool.false_and, Bool.and_false, decide_true, decide_false, Bool.false_eq_true,
  gAdd_int, gSub_int, gLt_int, gLe_int, gGt_int, gGe_int, gEqA_int, gNeA_int, gEqA_str, gNeA_str, gLen, gInt, gAbs, gSum, intsOf_map, reduceCtorEq, ne_eq, not_false_eq_true, not_true_eq_false, and_self, and_true, true_and, and_false, false_and, Nat.reduceAdd, Nat.reduceSub, Nat.reduceMul, Nat.reduceLT, Nat.reduceLeDiff, Nat.zero_add, Int.reduceNeg, Int.reduceLT, Int.reduceLE, Int.reduceAdd, Int.reduceSub, Int.reduceMul, Int.reduceEq, Int.reduceNe, c0, no, lk, Bool.not_true]
  unfold valB
  rw [if_ff t]
  rfl
theorem vals_ok (hl : bs.length ≤ 24) : iVal (mFz (mLst (aCons (mC .non) (aCons (mC (.str "")) (aCons (mC (.str "++")) (aCons (mOp2 gMul (.ev (mC (.str "+"))) (.ev (mC (.int 25)))) (aCons (mC (.str "+ +")) (aCons (mCBV 7 gList aNil) (aCons (mCBV 7 gTuple aNil) (aCons (mC (.int 5)) (aCons (mC (.bl true)) (aCons (mC (.dit .own [])) (aCons (mOp2 gAdd (.sl 7) (.ev (mC (.str "\n")))) (aCons (mC (.str "+-*")) aNil)))))))))))))) [some sc, some (.bl g), some (.int k), some d, some (.int nm), x5, x6, some (.str (mkS bs)), x8, x9, none, x11] = some (.ok [.non, .str "", .str "++", .str (mkS (List.replicate 25 true)), .str "+ +", .lst .frz (bs.map fun b => D.str (sg b)), .tup false (bs.map fun b => D.str (sg b)), .int 5, .bl true, .dit .frz [], .str (mkS bs ++ "\n"), .str "+-*"], [some sc, some (.bl g), some (.int k), some d, some (.int nm), x5, x6, some (.str (mkS bs)), x8, x9, none, x11]) := by
  have m1 : gMul (.str "+") (.int 25) = some (.str (mkS (List.replicate 25 true))) := by
    rw [plus_eq]
    exact mul_sg true 25 (by decide)
  have m2 : gList [.str (mkS bs)] = some (.lst .own (bs.map fun b => D.str (sg b))) := by
    simp only [gList, gListC, mkS_len, signs_mkS]
    rw [if_pos (by omega)]
  have m3 : gTuple [.str (mkS bs)] = some (.tup false (bs.map fun b => D.str (sg b))) := by
    simp only [gTuple, gTupC, mkS_len, signs_mkS]
    rw [if_pos (by omega)]
  have m4 : gAdd (.str (mkS bs)) (.str "\n") = some (.str (mkS bs ++ "\n")) := by
    simp only [gAdd, gCatS, mkS_len]
    rw [if_pos]
    have : ("\n" : Str).length = 1 := by decide +kernel
    omega
  have e0 : (mLst (aCons (mC .non) (aCons (mC (.str "")) (aCons (mC (.str "++")) (aCons (mOp2 gMul (.ev (mC (.str "+"))) (.ev (mC (.int 25)))) (aCons (mC (.str "+ +")) (aCons (mCBV 7 gList aNil) (aCons (mCBV 7 gTuple aNil) (aCons (mC (.int 5)) (aCons (mC (.bl true)) (aCons (mC (.dit .own [])) (aCons (mOp2 gAdd (.sl 7) (.ev (mC (.str "\n")))) (aCons (mC (.str "+-*")) aNil))))))))))))) [some sc, some (.bl g), some (.int k), some d, some (.int nm), x5, x6, some (.str (mkS bs)), x8, x9, none, x11] = some (.ok (.lst .own [.non, .str "", .str "++", .str (mkS (List.replicate 25 true)), .str "+ +", .lst .own (bs.map fun b => D.str (sg b)), .tup false (bs.map fun b => D.str (sg b)), .int 5, .bl true, .dit .own [], .str (mkS bs ++ "\n"), .str "+-*"]), [some sc, some (.bl g), some (.int k), some d, some (.int nm), x5, x6, some (.str (mkS bs)), x8, x9, none, x11]) := by
    simp only [finM_ret, finM_nx, finM_err, finI_ret, sRet, sRetN, sEx, andThen, sAs, sSeq, sIf, sNx, sPar, sPar3, sRaise, mIf, bIf, bAnd, bOr, bNot, tVal, tTru, tTru2, asB, truD, mOp2, mOp, mC, mV, mMv, rd, mCBV, mCB, mCall, mCallI, mFz, mNeg, mTup, mLst, aCons, aNil, mAndV, mOrV, mNotV, mSl, oNone, oSome, gSl,
  bnd_ok, bnd_er, got_ok, gNm, gTp, gsCons, gsNil, gSubL, mMut, fApp, fPop, iVal, iRng, rngD1, rngD2, itemsD, mCh, cLast, cLink, tYesD,
  List.map_cons, List.map_nil, List.length_cons, List.length_nil, List.replicate, List.cons_append, List.nil_append, List.append_nil, List.getElem?_cons_zero, List.getElem?_cons_succ, List.set_cons_zero, List.set_cons_succ, Option.map_some, Option.join_some, Option.isSome_some, Option.bind_some,
  noOwn_int, noOwn_bl, noOwn_str, noOwn_non, noOwn_ty, noOwn_lst, noOwn_tup, noOwn_dit, noOwns_nil, noOwns_cons, noOwns_ints, fz_int, fz_bl, fz_str, fz_non, if_true, if_false, Bool.and_self, Bool.and_true, Bool.true_and, Bool.false_and, Bool.and_false, decide_true, decide_false, Bool.false_eq_true,
  gAdd_int, gSub_int, gLt_int, gLe_int, gGt_int, gGe_int, gEqA_int, gNeA_int, gEqA_str, gNeA_str, gLen, gInt, gAbs, gSum, intsOf_map, reduceCtorEq, ne_eq, not_false_eq_true, not_true_eq_false, and_self, and_true, true_and, and_false, false_and, Nat.reduceAdd, Nat.reduceSub, Nat.reduceMul, Nat.reduceLT, Nat.reduceLeDiff, Nat.zero_add, Int.reduceNeg, Int.reduceLT, Int.reduceLE, Int.reduceAdd, Int.reduceSub, Int.reduceMul, Int.reduceEq, Int.reduceNe, m1, m2, m3, m4]
  have f0 : fz (.lst .own [.non, .str "", .str "++", .str (mkS (List.replicate 25 true)), .str "+ +", .lst .own (bs.map fun b => D.str (sg b)), .tup false (bs.map fun b => D.str (sg b)), .int 5, .bl true, .dit .own [], .str (mkS bs ++ "\n"), .str "+-*"]) = .lst .frz [.non, .str "", .str "++", .str (mkS (List.replicate 25 true)), .str "+ +", .lst .frz (bs.map fun b => D.str (sg b)), .tup false (bs.map fun b => D.str (sg b)), .int 5, .bl true, .dit .frz [], .str (mkS bs ++ "\n"), .str "+-*"] := by
    have hs := fzs_same _ (noOwns_sg bs)
    simp only [fz_lst, fz_tup, fz_dit, fzs_cons, fzs_nil, fzT_nil, fz_non, fz_str, fz_int, fz_bl, if_true, eq_self, hs]
  have n0 : noOwns [.non, .str "", .str "++", .str (mkS (List.replicate 25 true)), .str "+ +", .lst .frz (bs.map fun b => D.str (sg b)), .tup false (bs.map fun b => D.str (sg b)), .int 5, .bl true, .dit .frz [], .str (mkS bs ++ "\n"), .str "+-*"] = true := by
    have := noOwns_sg bs
    simp [noOwns, noOwn, noOwnT, this, noOwn_dit]
  simp only [iVal, mFz, e0, bnd_ok, f0, itemsD, n0, if_true, got_ok]
theorem valsL_ok (hl : bs.length ≤ 24) : ∃ y11, sFor (iVal (mFz (mLst (aCons (mC .non) (aCons (mC (.str "")) (aCons (mC (.str "++")) (aCons (mOp2 gMul (.ev (mC (.str "+"))) (.ev (mC (.int 25)))) (aCons (mC (.str "+ +")) (aCons (mCBV 7 gList aNil) (aCons (mCBV 7 gTuple aNil) (aCons (mC (.int 5)) (aCons (mC (.bl true)) (aCons (mC (.dit .own [])) (aCons (mOp2 gAdd (.sl 7) (.ev (mC (.str "\n")))) (aCons (mC (.str "+-*")) aNil))))))))))))))) (gNm 11) valB [some sc, some (.bl g), some (.int k), some d, some (.int nm), x5, x6, some (.str (mkS bs)), x8, x9, none, x11] = some (.nx, [some sc, some (.bl g), some (.int k), some d, some (.int nm), x5, x6, some (.str (mkS bs)), x8, x9, none, y11]) := by
  have hb := bads bs hl
  rcases forL_two (g := gNm 11) (b := valB) (fun S => ∃ y11, S = [some sc, some (.bl g), some (.int k), some d, some (.int nm), x5, x6, some (.str (mkS bs)), x8, x9, none, y11]) (fun _ _ => False) [.non, .str "", .str "++", .str (mkS (List.replicate 25 true)), .str "+ +", .lst .frz (bs.map fun b => D.str (sg b)), .tup false (bs.map fun b => D.str (sg b)), .int 5, .bl true, .dit .frz [], .str (mkS bs ++ "\n"), .str "+-*"] [some sc, some (.bl g), some (.int k), some d, some (.int nm), x5, x6, some (.str (mkS bs)), x8, x9, none, x11] (fun e he S ⟨y, hS⟩ => by
    subst hS
    exact ⟨_, rfl, .inl ⟨_, val_ok (hb e he), _, rfl⟩⟩) ⟨_, rfl⟩ with ⟨S', e, y, rfl⟩ | ⟨_, _, _, hf⟩
  · exact ⟨y, for_of (vals_ok hl) e⟩
  · exact hf.elim
end
end Fk07

set_option maxHeartbeats 1000000
namespace Fk07
open PySem PySem.Spec PyProof.Rows L2 Fx
noncomputable def numG : SM := (sIf (bNot (tTru2 (.ev (mCall m__law_right (aCons (mJoin (mC (.str "")) (mLc [10] (iRng rngD1 (aCons (mV 6) aNil)) (gNm 10) tYesD (mOp2 gIx (.ev (mC (.str "+-"))) (.ev (mOp2 gAnd (.ev (mCB gInt (aCons (mOp2 gShr (.sl 9) (.sl 10)) aNil))) (.ev (mC (.int 1)))))))) (aCons (mOp2 gMod (.ev (mCBV 9 gInt aNil)) (.ev (mC (.int 2)))) aNil)))))) (sRet (mC (.bl false))) sNx)
noncomputable def manyG : SM := (sFor (iRng rngD1 (aCons (mOp2 gShl (.ev (mC (.int 1))) (.sl 6)) aNil)) (gNm 9) numG)
noncomputable def greatG : SM := (sFor (iVal (mFz (mLst (aCons (mC (.int 3)) (aCons (mC (.int 4)) (aCons (mC (.int 5)) (aCons (mC (.int 6)) (aCons (mC (.int 7)) aNil)))))))) (gNm 6) manyG)
section
variable {sc d : D} {g : Bool} {k nm j : Int} {v : Nat} {x5 x6 x7 x8 x9 x11 : Option D}
theorem jn_ok (hv : v ≤ 24) : (mJoin (mC (.str "")) (mLc [10] (iRng rngD1 (aCons (mV 6) aNil)) (gNm 10) tYesD (mOp2 gIx (.ev (mC (.str "+-"))) (.ev (mOp2 gAnd (.ev (mCB gInt (aCons (mOp2 gShr (.sl 9) (.sl 10)) aNil))) (.ev (mC (.int 1)))))))) [some sc, some (.bl g), some (.int k), some d, some (.int nm), x5, some (.int v), x7, x8, some (.int j), none, x11] = some (.ok (.str (mkS ((List.range v).map fun k => bOf (Builtin.bitAnd (j / 2 ^ k) 1)))), [some sc, some (.bl g), some (.int k), some d, some (.int nm), x5, some (.int v), x7, x8, some (.int j), none, x11]) := by
  have e0 : iRng rngD1 (aCons (mV 6) aNil) [some sc, some (.bl g), some (.int k), some d, some (.int nm), x5, some (.int v), x7, x8, some (.int j), none, x11] = some (.ok (rangeD 0 1 v), [some sc, some (.bl g), some (.int k), some d, some (.int nm), x5, some (.int v), x7, x8, some (.int j), none, x11]) := by
    have e1 : aCons (mV 6) aNil [some sc, some (.bl g), some (.int k), some d, some (.int nm), x5, some (.int v), x7, x8, some (.int j), none, x11] = some (.ok [.int v], [some sc, some (.bl g), some (.int k), some d, some (.int nm), x5, some (.int v), x7, x8, some (.int j), none, x11]) := rfl
    unfold iRng
    rw [e1, bnd_ok, rngD1_int (by omega) (by omega), show (v : Int).toNat = v by omega]
    rfl
  have hm := mLc_map (vs := [10]) (g := gNm 10) (m := (mOp2 gIx (.ev (mC (.str "+-"))) (.ev (mOp2 gAnd (.ev (mCB gInt (aCons (mOp2 gShr (.sl 9) (.sl 10)) aNil))) (.ev (mC (.int 1))))))) (fun x => match x with | .int k => .str (sg (bOf (Builtin.bitAnd (j / 2 ^ k.toNat) 1))) | _ => .non) e0 rfl (fun x hx => by
    obtain ⟨i, hk, rfl⟩ := List.mem_map.mp (show x ∈ (List.range v).map fun j : Nat => D.int (0 + (j : Int) * 1) from hx)
    rw [Int.mul_one, Int.zero_add]
    refine ⟨[some sc, some (.bl g), some (.int k), some d, some (.int nm), x5, some (.int v), x7, x8, some (.int j), some (.int (i : Int)), x11], [some sc, some (.bl g), some (.int k), some d, some (.int nm), x5, some (.int v), x7, x8, some (.int j), some (.int (i : Int)), x11], rfl, ?_, rfl⟩
    have s1 : gShr (.int j) (.int i) = some (.int (j / 2 ^ (i : Int).toNat)) := onI_eq (by omega)
    have s2 : gAnd (.int (j / 2 ^ (i : Int).toNat)) (.int 1) = some (.int (Builtin.bitAnd (j / 2 ^ (i : Int).toNat) 1)) := rfl
    have s3 := pm_ix (and1 (j / 2 ^ (i : Int).toNat)).1 (and1 (j / 2 ^ (i : Int).toNat)).2
    simp only [finM_ret, finM_nx, finM_err, finI_ret, sRet, sRetN, sEx, andThen, sAs, sSeq, sIf, sNx, sPar, sPar3, sRaise, mIf, bIf, bAnd, bOr, bNot, tVal, tTru, tTru2, asB, truD, mOp2, mOp, mC, mV, mMv, rd, mCBV, mCB, mCall, mCallI, mFz, mNeg, mTup, mLst, aCons, aNil, mAndV, mOrV, mNotV, mSl, oNone, oSome, gSl,
  bnd_ok, bnd_er, got_ok, gNm, gTp, gsCons, gsNil, gSubL, mMut, fApp, fPop, iVal, iRng, rngD1, rngD2, itemsD, mCh, cLast, cLink, tYesD,
  List.map_cons, List.map_nil, List.length_cons, List.length_nil, List.replicate, List.cons_append, List.nil_append, List.append_nil, List.getElem?_cons_zero, List.getElem?_cons_succ, List.set_cons_zero, List.set_cons_succ, Option.map_some, Option.join_some, Option.isSome_some, Option.bind_some,
  noOwn_int, noOwn_bl, noOwn_str, noOwn_non, noOwn_ty, noOwn_lst, noOwn_tup, noOwn_dit, noOwns_nil, noOwns_cons, noOwns_ints, fz_int, fz_bl, fz_str, fz_non, if_true, if_false, Bool.and_self, Bool.and_true, Bool.true_and, Bool.false_and, Bool.and_false, decide_true, decide_false, Bool.false_eq_true,
  gAdd_int, gSub_int, gLt_int, gLe_int, gGt_int, gGe_int, gEqA_int, gNeA_int, gEqA_str, gNeA_str, gLen, gInt, gAbs, gSum, intsOf_map, reduceCtorEq, ne_eq, not_false_eq_true, not_true_eq_false, and_self, and_true, true_and, and_false, false_and, Nat.reduceAdd, Nat.reduceSub, Nat.reduceMul, Nat.reduceLT, Nat.reduceLeDiff, Nat.zero_add, Int.reduceNeg, Int.reduceLT, Int.reduceLE, Int.reduceAdd, Int.reduceSub, Int.reduceMul, Int.reduceEq, Int.reduceNe, s1, s2, s3]) (by rw [rangeD_len]; omega) rfl
  have hf : (rangeD 0 1 v).map (fun x => match x with | .int k => D.str (sg (bOf (Builtin.bitAnd (j / 2 ^ k.toNat) 1))) | _ => .non) = ((List.range v).map fun k => bOf (Builtin.bitAnd (j / 2 ^ k) 1)).map fun b => D.str (sg b) := by
    unfold rangeD
    rw [List.map_map, List.map_map]
    apply List.map_congr_left
    intro i _
    show D.str (sg (bOf (Builtin.bitAnd (j / 2 ^ ((0 : Int) + (i : Int) * 1).toNat) 1))) = _
    rw [Int.mul_one, Int.zero_add]
    rfl
  rw [hf] at hm
  exact join_m hm (join_ok _ (by simp; omega))
theorem numG_ok (v3 : 3 ≤ v) (hv : v ≤ 24) : numG [some sc, some (.bl g), some (.int k), some d, some (.int nm), x5, some (.int v), x7, x8, some (.int j), none, x11] = some (.nx, [some sc, some (.bl g), some (.int k), some d, some (.int nm), x5, some (.int v), x7, x8, some (.int j), none, x11]) := by
  have e1 := jn_ok (sc := sc) (d := d) (g := g) (k := k) (nm := nm) (j := j) (x5 := x5) (x7 := x7) (x8 := x8) (x11 := x11) hv
  have e2 : mOp2 gMod (.ev (mCBV 9 gInt aNil)) (.ev (mC (.int 2))) [some sc, some (.bl g), some (.int k), some d, some (.int nm), x5, some (.int v), x7, x8, some (.int j), none, x11] = some (.ok (.int (j.fmod 2)), [some sc, some (.bl g), some (.int k), some d, some (.int nm), x5, some (.int v), x7, x8, some (.int j), none, x11]) := by
    have m : gMod (.int j) (.int 2) = some (.int (j.fmod 2)) := gMod_int (by decide)
    simp only [finM_ret, finM_nx, finM_err, finI_ret, sRet, sRetN, sEx, andThen, sAs, sSeq, sIf, sNx, sPar, sPar3, sRaise, mIf, bIf, bAnd, bOr, bNot, tVal, tTru, tTru2, asB, truD, mOp2, mOp, mC, mV, mMv, rd, mCBV, mCB, mCall, mCallI, mFz, mNeg, mTup, mLst, aCons, aNil, mAndV, mOrV, mNotV, mSl, oNone, oSome, gSl,
  bnd_ok, bnd_er, got_ok, gNm, gTp, gsCons, gsNil, gSubL, mMut, fApp, fPop, iVal, iRng, rngD1, rngD2, itemsD, mCh, cLast, cLink, tYesD,
  List.map_cons, List.map_nil, List.length_cons, List.length_nil, List.replicate, List.cons_append, List.nil_append, List.append_nil, List.getElem?_cons_zero, List.getElem?_cons_succ, List.set_cons_zero, List.set_cons_succ, Option.map_some, Option.join_some, Option.isSome_some, Option.bind_some,
  noOwn_int, noOwn_bl, noOwn_str, noOwn_non, noOwn_ty, noOwn_lst, noOwn_tup, noOwn_dit, noOwns_nil, noOwns_cons, noOwns_ints, fz_int, fz_bl, fz_str, fz_non, if_true, if_false, Bool.and_self, Bool.and_true, Bool.true_and, Bool.false_and, Bool.and_false, decide_true, decide_false, Bool.false_eq_true,
  gAdd_int, gSub_int, gLt_int, gLe_int, gGt_int, gGe_int, gEqA_int, gNeA_int, gEqA_str, gNeA_str, gLen, gInt, gAbs, gSum, intsOf_map, reduceCtorEq, ne_eq, not_false_eq_true, not_true_eq_false, and_self, and_true, true_and, and_false, false_and, Nat.reduceAdd, Nat.reduceSub, Nat.reduceMul, Nat.reduceLT, Nat.reduceLeDiff, Nat.zero_add, Int.reduceNeg, Int.reduceLT, Int.reduceLE, Int.reduceAdd, Int.reduceSub, Int.reduceMul, Int.reduceEq, Int.reduceNe, m]
  have e3 := call2_ok e1 e2 (right_ok _ _ (by simp; omega) (by simp; omega))
  unfold numG
  rw [if_ff (not_ok (ttru_ok e3))]
  rfl
theorem manyG_ok (v3 : 3 ≤ v) (hv : v ≤ 7) : ∃ y9, manyG [some sc, some (.bl g), some (.int k), some d, some (.int nm), x5, some (.int v), x7, x8, x9, none, x11] = some (.nx, [some sc, some (.bl g), some (.int k), some d, some (.int nm), x5, some (.int v), x7, x8, y9, none, x11]) := by
  have s : ∃ r : Nat, r ≤ 1000 ∧ gShl (.int 1) (.int v) = some (.int r) := by
    have : v = 3 ∨ v = 4 ∨ v = 5 ∨ v = 6 ∨ v = 7 := by omega
    rcases this with rfl | rfl | rfl | rfl | rfl
    · exact ⟨8, by decide, onI_eq (C := CPow) (by unfold CPow; decide)⟩
    · exact ⟨16, by decide, onI_eq (C := CPow) (by unfold CPow; decide)⟩
    · exact ⟨32, by decide, onI_eq (C := CPow) (by unfold CPow; decide)⟩
    · exact ⟨64, by decide, onI_eq (C := CPow) (by unfold CPow; decide)⟩
    · exact ⟨128, by decide, onI_eq (C := CPow) (by unfold CPow; decide)⟩
  obtain ⟨r, hr, s⟩ := s
  have e0 : iRng rngD1 (aCons (mOp2 gShl (.ev (mC (.int 1))) (.sl 6)) aNil) [some sc, some (.bl g), some (.int k), some d, some (.int nm), x5, some (.int v), x7, x8, x9, none, x11] = some (.ok (rangeD 0 1 r), [some sc, some (.bl g), some (.int k), some d, some (.int nm), x5, some (.int v), x7, x8, x9, none, x11]) := by
    have e1 : mOp2 gShl (.ev (mC (.int 1))) (.sl 6) [some sc, some (.bl g), some (.int k), some d, some (.int nm), x5, some (.int v), x7, x8, x9, none, x11] = some (.ok (.int r), [some sc, some (.bl g), some (.int k), some d, some (.int nm), x5, some (.int v), x7, x8, x9, none, x11]) := op2_es (a := mC (.int 1)) rfl rfl s
    unfold iRng aCons aNil
    rw [e1, bnd_ok, bnd_ok, bnd_ok, rngD1_int (by omega) (by omega), show (r : Int).toNat = r by omega]
    rfl
  rcases forL_two (g := gNm 9) (b := numG) (fun S => ∃ y9, S = [some sc, some (.bl g), some (.int k), some d, some (.int nm), x5, some (.int v), x7, x8, y9, none, x11]) (fun _ _ => False) (rangeD 0 1 r) [some sc, some (.bl g), some (.int k), some d, some (.int nm), x5, some (.int v), x7, x8, x9, none, x11] (fun e he S ⟨y, hS⟩ => by
    subst hS
    obtain ⟨i, hk, rfl⟩ := List.mem_map.mp (show e ∈ (List.range r).map fun j : Nat => D.int (0 + (j : Int) * 1) from he)
    exact ⟨_, rfl, .inl ⟨_, numG_ok v3 (by omega), _, rfl⟩⟩) ⟨_, rfl⟩ with ⟨S', e, y, rfl⟩ | ⟨_, _, _, hf⟩
  · exact ⟨y, for_of e0 e⟩
  · exact hf.elim
theorem greatG_ok : ∃ y6 y9, greatG [some sc, some (.bl g), some (.int k), some d, some (.int nm), x5, x6, x7, x8, x9, none, x11] = some (.nx, [some sc, some (.bl g), some (.int k), some d, some (.int nm), x5, y6, x7, x8, y9, none, x11]) := by
  have e0 : iVal (mFz (mLst (aCons (mC (.int 3)) (aCons (mC (.int 4)) (aCons (mC (.int 5)) (aCons (mC (.int 6)) (aCons (mC (.int 7)) aNil))))))) [some sc, some (.bl g), some (.int k), some d, some (.int nm), x5, x6, x7, x8, x9, none, x11] = some (.ok [.int 3, .int 4, .int 5, .int 6, .int 7], [some sc, some (.bl g), some (.int k), some d, some (.int nm), x5, x6, x7, x8, x9, none, x11]) := by
    have h1 : mLst (aCons (mC (.int 3)) (aCons (mC (.int 4)) (aCons (mC (.int 5)) (aCons (mC (.int 6)) (aCons (mC (.int 7)) aNil))))) [some sc, some (.bl g), some (.int k), some d, some (.int nm), x5, x6, x7, x8, x9, none, x11] = some (.ok (.lst .own [.int 3, .int 4, .int 5, .int 6, .int 7]), [some sc, some (.bl g), some (.int k), some d, some (.int nm), x5, x6, x7, x8, x9, none, x11]) := rfl
    have h2 : fz (.lst .own [.int 3, .int 4, .int 5, .int 6, .int 7]) = .lst .frz [.int 3, .int 4, .int 5, .int 6, .int 7] := by
      simp only [fz_lst, fzs_cons, fzs_nil, fz_int, if_true, eq_self]
    have h3 : noOwns [.int 3, .int 4, .int 5, .int 6, .int 7] = true := by simp [noOwns, noOwn]
    simp only [iVal, mFz, h1, bnd_ok, h2, itemsD, h3, if_true, got_ok]
  rcases forL_two (g := gNm 6) (b := manyG) (fun S => ∃ y6 y9, S = [some sc, some (.bl g), some (.int k), some d, some (.int nm), x5, y6, x7, x8, y9, none, x11]) (fun _ _ => False) [.int 3, .int 4, .int 5, .int 6, .int 7] [some sc, some (.bl g), some (.int k), some d, some (.int nm), x5, x6, x7, x8, x9, none, x11] (fun e he S ⟨y, y9, hS⟩ => by
    subst hS
    have : ∃ v : Nat, e = .int v ∧ 3 ≤ v ∧ v ≤ 7 := by
      simp only [List.mem_cons, List.not_mem_nil, or_false] at he
      rcases he with rfl | rfl | rfl | rfl | rfl
      · exact ⟨3, rfl, by decide, by decide⟩
      · exact ⟨4, rfl, by decide, by decide⟩
      · exact ⟨5, rfl, by decide, by decide⟩
      · exact ⟨6, rfl, by decide, by decide⟩
      · exact ⟨7, rfl, by decide, by decide⟩
    obtain ⟨v, rfl, v3, v7⟩ := this
    obtain ⟨z9, e⟩ := manyG_ok (sc := sc) (d := d) (g := g) (k := k) (nm := nm) (x5 := x5) (x7 := x7) (x8 := x8) (x9 := y9) (x11 := x11) v3 v7
    exact ⟨_, rfl, .inl ⟨_, e, _, _, rfl⟩⟩) ⟨_, _, rfl⟩ with ⟨S', e, y6, y9, rfl⟩ | ⟨_, _, _, hf⟩
  · exact ⟨y6, y9, for_of e0 e⟩
  · exact hf.elim
end
end Fk07

set_option maxHeartbeats 1000000
namespace Fk07
open PySem PySem.Spec PyProof.Rows L2 Fx
noncomputable def outB : SM := (sSeq (sAs (mCall m__law_box (aCons (mCall m__law_cell (aCons (mV 0) (aCons (mV 2) aNil))) aNil)) (gNm 3)) (sSeq (sAs (mCallI 3 m__law_take (aCons (mC (.int 2)) aNil)) (gNm 4)) (sSeq (sFor (iRng rngD1 (aCons (mC (.int 5)) aNil)) (gNm 5) turnL) (sSeq (sIf (bAnd (tTru2 (.sl 1)) (tVal (mOp2 gEqA (.sl 2) (.ev (mC (.int 0)))))) greatG sNx) (sFor (iVal (mFz (mLst (aCons (mC .non) (aCons (mC (.str "")) (aCons (mC (.str "++")) (aCons (mOp2 gMul (.ev (mC (.str "+"))) (.ev (mC (.int 25)))) (aCons (mC (.str "+ +")) (aCons (mCBV 7 gList aNil) (aCons (mCBV 7 gTuple aNil) (aCons (mC (.int 5)) (aCons (mC (.bl true)) (aCons (mC (.dit .own [])) (aCons (mOp2 gAdd (.sl 7) (.ev (mC (.str "\n")))) (aCons (mC (.str "+-*")) aNil))))))))))))))) (gNm 11) valB)))))
theorem law_eq : b_law = (sSeq (sAs (mOp2 gEqA (.ev (mOp2 gMod (.ev (mCB gInt (aCons (mCB gSum (aCons (mSl (mV 0) oNone (oSome (mC (.int 1)))) aNil)) aNil))) (.ev (mC (.int 4))))) (.ev (mC (.int 2)))) (gNm 1)) (sSeq (sFor (iRng rngD1 (aCons (mCB gMax2 (aCons (mC (.int 2)) (aCons (mCB gMin2 (aCons (mC (.int 3)) (aCons (mCBV 0 gLen aNil) aNil))) aNil))) aNil)) (gNm 2) outB) (sRet (mC (.bl true))))) := rfl
section
variable {ns : List Int} {d : D} {g : Bool} {x2 x3 x4 x5 x6 x7 x8 x9 x11 : Option D}
theorem b3_ok {k nm : Int} (hB : Bx 1 d) : ∃ (d' : D) (bs : List Bool) (y5 y6 y8 : Option D), (sFor (iRng rngD1 (aCons (mC (.int 5)) aNil)) (gNm 5) turnL) [some (.lst .fix (ns.map D.int)), some (.bl g), some (.int k), some d, some (.int nm), x5, x6, x7, x8, x9, none, x11] = some (.nx, [some (.lst .fix (ns.map D.int)), some (.bl g), some (.int k), some d', some (.int nm), y5, y6, some (.str (mkS bs)), y8, x9, none, x11]) ∧ bs.length ≤ 24 := by
  have e0 : iRng rngD1 (aCons (mC (.int 5)) aNil) [some (.lst .fix (ns.map D.int)), some (.bl g), some (.int k), some d, some (.int nm), x5, x6, x7, x8, x9, none, x11] = some (.ok (rangeD 0 1 5), [some (.lst .fix (ns.map D.int)), some (.bl g), some (.int k), some d, some (.int nm), x5, x6, x7, x8, x9, none, x11]) := by
    have e1 : aCons (mC (.int 5)) aNil [some (.lst .fix (ns.map D.int)), some (.bl g), some (.int k), some d, some (.int nm), x5, x6, x7, x8, x9, none, x11] = some (.ok [.int 5], [some (.lst .fix (ns.map D.int)), some (.bl g), some (.int k), some d, some (.int nm), x5, x6, x7, x8, x9, none, x11]) := rfl
    unfold iRng
    rw [e1, bnd_ok, rngD1_int (by decide) (by decide)]
    rfl
  obtain ⟨S', e, d', y5, y6, y7, y8, rfl, _, h7⟩ := forL_range (g := gNm 5) (b := turnL) (lo := 0) (n := 5) (fun j S => ∃ d' y5 y6 y7 y8, S = [some (.lst .fix (ns.map D.int)), some (.bl g), some (.int k), some d', some (.int nm), y5, y6, y7, y8, x9, none, x11] ∧ Bx (1 + 203 * j) d' ∧ (0 < j → ∃ bs : List Bool, y7 = some (.str (mkS bs)) ∧ bs.length ≤ 24))
    (fun j S hj ⟨d', y5, y6, y7, y8, hS, hd, _⟩ => by
      subst hS
      obtain ⟨d2, v, bs, z8, e, v3, v24, hl, hd2⟩ := turnL_ok (sc := (.lst .fix (ns.map D.int))) (g := g) (k := k) (nm := nm) (t := 0 + (j : Int)) (x6 := y6) (x7 := y7) (x8 := y8) (x9 := x9) (x11 := x11) hd (by omega)
      exact ⟨_, _, rfl, e, d2, _, _, _, _, rfl, hd2.mono (by omega), fun _ => ⟨bs, rfl, by omega⟩⟩) (S := [some (.lst .fix (ns.map D.int)), some (.bl g), some (.int k), some d, some (.int nm), x5, x6, x7, x8, x9, none, x11]) ⟨d, x5, x6, x7, x8, rfl, hB, fun h => absurd h (Nat.lt_irrefl 0)⟩
  obtain ⟨bs, rfl, hl⟩ := h7 (by decide)
  exact ⟨d', bs, y5, y6, y8, for_of e0 e, hl⟩
theorem b4_ok {k nm : Int} : ∃ y6 y9, (sIf (bAnd (tTru2 (.sl 1)) (tVal (mOp2 gEqA (.sl 2) (.ev (mC (.int 0)))))) greatG sNx) [some (.lst .fix (ns.map D.int)), some (.bl g), some (.int k), some d, some (.int nm), x5, x6, x7, x8, x9, none, x11] = some (.nx, [some (.lst .fix (ns.map D.int)), some (.bl g), some (.int k), some d, some (.int nm), x5, y6, x7, x8, y9, none, x11]) := by
  have t : ∃ b, bAnd (tTru2 (.sl 1)) (tVal (mOp2 gEqA (.sl 2) (.ev (mC (.int 0))))) [some (.lst .fix (ns.map D.int)), some (.bl g), some (.int k), some d, some (.int nm), x5, x6, x7, x8, x9, none, x11] = some (.ok b, [some (.lst .fix (ns.map D.int)), some (.bl g), some (.int k), some d, some (.int nm), x5, x6, x7, x8, x9, none, x11]) := by
    cases g
    · exact ⟨false, by simp only [finM_ret, finM_nx, finM_err, finI_ret, sRet, sRetN, sEx, andThen, sAs, sSeq, sIf, sNx, sPar, sPar3, sRaise, mIf, bIf, bAnd, bOr, bNot, tVal, tTru, tTru2, asB, truD, mOp2, mOp, mC, mV, mMv, rd, mCBV, mCB, mCall, mCallI, mFz, mNeg, mTup, mLst, aCons, aNil, mAndV, mOrV, mNotV, mSl, oNone, oSome, gSl,
  bnd_ok, bnd_er, got_ok, gNm, gTp, gsCons, gsNil, gSubL, mMut, fApp, fPop, iVal, iRng, rngD1, rngD2, itemsD, mCh, cLast, cLink, tYesD,
  List.map_cons, List.map_nil, List.length_cons, List.length_nil, List.replicate, List.cons_append, List.nil_append, List.append_nil, List.getElem?_cons_zero, List.getElem?_cons_succ, List.set_cons_zero, List.set_cons_succ, Option.map_some, Option.join_some, Option.isSome_some, Option.bind_some,
  noOwn_int, noOwn_bl, noOwn_str, noOwn_non, noOwn_ty, noOwn_lst, noOwn_tup, noOwn_dit, noOwns_nil, noOwns_cons, noOwns_ints, fz_int, fz_bl, fz_str, fz_non, if_true, if_false, Bool.and_self, Bool.and_true, Bool.true_and, Bool.false_and, Bool.and_false, decide_true, decide_false, Bool.false_eq_true,
  gAdd_int, gSub_int, gLt_int, gLe_int, gGt_int, gGe_int, gEqA_int, gNeA_int, gEqA_str, gNeA_str, gLen, gInt, gAbs, gSum, intsOf_map, reduceCtorEq, ne_eq, not_false_eq_true, not_true_eq_false, and_self, and_true, true_and, and_false, false_and, Nat.reduceAdd, Nat.reduceSub, Nat.reduceMul, Nat.reduceLT, Nat.reduceLeDiff, Nat.zero_add, Int.reduceNeg, Int.reduceLT, Int.reduceLE, Int.reduceAdd, Int.reduceSub, Int.reduceMul, Int.reduceEq, Int.reduceNe]⟩
    · exact ⟨decide (k = 0), by simp only [finM_ret, finM_nx, finM_err, finI_ret, sRet, sRetN, sEx, andThen, sAs, sSeq, sIf, sNx, sPar, sPar3, sRaise, mIf, bIf, bAnd, bOr, bNot, tVal, tTru, tTru2, asB, truD, mOp2, mOp, mC, mV, mMv, rd, mCBV, mCB, mCall, mCallI, mFz, mNeg, mTup, mLst, aCons, aNil, mAndV, mOrV, mNotV, mSl, oNone, oSome, gSl,
  bnd_ok, bnd_er, got_ok, gNm, gTp, gsCons, gsNil, gSubL, mMut, fApp, fPop, iVal, iRng, rngD1, rngD2, itemsD, mCh, cLast, cLink, tYesD,
  List.map_cons, List.map_nil, List.length_cons, List.length_nil, List.replicate, List.cons_append, List.nil_append, List.append_nil, List.getElem?_cons_zero, List.getElem?_cons_succ, List.set_cons_zero, List.set_cons_succ, Option.map_some, Option.join_some, Option.isSome_some, Option.bind_some,
  noOwn_int, noOwn_bl, noOwn_str, noOwn_non, noOwn_ty, noOwn_lst, noOwn_tup, noOwn_dit, noOwns_nil, noOwns_cons, noOwns_ints, fz_int, fz_bl, fz_str, fz_non, if_true, if_false, Bool.and_self, Bool.and_true, Bool.true_and, Bool.false_and, Bool.and_false, decide_true, decide_false, Bool.false_eq_true,
  gAdd_int, gSub_int, gLt_int, gLe_int, gGt_int, gGe_int, gEqA_int, gNeA_int, gEqA_str, gNeA_str, gLen, gInt, gAbs, gSum, intsOf_map, reduceCtorEq, ne_eq, not_false_eq_true, not_true_eq_false, and_self, and_true, true_and, and_false, false_and, Nat.reduceAdd, Nat.reduceSub, Nat.reduceMul, Nat.reduceLT, Nat.reduceLeDiff, Nat.zero_add, Int.reduceNeg, Int.reduceLT, Int.reduceLE, Int.reduceAdd, Int.reduceSub, Int.reduceMul, Int.reduceEq, Int.reduceNe]⟩
  obtain ⟨b, t⟩ := t
  cases b
  · exact ⟨x6, x9, by rw [if_ff t]; rfl⟩
  · obtain ⟨y6, y9, e⟩ := greatG_ok (sc := (.lst .fix (ns.map D.int))) (d := d) (g := g) (k := k) (nm := nm) (x5 := x5) (x6 := x6) (x7 := x7) (x8 := x8) (x9 := x9) (x11 := x11)
    exact ⟨y6, y9, by rw [if_tt t]; exact e⟩
theorem outB_ok (k : Nat) : ∃ y3 y4 y5 y6 y7 y8 y9 y11, outB [some (.lst .fix (ns.map D.int)), some (.bl g), some (.int k), x3, x4, x5, x6, x7, x8, x9, none, x11] = some (.nx, [some (.lst .fix (ns.map D.int)), some (.bl g), some (.int k), y3, y4, y5, y6, y7, y8, y9, none, y11]) := by
  obtain ⟨c, ec⟩ := cell_ok ns k
  obtain ⟨d0, e0, h0⟩ := box_ok c
  obtain ⟨nm, d1, e2, n0, n1, h1⟩ := take_ok (many := 2) h0 (by decide) (by decide) (by decide)
  have b1 : (sAs (mCall m__law_box (aCons (mCall m__law_cell (aCons (mV 0) (aCons (mV 2) aNil))) aNil)) (gNm 3)) [some (.lst .fix (ns.map D.int)), some (.bl g), some (.int k), x3, x4, x5, x6, x7, x8, x9, none, x11] = some (.nx, [some (.lst .fix (ns.map D.int)), some (.bl g), some (.int k), some d0, x4, x5, x6, x7, x8, x9, none, x11]) := by
    simp only [finM_ret, finM_nx, finM_err, finI_ret, sRet, sRetN, sEx, andThen, sAs, sSeq, sIf, sNx, sPar, sPar3, sRaise, mIf, bIf, bAnd, bOr, bNot, tVal, tTru, tTru2, asB, truD, mOp2, mOp, mC, mV, mMv, rd, mCBV, mCB, mCall, mCallI, mFz, mNeg, mTup, mLst, aCons, aNil, mAndV, mOrV, mNotV, mSl, oNone, oSome, gSl,
  bnd_ok, bnd_er, got_ok, gNm, gTp, gsCons, gsNil, gSubL, mMut, fApp, fPop, iVal, iRng, rngD1, rngD2, itemsD, mCh, cLast, cLink, tYesD,
  List.map_cons, List.map_nil, List.length_cons, List.length_nil, List.replicate, List.cons_append, List.nil_append, List.append_nil, List.getElem?_cons_zero, List.getElem?_cons_succ, List.set_cons_zero, List.set_cons_succ, Option.map_some, Option.join_some, Option.isSome_some, Option.bind_some,
  noOwn_int, noOwn_bl, noOwn_str, noOwn_non, noOwn_ty, noOwn_lst, noOwn_tup, noOwn_dit, noOwns_nil, noOwns_cons, noOwns_ints, fz_int, fz_bl, fz_str, fz_non, if_true, if_false, Bool.and_self, Bool.and_true, Bool.true_and, Bool.false_and, Bool.and_false, decide_true, decide_false, Bool.false_eq_true,
  gAdd_int, gSub_int, gLt_int, gLe_int, gGt_int, gGe_int, gEqA_int, gNeA_int, gEqA_str, gNeA_str, gLen, gInt, gAbs, gSum, intsOf_map, reduceCtorEq, ne_eq, not_false_eq_true, not_true_eq_false, and_self, and_true, true_and, and_false, false_and, Nat.reduceAdd, Nat.reduceSub, Nat.reduceMul, Nat.reduceLT, Nat.reduceLeDiff, Nat.zero_add, Int.reduceNeg, Int.reduceLT, Int.reduceLE, Int.reduceAdd, Int.reduceSub, Int.reduceMul, Int.reduceEq, Int.reduceNe, ec, e0]
  have b2 : (sAs (mCallI 3 m__law_take (aCons (mC (.int 2)) aNil)) (gNm 4)) [some (.lst .fix (ns.map D.int)), some (.bl g), some (.int k), some d0, x4, x5, x6, x7, x8, x9, none, x11] = some (.nx, [some (.lst .fix (ns.map D.int)), some (.bl g), some (.int k), some d1, some (.int nm), x5, x6, x7, x8, x9, none, x11]) := by
    simp only [finM_ret, finM_nx, finM_err, finI_ret, sRet, sRetN, sEx, andThen, sAs, sSeq, sIf, sNx, sPar, sPar3, sRaise, mIf, bIf, bAnd, bOr, bNot, tVal, tTru, tTru2, asB, truD, mOp2, mOp, mC, mV, mMv, rd, mCBV, mCB, mCall, mCallI, mFz, mNeg, mTup, mLst, aCons, aNil, mAndV, mOrV, mNotV, mSl, oNone, oSome, gSl,
  bnd_ok, bnd_er, got_ok, gNm, gTp, gsCons, gsNil, gSubL, mMut, fApp, fPop, iVal, iRng, rngD1, rngD2, itemsD, mCh, cLast, cLink, tYesD,
  List.map_cons, List.map_nil, List.length_cons, List.length_nil, List.replicate, List.cons_append, List.nil_append, List.append_nil, List.getElem?_cons_zero, List.getElem?_cons_succ, List.set_cons_zero, List.set_cons_succ, Option.map_some, Option.join_some, Option.isSome_some, Option.bind_some,
  noOwn_int, noOwn_bl, noOwn_str, noOwn_non, noOwn_ty, noOwn_lst, noOwn_tup, noOwn_dit, noOwns_nil, noOwns_cons, noOwns_ints, fz_int, fz_bl, fz_str, fz_non, if_true, if_false, Bool.and_self, Bool.and_true, Bool.true_and, Bool.false_and, Bool.and_false, decide_true, decide_false, Bool.false_eq_true,
  gAdd_int, gSub_int, gLt_int, gLe_int, gGt_int, gGe_int, gEqA_int, gNeA_int, gEqA_str, gNeA_str, gLen, gInt, gAbs, gSum, intsOf_map, reduceCtorEq, ne_eq, not_false_eq_true, not_true_eq_false, and_self, and_true, true_and, and_false, false_and, Nat.reduceAdd, Nat.reduceSub, Nat.reduceMul, Nat.reduceLT, Nat.reduceLeDiff, Nat.zero_add, Int.reduceNeg, Int.reduceLT, Int.reduceLE, Int.reduceAdd, Int.reduceSub, Int.reduceMul, Int.reduceEq, Int.reduceNe, e2]
  obtain ⟨d2, bs, y5, y6, y8, b3, hl⟩ := b3_ok (ns := ns) (g := g) (x5 := x5) (x6 := x6) (x7 := x7) (x8 := x8) (x9 := x9) (x11 := x11) (k := k) (nm := nm) h1
  obtain ⟨z6, z9, b4⟩ := b4_ok (ns := ns) (d := d2) (g := g) (x5 := y5) (x6 := y6) (x7 := some (.str (mkS bs))) (x8 := y8) (x9 := x9) (x11 := x11) (k := k) (nm := nm)
  obtain ⟨z11, b5⟩ := valsL_ok (sc := (.lst .fix (ns.map D.int))) (d := d2) (g := g) (k := k) (nm := nm) (x5 := y5) (x6 := z6) (x8 := y8) (x9 := z9) (x11 := x11) hl
  refine ⟨some d2, some (.int nm), y5, z6, some (.str (mkS bs)), y8, z9, z11, ?_⟩
  unfold outB
  rw [seq_nx b1, seq_nx b2, seq_nx b3, seq_nx b4, b5]
theorem law_ok (ns : List Int) : m_law [(.lst .fix (ns.map D.int))] = some (.ok (.bl true), none) := by
  have a1 : ∃ g, (sAs (mOp2 gEqA (.ev (mOp2 gMod (.ev (mCB gInt (aCons (mCB gSum (aCons (mSl (mV 0) oNone (oSome (mC (.int 1)))) aNil)) aNil))) (.ev (mC (.int 4))))) (.ev (mC (.int 2)))) (gNm 1)) [some (.lst .fix (ns.map D.int)), none, none, none, none, none, none, none, none, none, none, none] = some (.nx, [some (.lst .fix (ns.map D.int)), some (.bl g), none, none, none, none, none, none, none, none, none, none]) := by
    have m : gMod (.int (ns.take 1).sum) (.int 4) = some (.int ((ns.take 1).sum.fmod 4)) := gMod_int (by decide)
    refine ⟨decide ((ns.take 1).sum.fmod 4 = 2), ?_⟩
    simp only [finM_ret, finM_nx, finM_err, finI_ret, sRet, sRetN, sEx, andThen, sAs, sSeq, sIf, sNx, sPar, sPar3, sRaise, mIf, bIf, bAnd, bOr, bNot, tVal, tTru, tTru2, asB, truD, mOp2, mOp, mC, mV, mMv, rd, mCBV, mCB, mCall, mCallI, mFz, mNeg, mTup, mLst, aCons, aNil, mAndV, mOrV, mNotV, mSl, oNone, oSome, gSl,
  bnd_ok, bnd_er, got_ok, gNm, gTp, gsCons, gsNil, gSubL, mMut, fApp, fPop, iVal, iRng, rngD1, rngD2, itemsD, mCh, cLast, cLink, tYesD,
  List.map_cons, List.map_nil, List.length_cons, List.length_nil, List.replicate, List.cons_append, List.nil_append, List.append_nil, List.getElem?_cons_zero, List.getElem?_cons_succ, List.set_cons_zero, List.set_cons_succ, Option.map_some, Option.join_some, Option.isSome_some, Option.bind_some,
  noOwn_int, noOwn_bl, noOwn_str, noOwn_non, noOwn_ty, noOwn_lst, noOwn_tup, noOwn_dit, noOwns_nil, noOwns_cons, noOwns_ints, fz_int, fz_bl, fz_str, fz_non, if_true, if_false, Bool.and_self, Bool.and_true, Bool.true_and, Bool.false_and, Bool.and_false, decide_true, decide_false, Bool.false_eq_true,
  gAdd_int, gSub_int, gLt_int, gLe_int, gGt_int, gGe_int, gEqA_int, gNeA_int, gEqA_str, gNeA_str, gLen, gInt, gAbs, gSum, intsOf_map, reduceCtorEq, ne_eq, not_false_eq_true, not_true_eq_false, and_self, and_true, true_and, and_false, false_and, Nat.reduceAdd, Nat.reduceSub, Nat.reduceMul, Nat.reduceLT, Nat.reduceLeDiff, Nat.zero_add, Int.reduceNeg, Int.reduceLT, Int.reduceLE, Int.reduceAdd, Int.reduceSub, Int.reduceMul, Int.reduceEq, Int.reduceNe, m, cutD_one]
  obtain ⟨g, a1⟩ := a1
  have a2 : ∃ r : Nat, (iRng rngD1 (aCons (mCB gMax2 (aCons (mC (.int 2)) (aCons (mCB gMin2 (aCons (mC (.int 3)) (aCons (mCBV 0 gLen aNil) aNil))) aNil))) aNil)) [some (.lst .fix (ns.map D.int)), some (.bl g), none, none, none, none, none, none, none, none, none, none] = some (.ok (rangeD 0 1 r), [some (.lst .fix (ns.map D.int)), some (.bl g), none, none, none, none, none, none, none, none, none, none]) := by
    have e : ∃ r : Nat, r ≤ 10 ∧ aCons (mCB gMax2 (aCons (mC (.int 2)) (aCons (mCB gMin2 (aCons (mC (.int 3)) (aCons (mCBV 0 gLen aNil) aNil))) aNil))) aNil [some (.lst .fix (ns.map D.int)), some (.bl g), none, none, none, none, none, none, none, none, none, none] = some (.ok [.int r], [some (.lst .fix (ns.map D.int)), some (.bl g), none, none, none, none, none, none, none, none, none, none]) := by
      by_cases h : (ns.length : Int) < 3
      · refine ⟨2, by decide, ?_⟩
        have h1 : gMin2 [.int 3, .int (ns.map D.int).length] = some (.int ns.length) := by simp [gMin2]; omega
        have h2 : gMax2 [.int 2, .int ns.length] = some (.int 2) := by simp [gMax2]; omega
        simp only [finM_ret, finM_nx, finM_err, finI_ret, sRet, sRetN, sEx, andThen, sAs, sSeq, sIf, sNx, sPar, sPar3, sRaise, mIf, bIf, bAnd, bOr, bNot, tVal, tTru, tTru2, asB, truD, mOp2, mOp, mC, mV, mMv, rd, mCBV, mCB, mCall, mCallI, mFz, mNeg, mTup, mLst, aCons, aNil, mAndV, mOrV, mNotV, mSl, oNone, oSome, gSl,
  bnd_ok, bnd_er, got_ok, gNm, gTp, gsCons, gsNil, gSubL, mMut, fApp, fPop, iVal, iRng, rngD1, rngD2, itemsD, mCh, cLast, cLink, tYesD,
  List.map_cons, List.map_nil, List.length_cons, List.length_nil, List.replicate, List.cons_append, List.nil_append, List.append_nil, List.getElem?_cons_zero, List.getElem?_cons_succ, List.set_cons_zero, List.set_cons_succ, Option.map_some, Option.join_some, Option.isSome_some, Option.bind_some,
  noOwn_int, noOwn_bl, noOwn_str, noOwn_non, noOwn_ty, noOwn_lst, noOwn_tup, noOwn_dit, noOwns_nil, noOwns_cons, noOwns_ints, fz_int, fz_bl, fz_str, fz_non, if_true, if_false, Bool.and_self, Bool.and_true, Bool.true_and, Bool.false_and, Bool.and_false, decide_true, decide_false, Bool.false_eq_true,
  gAdd_int, gSub_int, gLt_int, gLe_int, gGt_int, gGe_int, gEqA_int, gNeA_int, gEqA_str, gNeA_str, gLen, gInt, gAbs, gSum, intsOf_map, reduceCtorEq, ne_eq, not_false_eq_true, not_true_eq_false, and_self, and_true, true_and, and_false, false_and, Nat.reduceAdd, Nat.reduceSub, Nat.reduceMul, Nat.reduceLT, Nat.reduceLeDiff, Nat.zero_add, Int.reduceNeg, Int.reduceLT, Int.reduceLE, Int.reduceAdd, Int.reduceSub, Int.reduceMul, Int.reduceEq, Int.reduceNe, h1, h2]
        rfl
      · refine ⟨3, by decide, ?_⟩
        have h1 : gMin2 [.int 3, .int (ns.map D.int).length] = some (.int 3) := by simp [gMin2]; omega
        have h2 : gMax2 [.int 2, .int 3] = some (.int 3) := by simp [gMax2]
        simp only [finM_ret, finM_nx, finM_err, finI_ret, sRet, sRetN, sEx, andThen, sAs, sSeq, sIf, sNx, sPar, sPar3, sRaise, mIf, bIf, bAnd, bOr, bNot, tVal, tTru, tTru2, asB, truD, mOp2, mOp, mC, mV, mMv, rd, mCBV, mCB, mCall, mCallI, mFz, mNeg, mTup, mLst, aCons, aNil, mAndV, mOrV, mNotV, mSl, oNone, oSome, gSl,
  bnd_ok, bnd_er, got_ok, gNm, gTp, gsCons, gsNil, gSubL, mMut, fApp, fPop, iVal, iRng, rngD1, rngD2, itemsD, mCh, cLast, cLink, tYesD,
  List.map_cons, List.map_nil, List.length_cons, List.length_nil, List.replicate, List.cons_append, List.nil_append, List.append_nil, List.getElem?_cons_zero, List.getElem?_cons_succ, List.set_cons_zero, List.set_cons_succ, Option.map_some, Option.join_some, Option.isSome_some, Option.bind_some,
  noOwn_int, noOwn_bl, noOwn_str, noOwn_non, noOwn_ty, noOwn_lst, noOwn_tup, noOwn_dit, noOwns_nil, noOwns_cons, noOwns_ints, fz_int, fz_bl, fz_str, fz_non, if_true, if_false, Bool.and_self, Bool.and_true, Bool.true_and, Bool.false_and, Bool.and_false, decide_true, decide_false, Bool.false_eq_true,
  gAdd_int, gSub_int, gLt_int, gLe_int, gGt_int, gGe_int, gEqA_int, gNeA_int, gEqA_str, gNeA_str, gLen, gInt, gAbs, gSum, intsOf_map, reduceCtorEq, ne_eq, not_false_eq_true, not_true_eq_false, and_self, and_true, true_and, and_false, false_and, Nat.reduceAdd, Nat.reduceSub, Nat.reduceMul, Nat.reduceLT, Nat.reduceLeDiff, Nat.zero_add, Int.reduceNeg, Int.reduceLT, Int.reduceLE, Int.reduceAdd, Int.reduceSub, Int.reduceMul, Int.reduceEq, Int.reduceNe, h1, h2]
        rfl
    obtain ⟨r, hr, e⟩ := e
    refine ⟨r, ?_⟩
    unfold iRng
    rw [e, bnd_ok, rngD1_int (by omega) (by omega), show (r : Int).toNat = r by omega]
    rfl
  obtain ⟨r, a2⟩ := a2
  obtain ⟨S', a3, x2, x3, x4, x5, x6, x7, x8, x9, x11, rfl⟩ := forL_range (g := gNm 2) (b := outB) (lo := 0) (n := r) (fun j S => ∃ x2 x3 x4 x5 x6 x7 x8 x9 x11, S = [some (.lst .fix (ns.map D.int)), some (.bl g), x2, x3, x4, x5, x6, x7, x8, x9, none, x11])
    (fun j S hj ⟨x2, x3, x4, x5, x6, x7, x8, x9, x11, hS⟩ => by
      subst hS
      obtain ⟨y3, y4, y5, y6, y7, y8, y9, y11, e⟩ := outB_ok (ns := ns) (g := g) (x3 := x3) (x4 := x4) (x5 := x5) (x6 := x6) (x7 := x7) (x8 := x8) (x9 := x9) (x11 := x11) j
      refine ⟨[some (.lst .fix (ns.map D.int)), some (.bl g), some (.int (j : Int)), x3, x4, x5, x6, x7, x8, x9, none, x11], _, ?_, e, _, _, _, _, _, _, _, _, _, rfl⟩
      rw [Int.zero_add]
      rfl) (S := [some (.lst .fix (ns.map D.int)), some (.bl g), none, none, none, none, none, none, none, none, none, none]) ⟨none, none, none, none, none, none, none, none, none, rfl⟩
  rw [u_law, law_eq, seq_nx a1, seq_nx (for_of a2 a3)]
  rfl
end
end Fk07

set_option maxHeartbeats 0
namespace Fk07
open PySem PySem.Spec PyProof.Rows L2 Fx
abbrev R : PySem.W.OpenRow := PySem.W.OpenLaw.row L
def d__law_box : He.DefD := ⟨("_law_box", none), "_law_box", "_law_box", defArgs (top 25), defBody (top 25), defScope (top 25), [], []⟩
def d__law_cell : He.DefD := ⟨("_law_cell", none), "_law_cell", "_law_cell", defArgs (top 24), defBody (top 24), defScope (top 24), [], []⟩
def d__law_take : He.DefD := ⟨("_law_take", none), "_law_take", "_law_take", defArgs (top 26), defBody (top 26), defScope (top 26), [], []⟩
def d__law_turned : He.DefD := ⟨("_law_turned", none), "_law_turned", "_law_turned", defArgs (top 32), defBody (top 32), defScope (top 32), [], []⟩
def d__law_home : He.DefD := ⟨("_law_home", none), "_law_home", "_law_home", defArgs (top 33), defBody (top 33), defScope (top 33), [], []⟩
def d__law_signs : He.DefD := ⟨("_law_signs", none), "_law_signs", "_law_signs", defArgs (top 34), defBody (top 34), defScope (top 34), [], []⟩
def d__law_numbers : He.DefD := ⟨("_law_numbers", none), "_law_numbers", "_law_numbers", defArgs (top 29), defBody (top 29), defScope (top 29), [], []⟩
def d__law_strip : He.DefD := ⟨("_law_strip", none), "_law_strip", "_law_strip", defArgs (top 30), defBody (top 30), defScope (top 30), [], []⟩
def d__law_drawn : He.DefD := ⟨("_law_drawn", none), "_law_drawn", "_law_drawn", defArgs (top 28), defBody (top 28), defScope (top 28), [], []⟩
def d__law_counted : He.DefD := ⟨("_law_counted", none), "_law_counted", "_law_counted", defArgs (top 31), defBody (top 31), defScope (top 31), [], []⟩
def d__law_like : He.DefD := ⟨("_law_like", none), "_law_like", "_law_like", defArgs (top 27), defBody (top 27), defScope (top 27), [], []⟩
def d_is_strip : He.DefD := ⟨("is_strip", none), "is_strip", "is_strip", defArgs (top 9), defBody (top 9), defScope (top 9), [], []⟩
def d_check_strip : He.DefD := ⟨("check_strip", none), "check_strip", "check_strip", defArgs (top 10), defBody (top 10), defScope (top 10), [], []⟩
def d_turned_by : He.DefD := ⟨("turned_by", none), "turned_by", "turned_by", defArgs (top 14), defBody (top 14), defScope (top 14), [], []⟩
def d_walk_of : He.DefD := ⟨("walk_of", none), "walk_of", "walk_of", defArgs (top 15), defBody (top 15), defScope (top 15), [], []⟩
def d_last_corners : He.DefD := ⟨("last_corners", none), "last_corners", "last_corners", defArgs (top 16), defBody (top 16), defScope (top 16), [], []⟩
def d_folds_of : He.DefD := ⟨("folds_of", none), "folds_of", "folds_of", defArgs (top 20), defBody (top 20), defScope (top 20), [], []⟩
def d_folds : He.DefD := ⟨("folds", none), "folds", "folds", defArgs (top 21), defBody (top 21), defScope (top 21), [], []⟩
def d_why_not : He.DefD := ⟨("why_not", none), "why_not", "why_not", defArgs (top 22), defBody (top 22), defScope (top 22), [], []⟩
def d__law_call : He.DefD := ⟨("_law_call", none), "_law_call", "_law_call", defArgs (top 35), defBody (top 35), defScope (top 35), [], []⟩
def d__law_right : He.DefD := ⟨("_law_right", none), "_law_right", "_law_right", defArgs (top 36), defBody (top 36), defScope (top 36), [], []⟩
def d_law : He.DefD := ⟨("law", none), "law", "law", defArgs (top 37), defBody (top 37), defScope (top 37), [], []⟩
abbrev sIni : Stmt := inClass (top 2) 0
def d_ini : He.DefD := ⟨("InvalidStrip", some "__init__"), "__init__", "InvalidStrip.__init__", defArgs sIni, defBody sIni, defScope sIni, [], []⟩
def fn : List He.DefD := [d__law_box, d__law_cell, d__law_take, d__law_turned, d__law_home, d__law_signs, d__law_numbers, d__law_strip, d__law_drawn, d__law_counted, d__law_like, d_is_strip, d_check_strip, d_turned_by, d_walk_of, d_last_corners, d_folds_of, d_folds, d_why_not, d__law_call, d__law_right, d_law, d_ini]
def fa : List He.Fa := [.glo "_law_box", .glo "_law_cell", .glo "_law_take", .glo "_law_turned", .glo "_law_home", .glo "_law_signs", .glo "_law_numbers", .glo "_law_strip", .glo "_law_drawn", .glo "_law_counted", .glo "_law_like", .glo "is_strip", .glo "check_strip", .glo "turned_by", .glo "walk_of", .glo "last_corners", .glo "folds_of", .glo "folds", .glo "why_not", .glo "_law_call", .glo "_law_right", .glo "law", .glo "FlexError", .glo "InvalidStrip", .free "abs", .free "int", .free "len", .free "sum", .free "range", .free "tuple", .free "sorted", .free "list", .free "isinstance", .free "bool", .free "str", .free "dict", .free "all", .free "max", .free "min", .int "LEAST_FACES" 3, .int "MOST_FACES" 24, .str "STRAIGHT" "+", .str "AWAY" "away", .str "BENT" "bent"]
def ex (K : PySem.W.Frag) : Bool := tupB K "SIGNS" [V.str "+", V.str "-"] && (tupB K "HOME" [V.int 0, V.int 1, V.int 2] && (initB K (He.ga K "FlexError") && errB K (He.ga K "InvalidStrip") (He.fAd K ("InvalidStrip", some "__init__")) ["given"]))
abbrev hk : PySem.W.Hook := hookF 5 fa fn ex
def ob (s : PySem.W.SharedT) : AlF := obsF 5 fa fn ex (HandSHeadRun.getT s)
theorem ob_eq (s : PySem.W.SharedT) : ob s = hk.obs s.abs := obsF_eq (HandSHeadRun.getT_eq s)
def loose : List PySem.Str := (L.prog.main.scope.names.filter fun p => decide (p.2 = PySem.NameKind.local) && !(decide (p.1 = ("law" : PySem.Str)) || decide (p.1 = ("__name__" : PySem.Str)))).map (·.1)
theorem run (w : World) : HandSHeadRun.RunEq R (PySem.W.view R.prog [37]) hk ob 4000 loose w := by
  intro os
  kernel_rfl
end Fk07

set_option maxHeartbeats 0
namespace Fk07
open PySem PySem.Spec PyProof.Rows L2 Fx
section
variable {P : Program} {w : World} {K : PySem.W.Frag} {h : Heap} {mg : Str → Option Value} {base : Heap}
theorem en (X : K.In h) (G : h.Ns mainGlobals mg) (c : He.SaysD fa fn K) (e : ex K = true) : En K mg := by
  unfold ex at e
  simp only [Bool.and_eq_true] at e
  obtain ⟨e1, e2, _, _⟩ := e
  exact {
    m_abs := He.free_ok X G (c.fact 24 (f := .free "abs") rfl)
    m_int := He.free_ok X G (c.fact 25 (f := .free "int") rfl)
    m_len := He.free_ok X G (c.fact 26 (f := .free "len") rfl)
    m_sum := He.free_ok X G (c.fact 27 (f := .free "sum") rfl)
    m_range := He.free_ok X G (c.fact 28 (f := .free "range") rfl)
    m_tuple := He.free_ok X G (c.fact 29 (f := .free "tuple") rfl)
    m_sorted := He.free_ok X G (c.fact 30 (f := .free "sorted") rfl)
    m_list := He.free_ok X G (c.fact 31 (f := .free "list") rfl)
    m_isinstance := He.free_ok X G (c.fact 32 (f := .free "isinstance") rfl)
    m_bool := He.free_ok X G (c.fact 33 (f := .free "bool") rfl)
    m_str := He.free_ok X G (c.fact 34 (f := .free "str") rfl)
    m_dict := He.free_ok X G (c.fact 35 (f := .free "dict") rfl)
    m_all := He.free_ok X G (c.fact 36 (f := .free "all") rfl)
    m_max := He.free_ok X G (c.fact 37 (f := .free "max") rfl)
    m_min := He.free_ok X G (c.fact 38 (f := .free "min") rfl)
    g_LEAST_FACES := glo_int (He.int_ok X G (c.fact 39 (f := .int "LEAST_FACES" 3) rfl))
    g_MOST_FACES := glo_int (He.int_ok X G (c.fact 40 (f := .int "MOST_FACES" 24) rfl))
    g_STRAIGHT := glo_str (He.str_ok X G (c.fact 41 (f := .str "STRAIGHT" "+") rfl))
    g_AWAY := glo_str (He.str_ok X G (c.fact 42 (f := .str "AWAY" "away") rfl))
    g_BENT := glo_str (He.str_ok X G (c.fact 43 (f := .str "BENT" "bent") rfl))
    g_SIGNS := glo_tup X G e1 rfl (by decide)
    g_HOME := glo_tup X G e2 rfl (by decide) }
theorem scIni : FnScope ["self", "given"] ["self", "given"] (defScope sIni) := ⟨rfl, rfl, rfl, by decide +kernel, rfl, by decide +kernel, by decide +kernel⟩
theorem erd {fd : FuncData} (X : K.In h) (G : h.Ns mainGlobals mg) (c : He.SaysD fa fn K) (e : ex K = true) (F : FunD K "__init__" "InvalidStrip.__init__" (defArgs sIni) (defBody sIni) (defScope sIni) [] [] (He.fAd K ("InvalidStrip", some "__init__")) fd) :
    ErD P w K mg base "InvalidStrip" "given" (He.ga K "InvalidStrip") (He.fAd K ("InvalidStrip", some "__init__")) fd ["self", "given"] := by
  unfold ex at e
  simp only [Bool.and_eq_true] at e
  obtain ⟨_, _, e3, e4⟩ := e
  have T := errB_ok e4
  exact {
    m := (He.glo_ok X G (c.fact 23 (f := .glo "InvalidStrip") rfl))
    T := T
    F := ok_ini (k := 0) (nm := "x") (fI := 0) F scIni (initB_ok e3) (He.glo_ok X G (c.fact 22 (f := .glo "FlexError") rfl)) T.oex (T.nof "given" (by simp)) (fun _ _ _ _ _ _ => rfl) rfl (fun _ hs => .inl (by rw [hs]; rfl)) (fun _ hs => .inl (by rw [hs]; rfl)) rfl rfl rfl rfl _ (fun _ _ => rfl) (fun _ hs => by rfl) (fun _ hs => by rfl)
    b := F.bindsN fun _ _ _ _ _ _ us hl => match us, hl with | [_, _], _ => rfl }
theorem facts {f : Addr} (X : K.In h) (G : h.Ns mainGlobals mg) (hfa : mg ("law" : Str) = some (.ref f)) (c : He.SaysD fa fn K) (e : ex K = true) :
    ∃ fd : FuncData, (∀ (s : Shared) (v : Value), BindsTo s fd ⟨[v], []⟩ [("script", v)]) ∧ ∀ base : Heap, K.In base → base.Ns mainGlobals mg → FnOk P w K mg base (L2.CX P w) 8 f fd ["script"] (SpD K mg 1 m_law) := by
  obtain ⟨fd__law_box, F__law_box⟩ := c.def_ 0 (d := d__law_box) rfl
  obtain ⟨fd__law_cell, F__law_cell⟩ := c.def_ 1 (d := d__law_cell) rfl
  obtain ⟨fd__law_take, F__law_take⟩ := c.def_ 2 (d := d__law_take) rfl
  obtain ⟨fd__law_turned, F__law_turned⟩ := c.def_ 3 (d := d__law_turned) rfl
  obtain ⟨fd__law_home, F__law_home⟩ := c.def_ 4 (d := d__law_home) rfl
  obtain ⟨fd__law_signs, F__law_signs⟩ := c.def_ 5 (d := d__law_signs) rfl
  obtain ⟨fd__law_numbers, F__law_numbers⟩ := c.def_ 6 (d := d__law_numbers) rfl
  obtain ⟨fd__law_strip, F__law_strip⟩ := c.def_ 7 (d := d__law_strip) rfl
  obtain ⟨fd__law_drawn, F__law_drawn⟩ := c.def_ 8 (d := d__law_drawn) rfl
  obtain ⟨fd__law_counted, F__law_counted⟩ := c.def_ 9 (d := d__law_counted) rfl
  obtain ⟨fd__law_like, F__law_like⟩ := c.def_ 10 (d := d__law_like) rfl
  obtain ⟨fd_is_strip, F_is_strip⟩ := c.def_ 11 (d := d_is_strip) rfl
  obtain ⟨fd_check_strip, F_check_strip⟩ := c.def_ 12 (d := d_check_strip) rfl
  obtain ⟨fd_turned_by, F_turned_by⟩ := c.def_ 13 (d := d_turned_by) rfl
  obtain ⟨fd_walk_of, F_walk_of⟩ := c.def_ 14 (d := d_walk_of) rfl
  obtain ⟨fd_last_corners, F_last_corners⟩ := c.def_ 15 (d := d_last_corners) rfl
  obtain ⟨fd_folds_of, F_folds_of⟩ := c.def_ 16 (d := d_folds_of) rfl
  obtain ⟨fd_folds, F_folds⟩ := c.def_ 17 (d := d_folds) rfl
  obtain ⟨fd_why_not, F_why_not⟩ := c.def_ 18 (d := d_why_not) rfl
  obtain ⟨fd__law_call, F__law_call⟩ := c.def_ 19 (d := d__law_call) rfl
  obtain ⟨fd__law_right, F__law_right⟩ := c.def_ 20 (d := d__law_right) rfl
  obtain ⟨fd_law, F_law⟩ := c.def_ 21 (d := d_law) rfl
  obtain ⟨fd_ini, F_ini⟩ := c.def_ 22 (d := d_ini) rfl
  have ee := hfa.symm.trans (He.glo_ok X G (c.fact 21 (f := .glo "law") rfl))
  cases ee
  have N := en X G c e
  have b := FunD.bindsA (ps := ["script"]) F_law fun _ _ _ _ _ _ us hl => match us, hl with | [_], _ => rfl
  refine ⟨fd_law, fun s v => b s [v] rfl, fun base _ _ => ?_⟩
  have E_InvalidStrip := erd (P := P) (w := w) (base := base) X G c e F_ini
  have C__law_box := ok__law_box (P := P) (w := w) (base := base) N F__law_box (He.glo_ok X G (c.fact 0 (f := .glo "_law_box") rfl))
  have C__law_cell := ok__law_cell (P := P) (w := w) (base := base) N F__law_cell (He.glo_ok X G (c.fact 1 (f := .glo "_law_cell") rfl))
  have C__law_take := ok__law_take (P := P) (w := w) (base := base) N F__law_take (He.glo_ok X G (c.fact 2 (f := .glo "_law_take") rfl))
  have C__law_turned := ok__law_turned (P := P) (w := w) (base := base) N F__law_turned (He.glo_ok X G (c.fact 3 (f := .glo "_law_turned") rfl))
  have C__law_home := ok__law_home (P := P) (w := w) (base := base) N C__law_turned F__law_home (He.glo_ok X G (c.fact 4 (f := .glo "_law_home") rfl))
  have C__law_signs := ok__law_signs (P := P) (w := w) (base := base) N C__law_take C__law_home F__law_signs (He.glo_ok X G (c.fact 5 (f := .glo "_law_signs") rfl))
  have C__law_numbers := ok__law_numbers (P := P) (w := w) (base := base) N F__law_numbers (He.glo_ok X G (c.fact 6 (f := .glo "_law_numbers") rfl))
  have C__law_strip := ok__law_strip (P := P) (w := w) (base := base) N C__law_numbers F__law_strip (He.glo_ok X G (c.fact 7 (f := .glo "_law_strip") rfl))
  have C__law_drawn := ok__law_drawn (P := P) (w := w) (base := base) N C__law_take F__law_drawn (He.glo_ok X G (c.fact 8 (f := .glo "_law_drawn") rfl))
  have C__law_counted := ok__law_counted (P := P) (w := w) (base := base) N F__law_counted (He.glo_ok X G (c.fact 9 (f := .glo "_law_counted") rfl))
  have C__law_like := ok__law_like (P := P) (w := w) (base := base) N F__law_like (He.glo_ok X G (c.fact 10 (f := .glo "_law_like") rfl))
  have C_is_strip := ok_is_strip (P := P) (w := w) (base := base) N F_is_strip (He.glo_ok X G (c.fact 11 (f := .glo "is_strip") rfl))
  have C_check_strip := ok_check_strip (P := P) (w := w) (base := base) N C_is_strip E_InvalidStrip F_check_strip (He.glo_ok X G (c.fact 12 (f := .glo "check_strip") rfl))
  have C_turned_by := ok_turned_by (P := P) (w := w) (base := base) N F_turned_by (He.glo_ok X G (c.fact 13 (f := .glo "turned_by") rfl))
  have C_walk_of := ok_walk_of (P := P) (w := w) (base := base) N C_turned_by F_walk_of (He.glo_ok X G (c.fact 14 (f := .glo "walk_of") rfl))
  have C_last_corners := ok_last_corners (P := P) (w := w) (base := base) N C_walk_of F_last_corners (He.glo_ok X G (c.fact 15 (f := .glo "last_corners") rfl))
  have C_folds_of := ok_folds_of (P := P) (w := w) (base := base) N C_last_corners F_folds_of (He.glo_ok X G (c.fact 16 (f := .glo "folds_of") rfl))
  have C_folds := ok_folds (P := P) (w := w) (base := base) N C_check_strip C_folds_of F_folds (He.glo_ok X G (c.fact 17 (f := .glo "folds") rfl))
  have C_why_not := ok_why_not (P := P) (w := w) (base := base) N C_check_strip C_last_corners F_why_not (He.glo_ok X G (c.fact 18 (f := .glo "why_not") rfl))
  have C__law_call := ok__law_call (P := P) (w := w) (base := base) N C_folds C_why_not E_InvalidStrip F__law_call (He.glo_ok X G (c.fact 19 (f := .glo "_law_call") rfl))
  have C__law_right := ok__law_right (P := P) (w := w) (base := base) N C__law_home C__law_counted C__law_like C__law_call F__law_right (He.glo_ok X G (c.fact 20 (f := .glo "_law_right") rfl))
  have C_law := ok_law (P := P) (w := w) (base := base) N C__law_box C__law_cell C__law_take C__law_signs C__law_strip C__law_drawn C__law_right C__law_like C__law_call F_law (He.glo_ok X G (c.fact 21 (f := .glo "law") rfl))
  exact C_law.G
end
/-- a law's last step, where the exceptions' word hangs on the world -/
theorem walk_w {l : PySem.W.OpenLaw} {n k : Nat} {q : Program} {loose : List Str} {XP : (Str → Option Value) → Heap → Prop} {YP : World → Heap → Prop} {d : DefRec} {CX : World → CXT} {x : Str} (h1 : l.most = some n) (h2 : n ≤ sizeLine) (h3 : d.params.defaults = []) (h4 : Room k callerA)
    (F : ∀ (w : World) (mg : Str → Option Value) (fa : Addr) (h : Heap), YP w h → h.Ns mainGlobals mg → mg d.name = some (.ref fa) → ∃ (K : PySem.W.Frag) (fd : FuncData) (sp : Sp), K.In h ∧ (∀ (s : Shared) (u : Value), BindsTo s fd ⟨[u], []⟩ [(x, u)]) ∧
        (∀ (H : Hp) (a : Addr) (ns : List Int), ns.length ≤ n → Only H → SqL K H a (ns.map V.int) → sp [.ref a] H (fun v _ => v = .bl true) fun _ _ _ => False) ∧ ∀ base : Heap, K.In base → base.Ns mainGlobals mg → FnOk l.prog w K mg base (CX w) k fa fd [x] sp)
    (h5 : ∀ (w : World) (H : Hp) (s : Shared) (e : Value) (s' : Shared), CX w [] H s (fun _ _ _ => False) e s' → False) : PySem.W.WalkO q loose XP YP l.row.toRowW d [] (fun f vs => PySem.call f vs) :=
  Att.attach_call h1 h3 fun w s₀ s₁ mg mb fa o pm cd doc a vs ns G Y ho hd hcd hmg hobj hints hlen hg =>
    have ⟨_, _, _, KX, hb, hsp, hF⟩ := F w mg fa _ Y G.T.g hmg
    law_call KX G.T.g G.T.b G.T.builtins G.T.nolimit hg hobj hints (Nat.le_trans hlen h2) h4 hF hb (fun H hO hS => hsp H a ns hlen hO hS) fun H e s' => h5 w H s₁ e s'
theorem cx_no {P : Program} {w : World} {H : Hp} {s : Shared} {e : Value} {s' : Shared} (h : L2.CX P w [] H s (fun _ _ _ => False) e s') : False := by
  obtain ⟨a, B, H', cls, d, _, _, _, _, _, _, _, hE⟩ := h
  exact hE
theorem law_sp {K : PySem.W.Frag} {mg : Str → Option Value} {H : Hp} {a : Addr} {ns : List Int} (hS : SqL K H a (ns.map V.int)) : SpD K mg 1 m_law [.ref a] H (fun v _ => v = .bl true) fun _ _ _ => False :=
  ⟨H, fun _ => none, [.lst .fix (ns.map D.int)], [], (.ok (.bl true), none), fun _ _ z => (nomatch z), ⟨Same.refl _, Same.refl _, fun _ _ z => (nomatch z), fun _ _ z => (nomatch z)⟩, Rps.cons (.fix hS (ints_rp ns)) .nil, List.nodup_nil, fun _ z => (nomatch z), rfl, law_ok ns, fun v H' HB' F G _ r _ _ _ => by cases r; rfl⟩
end Fk07
open PySem PySem.W PySem.Calls PyProof.Rows
theorem PySem.Challenge.cw_flexhouse_k07_whole_which_strips_fold_holds : PySem.Challenge.rw_flexhouse_k07_whole_which_strips_fold.Holds := by
  w_on; o_law
  refine HandSHeadRun.head_any (r := Fk07.R) (q := view (Fk07.R).prog [37]) (H := Fk07.hk) (ob := Fk07.ob) (M := 4000) (loose := Fk07.loose) (d := HandSHeadRun.topDef (Fk07.R).prog 37) (kwd := []) Fk07.ob_eq
    (by kernel_rfl) (fun s => by kernel_rfl) Fk07.run (by kernel_rfl) (by kernel_rfl) (by kernel_rfl) (by rfl) (by first | assumption | decide +kernel) (by decide +kernel) ⟨rfl, rfl, rfl, rfl, rfl, by decide +kernel⟩ ?hw ?hc
  case hw => w_witness2
  case hc =>
    refine Fk07.walk_w (l := PySem.Challenge.rw_flexhouse_k07_whole_which_strips_fold) (n := 63) (k := 8) (x := "script") (CX := L2.CX (PySem.Challenge.rw_flexhouse_k07_whole_which_strips_fold).prog) rfl (by decide) (by kernel_rfl) ⟨rfl, by decide, by decide⟩ ?F (fun _ _ _ _ _ z => Fk07.cx_no z)
    intro w mg fa h Y G hmg0
    obtain ⟨K, KX, c, e⟩ := Y
    have hmg : mg ("law" : PySem.Str) = some (.ref fa) := by
      have e : (HandSHeadRun.topDef (Fk07.R).prog 37).name = ("law" : PySem.Str) := by kernel_rfl
      rw [← e]
      exact hmg0
    obtain ⟨fd, hb, hF⟩ := Fk07.facts (P := (PySem.Challenge.rw_flexhouse_k07_whole_which_strips_fold).prog) (w := w) KX G hmg c e
    exact ⟨K, fd, Fx.SpD K mg 1 Fk07.m_law, KX, hb, fun H a ns _ _ hS => Fk07.law_sp hS, hF⟩
