import PyProof.Rows.All
import Wide.All
import OpenK.AllK
import Wide.FinOn
import HandS.ForMost
import HandS.Deep
import HandS.TupAny
import HandS.SlotsVar
import HandS.Star
import HandS.Zip
import HandS.Conv
import HandS.Wide
import HandS.TupLe
import HandS.IsInst
import PyProof.Rows.RuleB_pow
import HandS.Style
import HandS.Flow
import HandS.HeadHook2
import HandS.HeadHook4
import HandS.Lambda
import HandS.EndTab
import HandS.Words
import HandS.Defaults
import KE.SortCalls
import KE.SortData
import KE.LtData
import KE.LtSeq
import HandS.TupSets
import KE.DataMinMax
import HandS.DictComp
import HandS.HeadHook1
import HandS.Head0
import HandS.Codes
import HandS.Nested
import KE.SortKeyHeap
import HandS.HeadWalk
import KE.OsArith
import KE.KStateDown
import Lean
import HandS.Base
import HandS.Call
import HandS.Ends
import HandS.More
import HandS.WordsExc
import HandS.Head1
import HandS.Head2
import HandS.HeadEnd
import PySem.Challenge.RW_nextbest_k30_whole_how_far_the_next_best
set_option Elab.async false
set_option linter.all false
set_option maxRecDepth 100000
set_option maxHeartbeats 1000000
namespace MX
set_option autoImplicit false
open PySem PySem.Spec L2
/-! ### own values, own heap -/
abbrev Pd := PyData
/-- a value: none yet; pure data (tuples by value); an object; a tuple that holds objects; the script -/
inductive Mv where
  | und
  | p (x : Pd)
  | loc (n : Nat)
  | tl (ds : List Mv)
  | fl (ns : List Int)
  | ct (x : Pd)
/-- an object: a list, a dict, an instance (its slots) -/
inductive Mo where
  | lst (ds : List Mv)
  | dct (t : Bool) (kvs : List (Pd × Mv))
  | ins (C : Str) (fs : List (Option Mv))
abbrev Hq := List Mo
abbrev En := List Mv
abbrev ME := En → Hq → Option (Mv × Hq)
abbrev Mv.int (i : Int) : Mv := .p (.int i)
abbrev Mv.bl (b : Bool) : Mv := .p (.bool b)
abbrev Mv.non : Mv := .p .none
abbrev Mv.str (s : Str) : Mv := .p (.str s)

/-! ### what they stand for -/
mutual
inductive RP (K : PySem.W.Frag) (H : Hp) : Pd → V → Prop
  | non : RP K H .none .non
  | bl (b : Bool) : RP K H (.bool b) (.bl b)
  | int (i : Int) : RP K H (.int i) (.int i)
  | str (x : Str) : RP K H (.str x) (.str x)
  | tup {a : Addr} {xs : List V} {ds : List Pd} : H a = some (.tup xs) → RPs K H ds xs → RP K H (.tuple ds) (.ref a)
inductive RPs (K : PySem.W.Frag) (H : Hp) : List Pd → List V → Prop
  | nil : RPs K H [] []
  | cons {v : V} {vs : List V} {d : Pd} {ds : List Pd} : RP K H d v → RPs K H ds vs → RPs K H (d :: ds) (v :: vs)
end
/-- a tuple of the module -/
def KTup (K : PySem.W.Frag) (a : Addr) (xs : List V) : Prop := ∃ (o : Obj) (its : Array Value) (n : Nat), K.lookup a = some o ∧ o.cls = .type "tuple" ∧ o.data = .seq its n ∧ its.size ≤ sizeLine ∧ Vals xs its.toList
mutual
inductive RC (K : PySem.W.Frag) : Pd → V → Prop
  | non : RC K .none .non
  | bl (b : Bool) : RC K (.bool b) (.bl b)
  | int (i : Int) : RC K (.int i) (.int i)
  | str (x : Str) : RC K (.str x) (.str x)
  | tup {a : Addr} {xs : List V} {ds : List Pd} : KTup K a xs → RCs K ds xs → RC K (.tuple ds) (.ref a)
inductive RCs (K : PySem.W.Frag) : List Pd → List V → Prop
  | nil : RCs K [] []
  | cons {v : V} {vs : List V} {d : Pd} {ds : List Pd} : RC K d v → RCs K ds vs → RCs K (d :: ds) (v :: vs)
end
/-- a list that nobody writes -/
def FrL (K : PySem.W.Frag) (H : Hp) (a : Addr) (xs : List V) : Prop := (∃ o, H a = some (.frz o (.lst xs))) ∨
  ∃ (o : Obj) (its : Array Value) (n : Nat), K.lookup a = some o ∧ o.cls = .type "list" ∧ o.dict = none ∧ o.data = .seq its n ∧ its.size ≤ sizeLine ∧ Vals xs its.toList
mutual
inductive RV (K : PySem.W.Frag) (φ : List Addr) (H : Hp) : Mv → V → Prop
  | p {x : Pd} {v : V} : RP K H x v → RV K φ H (.p x) v
  | loc {n : Nat} {a : Addr} : φ[n]? = some a → RV K φ H (.loc n) (.ref a)
  | tl {a : Addr} {xs : List V} {ds : List Mv} : H a = some (.tup xs) → RVs K φ H ds xs → RV K φ H (.tl ds) (.ref a)
  | fl {a : Addr} {ns : List Int} : FrL K H a (ns.map V.int) → RV K φ H (.fl ns) (.ref a)
  | ct {x : Pd} {v : V} : RC K x v → RV K φ H (.ct x) v
inductive RVs (K : PySem.W.Frag) (φ : List Addr) (H : Hp) : List Mv → List V → Prop
  | nil : RVs K φ H [] []
  | cons {v : V} {vs : List V} {d : Mv} {ds : List Mv} : RV K φ H d v → RVs K φ H ds vs → RVs K φ H (d :: ds) (v :: vs)
end
/-- a key of a dict -/
def kOf : Pd → Option Key
  | .int i => some (.inl i)
  | .str s => some (.inr s)
  | _ => none
def kOfs : List Pd → Option (List Key)
  | [] => some []
  | d :: ds => match kOf d, kOfs ds with
    | some k, some ks => some (k :: ks)
    | _, _ => none
def kTup : Pd → Option (List Key)
  | .tuple ds => kOfs ds
  | _ => none
inductive RKv (K : PySem.W.Frag) (φ : List Addr) (H : Hp) {κ : Type} (f : Pd → Option κ) : List (Pd × Mv) → List (κ × V) → Prop
  | nil : RKv K φ H f [] []
  | cons {k : Pd} {d : Mv} {r : List (Pd × Mv)} {q : κ} {v : V} {s : List (κ × V)} : f k = some q → RV K φ H d v → RKv K φ H f r s → RKv K φ H f ((k, d) :: r) ((q, v) :: s)
inductive RFs (K : PySem.W.Frag) (φ : List Addr) (H : Hp) : List (Option Mv) → List (Option V) → Prop
  | nil : RFs K φ H [] []
  | skip {ds : List (Option Mv)} {vs : List (Option V)} {o : Option V} : RFs K φ H ds vs → RFs K φ H (none :: ds) (o :: vs)
  | cons {d : Mv} {v : V} {ds : List (Option Mv)} {vs : List (Option V)} : RV K φ H d v → RFs K φ H ds vs → RFs K φ H (some d :: ds) (some v :: vs)
def RO (K : PySem.W.Frag) (φ : List Addr) (H : Hp) (a : Addr) : Mo → Prop
  | .lst ds => ∃ vs, H a = some (.lst vs) ∧ RVs K φ H ds vs
  | .dct false kvs => ∃ ks, H a = some (.dK ks) ∧ RKv K φ H kOf kvs ks
  | .dct true kvs => ∃ ks, H a = some (.dT ks) ∧ RKv K φ H kTup kvs ks
  | .ins C fs => ∃ dx vs, L2.SlAt H a (He.ga K C) dx vs ∧ RFs K φ H fs vs
/-- the defs that hold a lambda: their tables of code objects, the lambda's name -/
def lamNames : List Str := ["told_next", "told_ranked", "ranked", "told_covers", "covers_told", "told_heaviest"]
def tabsOf (K : PySem.W.Frag) : List (Addr × Str) := (lamNames.map fun n => ((He.cT K (n, none)).2, n ++ ".<locals>." ++ "<lambda>")).filter fun p => p.1 != 0
structure RH (K : PySem.W.Frag) (φ : List Addr) (h : Hq) (H : Hp) : Prop where
  tb : LamX.Tabs (tabsOf K) H
  len : φ.length = h.length
  nd : φ.Nodup
  ob : ∀ (n : Nat) (o : Mo), h[n]? = some o → ∃ a, φ[n]? = some a ∧ RO K φ H a o
def RE (K : PySem.W.Frag) (φ : List Addr) (H : Hp) (e : En) (σ : St) : Prop :=
  e.length = σ.length ∧ ∀ (i : Nat) (d : Mv), e[i]? = some d → d = .und ∨ ∃ v, σ[i]? = some (some v) ∧ RV K φ H d v
/-- what never changes -/
def Imm : HO → Prop
  | .tup _ => True
  | .frz _ _ => True
  | .own _ => True
  | .ext φ => ∃ c q, HO.ext φ = LamX.CodeO c q
  | _ => False
def HK (H H' : Hp) : Prop := ∀ a o, Imm o → H a = some o → H' a = some o
theorem HK.refl (H : Hp) : HK H H := fun _ _ _ h => h
theorem HK.trans {H H1 H2 : Hp} (a : HK H H1) (b : HK H1 H2) : HK H H2 := fun c o i h => b c o i (a c o i h)
theorem HK.new {H : Hp} {p : Addr} {o : HO} (h : H p = none) : HK H (upd H p o) := fun b u i e => by rw [upd_ne (ne_of_none e h)]; exact e
theorem HK.put {H : Hp} {p : Addr} {o u : HO} (h : H p = some u) (n : ¬ Imm u) : HK H (upd H p o) := fun b w i e => by
  rw [upd_ne]
  · exact e
  · intro z; subst z; rw [h] at e; cases e; exact n i
section
variable {K : PySem.W.Frag} {φ φ' : List Addr} {H H' : Hp} {h h' : Hq} {e : En} {σ : St}
theorem HK.seqT (k : HK H H') {a : Addr} {xs : List V} (s : SqT K H a xs) : SqT K H' a xs := by
  rcases s with (s | ⟨o, s⟩) | s
  · exact .inl (.inl (k _ _ trivial s))
  · exact .inl (.inr ⟨o, k _ _ trivial s⟩)
  · exact .inr s
theorem HK.frL (k : HK H H') {a : Addr} {xs : List V} (s : FrL K H a xs) : FrL K H' a xs := by
  rcases s with ⟨o, s⟩ | s
  · exact .inl ⟨o, k _ _ trivial s⟩
  · exact .inr s
theorem FrL.seq {a : Addr} {xs : List V} (s : FrL K H a xs) : SqL K H a xs := by
  rcases s with ⟨o, s⟩ | s
  · exact .inl (.inr ⟨o, s⟩)
  · exact .inr s
mutual
theorem RP.mono (k : HK H H') : ∀ {d : Pd} {v : V}, RP K H d v → RP K H' d v
  | _, _, .non => .non
  | _, _, .bl b => .bl b
  | _, _, .int i => .int i
  | _, _, .str x => .str x
  | _, _, .tup s r => .tup (k _ _ trivial s) (RPs.mono k r)
theorem RPs.mono (k : HK H H') : ∀ {ds : List Pd} {vs : List V}, RPs K H ds vs → RPs K H' ds vs
  | _, _, .nil => .nil
  | _, _, .cons r s => .cons (RP.mono k r) (RPs.mono k s)
end
theorem pre_get {φ φ' : List Addr} (q : φ <+: φ') {n : Nat} {a : Addr} (h : φ[n]? = some a) : φ'[n]? = some a := by
  obtain ⟨t, rfl⟩ := q
  have hl : n < φ.length := (List.getElem?_eq_some_iff.mp h).1
  rw [List.getElem?_append_left hl]; exact h
mutual
theorem RV.mono (q : φ <+: φ') (k : HK H H') : ∀ {d : Mv} {v : V}, RV K φ H d v → RV K φ' H' d v
  | _, _, .p r => .p (r.mono k)
  | _, _, .loc h => .loc (pre_get q h)
  | _, _, .tl s r => .tl (k _ _ trivial s) (RVs.mono q k r)
  | _, _, .fl s => .fl (k.frL s)
  | _, _, .ct r => .ct r
theorem RVs.mono (q : φ <+: φ') (k : HK H H') : ∀ {ds : List Mv} {vs : List V}, RVs K φ H ds vs → RVs K φ' H' ds vs
  | _, _, .nil => .nil
  | _, _, .cons r s => .cons (RV.mono q k r) (RVs.mono q k s)
end
theorem RKv.mono (q : φ <+: φ') (k : HK H H') {κ : Type} {f : Pd → Option κ} : ∀ {ds : List (Pd × Mv)} {vs : List (κ × V)}, RKv K φ H f ds vs → RKv K φ' H' f ds vs
  | _, _, .nil => .nil
  | _, _, .cons e r s => .cons e (r.mono q k) (RKv.mono q k s)
theorem RFs.mono (q : φ <+: φ') (k : HK H H') : ∀ {ds : List (Option Mv)} {vs : List (Option V)}, RFs K φ H ds vs → RFs K φ' H' ds vs
  | _, _, .nil => .nil
  | _, _, .skip s => .skip (RFs.mono q k s)
  | _, _, .cons r s => .cons (r.mono q k) (RFs.mono q k s)
theorem RE.mono (q : φ <+: φ') (k : HK H H') (r : RE K φ H e σ) : RE K φ' H' e σ := ⟨r.1, fun i d hd => by
  rcases r.2 i d hd with z | ⟨v, hv, rv⟩
  · exact .inl z
  · exact .inr ⟨v, hv, rv.mono q k⟩⟩
/-- an object's description stays if its own address does -/
theorem RO.mono (q : φ <+: φ') (k : HK H H') {a : Addr} (ha : H' a = H a) : ∀ {o : Mo}, RO K φ H a o → RO K φ' H' a o
  | .lst _, ⟨vs, e, r⟩ => ⟨vs, ha.trans e, r.mono q k⟩
  | .dct false _, ⟨vs, e, r⟩ => ⟨vs, ha.trans e, r.mono q k⟩
  | .dct true _, ⟨vs, e, r⟩ => ⟨vs, ha.trans e, r.mono q k⟩
  | .ins _ _, ⟨dx, vs, ⟨h1, h2, h3⟩, r⟩ => ⟨dx, vs, ⟨k _ _ trivial h1, h2, by rw [ha]; exact h3⟩, r.mono q k⟩
theorem RO.some {a : Addr} : ∀ {o : Mo}, RO K φ H a o → ∃ u, H a = some u
  | .lst _, ⟨vs, e, r⟩ => ⟨_, e⟩
  | .dct false _, ⟨vs, e, r⟩ => ⟨_, e⟩
  | .dct true _, ⟨vs, e, r⟩ => ⟨_, e⟩
  | .ins _ _, ⟨dx, vs, ⟨h1, h2, h3⟩, r⟩ => by
    rcases h3 with h3 | ⟨_, h3⟩
    · exact ⟨_, h3⟩
    · exact ⟨_, h3⟩
theorem RH.mem (r : RH K φ h H) {n : Nat} {a : Addr} (e : φ[n]? = some a) : ∃ o, h[n]? = some o ∧ RO K φ H a o := by
  have hl : n < φ.length := (List.getElem?_eq_some_iff.mp e).1
  have hh : n < h.length := by rw [← r.len]; exact hl
  obtain ⟨b, e', ro⟩ := r.ob n h[n] (List.getElem?_eq_getElem hh)
  rw [e] at e'; cases e'
  exact ⟨_, List.getElem?_eq_getElem hh, ro⟩
theorem RH.fresh (r : RH K φ h H) {p : Addr} (hp : H p = none) : p ∉ φ := fun hm => by
  obtain ⟨n, e⟩ := List.getElem?_of_mem hm
  obtain ⟨o, _, ro⟩ := r.mem e
  obtain ⟨u, eu⟩ := ro.some
  rw [hp] at eu; cases eu
/-- a thing that is not ours is laid -/
theorem tabs_new {T : List (Addr × Str)} (t : LamX.Tabs T H) {p : Addr} {o : HO} (hp : H p = none) : LamX.Tabs T (upd H p o) := t.ext fun b u e => by rw [upd_ne (ne_of_none e hp)]; exact e
/-- no table, no code object -/
def NT (u : HO) : Prop := (∀ ps, u ≠ .tbl ps) ∧ ∀ f, u ≠ .ext f
theorem tabs_put {T : List (Addr × Str)} (t : LamX.Tabs T H) {p : Addr} {o u : HO} (hu : H p = some u) (n : NT u) : LamX.Tabs T (upd H p o) := fun q hq => by
  obtain ⟨ps, h1, h2, h3⟩ := t q hq
  refine ⟨ps, ?_, h2, fun pos cv hc => ?_⟩
  · rw [upd_ne]
    · exact h1
    · intro z
      rw [z, hu] at h1
      exact n.1 ps (Option.some.inj h1)
  · obtain ⟨c, e1, e2⟩ := h3 pos cv hc
    refine ⟨c, e1, ?_⟩
    rw [upd_ne]
    · exact e2
    · intro z
      rw [z, hu] at e2
      exact n.2 _ (Option.some.inj e2)
theorem RH.side (r : RH K φ h H) {p : Addr} {o : HO} (hp : H p = none) : RH K φ h (upd H p o) :=
  ⟨tabs_new r.tb hp, r.len, r.nd, fun n ob e => by
    obtain ⟨a, ea, ro⟩ := r.ob n ob e
    exact ⟨a, ea, ro.mono (List.prefix_refl φ) (HK.new hp) (upd_ne (by
      obtain ⟨u, eu⟩ := ro.some
      exact ne_of_none eu hp))⟩⟩
/-- a new object of ours -/
theorem RH.grow (r : RH K φ h H) {p : Addr} {o : HO} {m : Mo} (hp : H p = none) (new : RO K (φ ++ [p]) (upd H p o) p m) : RH K (φ ++ [p]) (h ++ [m]) (upd H p o) := by
  have nm := r.fresh hp
  refine ⟨tabs_new r.tb hp, by simp [r.len], ?_, fun n ob e => ?_⟩
  · refine List.nodup_append.mpr ⟨r.nd, by simp, fun a ha b hb => ?_⟩
    have : b = p := by simpa using hb
    subst this
    exact fun z => nm (z ▸ ha)
  · by_cases hn : n < h.length
    · rw [List.getElem?_append_left hn] at e
      obtain ⟨a, ea, ro⟩ := r.ob n ob e
      refine ⟨a, pre_get (List.prefix_append _ _) ea, ro.mono (List.prefix_append _ _) (HK.new hp) (upd_ne ?_)⟩
      obtain ⟨u, eu⟩ := ro.some
      exact ne_of_none eu hp
    · have hn' : n = h.length := by
        have := (List.getElem?_eq_some_iff.mp e).1
        simp at this; omega
      subst hn'
      rw [List.getElem?_append_right (Nat.le_refl _)] at e
      simp at e
      subst e
      refine ⟨p, ?_, new⟩
      rw [← r.len, List.getElem?_append_right (Nat.le_refl _)]
      simp
/-- an object of ours is changed -/
theorem RH.write (r : RH K φ h H) {n : Nat} {a : Addr} {o u : HO} {m : Mo} (ea : φ[n]? = some a) (hu : H a = some u) (ni : ¬ Imm u) (new : RO K φ (upd H a o) a m) (nt : NT u := by exact ⟨(fun _ z => nomatch z), (fun _ z => nomatch z)⟩) : RH K φ (h.set n m) (upd H a o) := by
  refine ⟨tabs_put r.tb hu nt, by simp [r.len], r.nd, fun k ob e => ?_⟩
  by_cases hk : k = n
  · subst hk
    have hl : k < h.length := by rw [← r.len]; exact (List.getElem?_eq_some_iff.mp ea).1
    rw [List.getElem?_set_self hl] at e
    cases e
    exact ⟨a, ea, new⟩
  · rw [List.getElem?_set_ne (Ne.symm hk)] at e
    obtain ⟨b, eb, ro⟩ := r.ob k ob e
    refine ⟨b, eb, ro.mono (List.prefix_refl φ) (HK.put hu ni) (upd_ne fun z => ?_)⟩
    subst z
    apply hk
    obtain ⟨h1, e1⟩ := List.getElem?_eq_some_iff.mp eb
    obtain ⟨h2, e2⟩ := List.getElem?_eq_some_iff.mp ea
    exact (List.getElem_inj r.nd).mp (e1.trans e2.symm)
end

/-! ### readings -/
def tM (K : PySem.W.Frag) (m : ME) : TE := fun σ H Q => ∃ φ e h d h', RE K φ H e σ ∧ RH K φ h H ∧ m e h = some (d, h') ∧
  ∀ φ' v H', φ <+: φ' → HK H H' → RH K φ' h' H' → RV K φ' H' d v → Q v H'
/-- arguments -/
abbrev MA := En → Hq → Option (List Mv × Hq)
def tA (K : PySem.W.Frag) (m : MA) : TA := fun σ H Q => ∃ φ e h ds h', RE K φ H e σ ∧ RH K φ h H ∧ m e h = some (ds, h') ∧
  ∀ φ' vs H', φ <+: φ' → HK H H' → RH K φ' h' H' → RVs K φ' H' ds vs → Q vs H'
/-- tests -/
abbrev MT := En → Hq → Option (Bool × Hq)
def tT (K : PySem.W.Frag) (m : MT) : TT := fun σ H Q => ∃ φ e h b h', RE K φ H e σ ∧ RH K φ h H ∧ m e h = some (b, h') ∧
  ∀ φ' H', φ <+: φ' → HK H H' → RH K φ' h' H' → Q b H'
inductive Fl where
  | nx | brk | cnt | ret (d : Mv)
abbrev MS := En → Hq → Option (Fl × En × Hq)
def SEnd (K : PySem.W.Frag) (φ : List Addr) (D : Ends) (e : En) (σ : St) (H : Hp) : Fl → Prop
  | .nx => RE K φ H e σ → D.nx σ H
  | .brk => RE K φ H e σ → D.bk σ H
  | .cnt => RE K φ H e σ → D.ct σ H
  | .ret d => ∀ v, RV K φ H d v → D.rt v H
def tS (K : PySem.W.Frag) (m : MS) : TS := fun D σ H => ∃ φ e h fl e' h', RE K φ H e σ ∧ RH K φ h H ∧ m e h = some (fl, e', h') ∧
  ∀ φ' σ' H', φ <+: φ' → HK H H' → RH K φ' h' H' → SEnd K φ' D e' σ' H' fl

theorem _root_.L2.PE.conseq {X : Cx} {e : Expr} {t t' : TE} (h : PE X e t) (i : ∀ σ H Q, t' σ H Q → t σ H Q) : PE X e t' := ⟨fun pins s σ H Q I q => h.run pins s σ H Q I (i σ H Q q)⟩
theorem _root_.L2.PA.conseq {X : Cx} {e : List Expr} {t t' : TA} (h : PA X e t) (i : ∀ σ H Q, t' σ H Q → t σ H Q) : PA X e t' := ⟨fun p pins s σ H Q I q => h.run p pins s σ H Q I (i σ H Q q)⟩
theorem _root_.L2.PT.conseq {X : Cx} {e : Expr} {t t' : TT} (h : PT X e t) (i : ∀ σ H Q, t' σ H Q → t σ H Q) : PT X e t' := ⟨fun pins s σ H Q I q => h.run pins s σ H Q I (i σ H Q q)⟩
theorem _root_.L2.PW.conseq {X : Cx} {e : Expr} {t t' : TT} (h : PW X e t) (i : ∀ σ H Q, t' σ H Q → t σ H Q) : PW X e t' := ⟨fun w pins s σ H Q I q => h.run w pins s σ H Q I (i σ H Q q)⟩
theorem _root_.L2.PS.conseq {X : Cx} {e : Stmt} {t t' : TS} (h : PS X e t) (i : ∀ D σ H, t' D σ H → t D σ H) : PS X e t' := ⟨fun pins s σ H D I q => h.run pins s σ H D I (i D σ H q)⟩
theorem _root_.L2.PSs.conseq {X : Cx} {e : List Stmt} {t t' : TS} (h : PSs X e t) (i : ∀ D σ H, t' D σ H → t D σ H) : PSs X e t' := ⟨fun pins s σ H D I q => h.run pins s σ H D I (i D σ H q)⟩
theorem _root_.L2.PI.conseq {X : Cx} {tg e : Expr} {t t' : TI} (h : PI X tg e t) (i : ∀ σ H R, t' σ H R → t σ H R) : PI X tg e t' := ⟨fun pins s σ H R I q => h.run pins s σ H R I (i σ H R q)⟩
theorem _root_.L2.OpR.imp {X : Cx} {f : Value → Value → Sem Value} {r r' : R2} (h : OpR X f r) (i : ∀ x y H Q, r' x y H Q → r x y H Q) : OpR X f r' := fun pins s σ H x y v u Q I rx ry q => h pins s σ H x y v u Q I rx ry (i x y H Q q)
end MX
set_option Elab.async false
set_option linter.all false
set_option maxRecDepth 100000
set_option maxHeartbeats 1000000
set_option autoImplicit false
namespace MX
open PySem PySem.Spec L2
section
variable {K : PySem.W.Frag} {φ : List Addr} {H : Hp}
theorem RV.p_inv {x : Pd} {v : V} (r : RV K φ H (.p x) v) : RP K H x v := by cases r; assumption
theorem RV.int_inv {i : Int} {v : V} (r : RV K φ H (.p (.int i)) v) : v = .int i := by cases r with | p r => cases r; rfl
theorem RV.bl_inv {i : Bool} {v : V} (r : RV K φ H (.p (.bool i)) v) : v = .bl i := by cases r with | p r => cases r; rfl
theorem RV.str_inv {i : Str} {v : V} (r : RV K φ H (.p (.str i)) v) : v = .str i := by cases r with | p r => cases r; rfl
theorem RV.non_inv {v : V} (r : RV K φ H (.p .none) v) : v = .non := by cases r with | p r => cases r; rfl
theorem RV.tup_inv {ds : List Pd} {v : V} (r : RV K φ H (.p (.tuple ds)) v) : ∃ a xs, v = .ref a ∧ H a = some (.tup xs) ∧ RPs K H ds xs := by
  cases r with | p r => cases r with | tup s q => exact ⟨_, _, rfl, s, q⟩
theorem RV.loc_inv {n : Nat} {v : V} (r : RV K φ H (.loc n) v) : ∃ a, v = .ref a ∧ φ[n]? = some a := by cases r with | loc e => exact ⟨_, rfl, e⟩
theorem RV.tl_inv {ds : List Mv} {v : V} (r : RV K φ H (.tl ds) v) : ∃ a xs, v = .ref a ∧ H a = some (.tup xs) ∧ RVs K φ H ds xs := by cases r with | tl s q => exact ⟨_, _, rfl, s, q⟩
theorem RV.fl_inv {ns : List Int} {v : V} (r : RV K φ H (.fl ns) v) : ∃ a, v = .ref a ∧ FrL K H a (ns.map V.int) := by cases r with | fl s => exact ⟨_, rfl, s⟩
theorem RV.ct_inv {x : Pd} {v : V} (r : RV K φ H (.ct x) v) : RC K x v := by cases r with | ct s => exact s
theorem RPs.length {ds : List Pd} {vs : List V} (r : RPs K H ds vs) : ds.length = vs.length := by
  induction ds generalizing vs with
  | nil => cases r; rfl
  | cons d ds ih => cases r with | cons _ s => simp [ih s]
theorem RVs.length {ds : List Mv} {vs : List V} (r : RVs K φ H ds vs) : ds.length = vs.length := by
  induction ds generalizing vs with
  | nil => cases r; rfl
  | cons d ds ih => cases r with | cons _ s => simp [ih s]
theorem RPs.get {ds : List Pd} {vs : List V} (r : RPs K H ds vs) {i : Nat} {d : Pd} (h : ds[i]? = some d) : ∃ v, vs[i]? = some v ∧ RP K H d v := by
  induction ds generalizing vs i with
  | nil => simp at h
  | cons x ds ih =>
    cases r with
    | cons q s =>
      cases i with
      | zero => simp at h; subst h; exact ⟨_, rfl, q⟩
      | succ i => simp at h; obtain ⟨v, hv, q⟩ := ih s h; exact ⟨v, by simpa using hv, q⟩
theorem RVs.get {ds : List Mv} {vs : List V} (r : RVs K φ H ds vs) {i : Nat} {d : Mv} (h : ds[i]? = some d) : ∃ v, vs[i]? = some v ∧ RV K φ H d v := by
  induction ds generalizing vs i with
  | nil => simp at h
  | cons x ds ih =>
    cases r with
    | cons q s =>
      cases i with
      | zero => simp at h; subst h; exact ⟨_, rfl, q⟩
      | succ i => simp at h; obtain ⟨v, hv, q⟩ := ih s h; exact ⟨v, by simpa using hv, q⟩
theorem RPs.append {ds es : List Pd} {vs ws : List V} (r : RPs K H ds vs) (s : RPs K H es ws) : RPs K H (ds ++ es) (vs ++ ws) := by
  induction ds generalizing vs with
  | nil => cases r; exact s
  | cons d ds ih => cases r with | cons q t => exact .cons q (ih t)
theorem RVs.append {ds es : List Mv} {vs ws : List V} (r : RVs K φ H ds vs) (s : RVs K φ H es ws) : RVs K φ H (ds ++ es) (vs ++ ws) := by
  induction ds generalizing vs with
  | nil => cases r; exact s
  | cons d ds ih => cases r with | cons q t => exact .cons q (ih t)
theorem RPs.drop {ds : List Pd} {vs : List V} (n : Nat) (r : RPs K H ds vs) : RPs K H (ds.drop n) (vs.drop n) := by
  induction n generalizing ds vs with
  | zero => exact r
  | succ n ih => cases r with
    | nil => exact .nil
    | cons _ t => exact ih t
theorem RPs.take {ds : List Pd} {vs : List V} (n : Nat) (r : RPs K H ds vs) : RPs K H (ds.take n) (vs.take n) := by
  induction n generalizing ds vs with
  | zero => exact .nil
  | succ n ih => cases r with
    | nil => exact .nil
    | cons q t => exact .cons q (ih t)
theorem RVs.drop {ds : List Mv} {vs : List V} (n : Nat) (r : RVs K φ H ds vs) : RVs K φ H (ds.drop n) (vs.drop n) := by
  induction n generalizing ds vs with
  | zero => exact r
  | succ n ih => cases r with
    | nil => exact .nil
    | cons _ t => exact ih t
theorem RVs.take {ds : List Mv} {vs : List V} (n : Nat) (r : RVs K φ H ds vs) : RVs K φ H (ds.take n) (vs.take n) := by
  induction n generalizing ds vs with
  | zero => exact .nil
  | succ n ih => cases r with
    | nil => exact .nil
    | cons q t => exact .cons q (ih t)
theorem RVs.set {ds : List Mv} {vs : List V} {d : Mv} {v : V} (n : Nat) (r : RVs K φ H ds vs) (q : RV K φ H d v) : RVs K φ H (ds.set n d) (vs.set n v) := by
  induction n generalizing ds vs with
  | zero => cases r with
    | nil => exact .nil
    | cons _ t => exact .cons q t
  | succ n ih => cases r with
    | nil => exact .nil
    | cons p t => exact .cons p (ih t)
theorem RVs.dropLast {ds : List Mv} {vs : List V} (r : RVs K φ H ds vs) : RVs K φ H ds.dropLast vs.dropLast := by
  rw [List.dropLast_eq_take, List.dropLast_eq_take, ← r.length]; exact r.take _
theorem RVs.eraseIdx {ds : List Mv} {vs : List V} (n : Nat) (r : RVs K φ H ds vs) : RVs K φ H (ds.eraseIdx n) (vs.eraseIdx n) := by
  induction n generalizing ds vs with
  | zero => cases r with
    | nil => exact .nil
    | cons _ t => exact t
  | succ n ih => cases r with
    | nil => exact .nil
    | cons p t => exact .cons p (ih t)
theorem RPs.vs {ds : List Pd} {vs : List V} (r : RPs K H ds vs) : RVs K φ H (ds.map Mv.p) vs := by
  induction ds generalizing vs with
  | nil => cases r; exact .nil
  | cons d ds ih => cases r with | cons q t => exact .cons (.p q) (ih t)
theorem RVs.of_p {ds : List Pd} {vs : List V} (r : RVs K φ H (ds.map Mv.p) vs) : RPs K H ds vs := by
  induction ds generalizing vs with
  | nil => cases r; exact .nil
  | cons d ds ih => cases r with | cons q t => exact .cons q.p_inv (ih t)
theorem rvs_ints (ns : List Int) : RVs K φ H (ns.map Mv.int) (ns.map V.int) := by
  induction ns with
  | nil => exact .nil
  | cons n ns ih => exact .cons (.p (.int n)) ih
theorem RVs.ints {ns : List Int} {vs : List V} (r : RVs K φ H (ns.map Mv.int) vs) : vs = ns.map V.int := by
  induction ns generalizing vs with
  | nil => cases r; rfl
  | cons n ns ih => cases r with | cons q t => rw [q.int_inv, ih t]; rfl
theorem RPs.ints {ns : List Int} {vs : List V} (r : RPs K H (ns.map PyData.int) vs) : vs = ns.map V.int := by
  induction ns generalizing vs with
  | nil => cases r; rfl
  | cons n ns ih => cases r with | cons q t => cases q; rw [ih t]; rfl
theorem RVs.bls {ns : List Bool} {vs : List V} (r : RVs K φ H (ns.map Mv.bl) vs) : vs = ns.map V.bl := by
  induction ns generalizing vs with
  | nil => cases r; rfl
  | cons n ns ih => cases r with | cons q t => rw [q.bl_inv, ih t]; rfl
end

/-- the items of a list -/
def lstOf (h : Hq) : Mv → Option (List Mv)
  | .loc n => match h[n]? with
    | some (.lst ds) => some ds
    | _ => none
  | .fl ns => some (ns.map Mv.int)
  | _ => none
/-- a part of a constant -/
def ctv : Pd → Mv
  | .tuple ds => .ct (.tuple ds)
  | x => .p x
/-- of a tuple -/
def tupOf : Mv → Option (List Mv)
  | .p (.tuple ds) => some (ds.map Mv.p)
  | .tl ds => some ds
  | .ct (.tuple ds) => some (ds.map ctv)
  | _ => none
theorem ctv_ok {K : PySem.W.Frag} {φ : List Addr} {H : Hp} {x : Pd} {v : V} (r : RC K x v) : RV K φ H (ctv x) v := by
  cases r with
  | non => exact .p .non
  | bl b => exact .p (.bl b)
  | int i => exact .p (.int i)
  | str i => exact .p (.str i)
  | tup s q => exact .ct (.tup s q)
theorem RCs.vs {K : PySem.W.Frag} {φ : List Addr} {H : Hp} : ∀ {ds : List Pd} {vs : List V}, RCs K ds vs → RVs K φ H (ds.map ctv) vs
  | _, _, .nil => .nil
  | _, _, .cons r s => .cons (ctv_ok r) (RCs.vs s)
/-- of either -/
def seqOf (h : Hq) (d : Mv) : Option (List Mv) := match tupOf d with
  | some ds => some ds
  | none => lstOf h d
section
variable {K : PySem.W.Frag} {φ : List Addr} {H : Hp} {h : Hq}
theorem lstOf_ok (rh : RH K φ h H) {d : Mv} {v : V} {ds : List Mv} (r : RV K φ H d v) (e : lstOf h d = some ds) : ∃ a xs, v = .ref a ∧ SqL K H a xs ∧ RVs K φ H ds xs := by
  unfold lstOf at e
  split at e
  · rename_i n
    obtain ⟨a, rfl, ea⟩ := r.loc_inv
    split at e
    · rename_i ds' eo
      cases e
      obtain ⟨b, eb, ro⟩ := rh.ob n _ eo
      rw [ea] at eb; cases eb
      obtain ⟨vs, ev, rv⟩ := ro
      exact ⟨a, vs, rfl, SqL.of ev, rv⟩
    · cases e
  · cases e
    obtain ⟨a, rfl, s⟩ := r.fl_inv
    exact ⟨a, _, rfl, s.seq, rvs_ints _⟩
  · cases e
theorem tupOf_ok {d : Mv} {v : V} {ds : List Mv} (r : RV K φ H d v) (e : tupOf d = some ds) : ∃ a xs, v = .ref a ∧ SqT K H a xs ∧ RVs K φ H ds xs := by
  unfold tupOf at e
  split at e
  · cases e
    obtain ⟨a, xs, rfl, s, q⟩ := r.tup_inv
    exact ⟨a, xs, rfl, SqT.of s, q.vs⟩
  · cases e
    obtain ⟨a, xs, rfl, s, q⟩ := r.tl_inv
    exact ⟨a, xs, rfl, SqT.of s, q⟩
  · cases e
    cases r.ct_inv with
    | tup s q => exact ⟨_, _, rfl, .inr s, q.vs⟩
  · cases e
theorem seqOf_ok (rh : RH K φ h H) {d : Mv} {v : V} {ds : List Mv} (r : RV K φ H d v) (e : seqOf h d = some ds) : ∃ a xs, v = .ref a ∧ (SqL K H a xs ∨ SqT K H a xs) ∧ RVs K φ H ds xs := by
  unfold seqOf at e
  split at e
  · cases e
    rename_i ds et
    obtain ⟨a, xs, rfl, s, q⟩ := tupOf_ok r et
    exact ⟨a, xs, rfl, .inr s, q⟩
  · obtain ⟨a, xs, rfl, s, q⟩ := lstOf_ok rh r e
    exact ⟨a, xs, rfl, .inl s, q⟩
/-- a list of ours, that may be written -/
theorem loc_lst (rh : RH K φ h H) {n : Nat} {v : V} {ds : List Mv} (r : RV K φ H (.loc n) v) (e : h[n]? = some (.lst ds)) : ∃ a xs, v = .ref a ∧ φ[n]? = some a ∧ H a = some (.lst xs) ∧ RVs K φ H ds xs := by
  obtain ⟨a, rfl, ea⟩ := r.loc_inv
  obtain ⟨b, eb, ro⟩ := rh.ob n _ e
  rw [ea] at eb; cases eb
  obtain ⟨vs, ev, rv⟩ := ro
  exact ⟨a, vs, rfl, ea, ev, rv⟩
/-- a new list -/
theorem RH.newL (rh : RH K φ h H) {p : Addr} {ds : List Mv} {xs : List V} (hp : H p = none) (r : RVs K φ H ds xs) :
    RH K (φ ++ [p]) (h ++ [.lst ds]) (upd H p (.lst xs)) ∧ RV K (φ ++ [p]) (upd H p (.lst xs)) (.loc h.length) (.ref p) := by
  refine ⟨rh.grow hp ⟨xs, upd_same, r.mono (List.prefix_append _ _) (HK.new hp)⟩, .loc ?_⟩
  rw [← rh.len, List.getElem?_append_right (Nat.le_refl _)]; simp
/-- a new tuple -/
theorem RV.newP {p : Addr} {ds : List Pd} {xs : List V} (hp : H p = none) (r : RPs K H ds xs) : RV K φ (upd H p (.tup xs)) (.p (.tuple ds)) (.ref p) :=
  .p (.tup upd_same (r.mono (HK.new hp)))
theorem RV.newT {p : Addr} {ds : List Mv} {xs : List V} (hp : H p = none) (r : RVs K φ H ds xs) : RV K φ (upd H p (.tup xs)) (.tl ds) (.ref p) :=
  .tl upd_same (r.mono (List.prefix_refl φ) (HK.new hp))
end
/-- all pure -/
def allP : List Mv → Option (List Pd)
  | [] => some []
  | .p x :: r => (allP r).map (x :: ·)
  | _ :: _ => none
theorem allP_ok : ∀ {ds : List Mv} {xs : List Pd}, allP ds = some xs → ds = xs.map Mv.p
  | [], xs, h => by cases h; rfl
  | .p x :: r, xs, h => by
    simp only [allP, Option.map_eq_some_iff] at h
    obtain ⟨ys, e, rfl⟩ := h
    rw [allP_ok e]; rfl
  | .und :: _, _, h => by simp [allP] at h
  | .loc _ :: _, _, h => by simp [allP] at h
  | .tl _ :: _, _, h => by simp [allP] at h
  | .fl _ :: _, _, h => by simp [allP] at h
  | .ct _ :: _, _, h => by simp [allP] at h
@[simp] theorem allP_map (xs : List Pd) : allP (xs.map Mv.p) = some xs := by
  induction xs with
  | nil => rfl
  | cons x xs ih => simp [allP, ih]
/-- a tuple of values -/
def mkT (ds : List Mv) : Mv := match allP ds with
  | some xs => .p (.tuple xs)
  | none => .tl ds
@[simp] theorem mkT_p (xs : List Pd) : mkT (xs.map Mv.p) = .p (.tuple xs) := by simp [mkT]
theorem mkT_ok {K : PySem.W.Frag} {φ : List Addr} {H : Hp} {p : Addr} {ds : List Mv} {xs : List V} (hp : H p = none) (r : RVs K φ H ds xs) : RV K φ (upd H p (.tup xs)) (mkT ds) (.ref p) := by
  unfold mkT
  split
  · rename_i ys e
    rw [allP_ok e] at r
    exact RV.newP hp r.of_p
  · exact RV.newT hp r
/-- the same by a tuple that stands -/
theorem mkT_at {K : PySem.W.Frag} {φ : List Addr} {H : Hp} {p : Addr} {ds : List Mv} {xs : List V} (s : H p = some (.tup xs)) (r : RVs K φ H ds xs) : RV K φ H (mkT ds) (.ref p) := by
  unfold mkT
  split
  · rename_i ys e
    rw [allP_ok e] at r
    exact .p (.tup s r.of_p)
  · exact .tl s r

/-! ### names, constants -/
section
variable {X : Cx}
def mVar (i : Nat) : ME := fun e h => match e[i]? with
  | some .und => none
  | some d => some (d, h)
  | none => none
theorem me_var (i : Nat) {x : Str} {pos : Pos} (hN : X.N[i]? = some x := by rfl) (hv : Vis X.env.scope x := by first | exact Or.inl rfl | exact Or.inr (Or.inl rfl) | exact Or.inr (Or.inr rfl)) (hd : (x == ("__debug__" : Str)) = false := by decide)
    (hcd : (x == ("__classdict__" : Str)) = false := by decide) : PE X (.Name x pos) (tM X.K (mVar i)) := by
  refine (pv i hN hv hd hcd).conseq ?_
  rintro σ H Q ⟨φ, e, h, d, h', re, rh, eq, k⟩
  unfold mVar at eq
  split at eq
  · cases eq
  · rename_i d' hne ed
    cases eq
    rcases re.2 i d ed with z | ⟨v, hv, rv⟩
    · exact absurd z hne
    · exact ⟨v, hv, k φ v H (List.prefix_refl φ) (HK.refl H) rh rv⟩
  · cases eq
def mC (x : Pd) : ME := fun _ h => some (.p x, h)
theorem me_c {e : Expr} {v : V} {x : Pd} (h : PE X e (tC v)) (r : ∀ H, RP X.K H x v) : PE X e (tM X.K (mC x)) := by
  refine h.conseq ?_
  rintro σ H Q ⟨φ, e, h, d, h', re, rh, eq, k⟩
  cases eq
  exact k φ v H (List.prefix_refl φ) (HK.refl H) rh (.p (r H))
theorem me_int {i : Int} {j : Nat} {pos : Pos} : PE X (.Constant (.int i) j pos) (tM X.K (mC (.int i))) := me_c pe_int fun _ => .int i
theorem me_bl {b : Bool} {j : Nat} {pos : Pos} : PE X (.Constant (.bool b) j pos) (tM X.K (mC (.bool b))) := me_c pe_bl fun _ => .bl b
theorem me_non {j : Nat} {pos : Pos} : PE X (.Constant .none j pos) (tM X.K (mC .none)) := me_c pe_non fun _ => .non
theorem me_str {x : Str} {j : Nat} {pos : Pos} : PE X (.Constant (.str x) j pos) (tM X.K (mC (.str x))) := me_c pe_str fun _ => .str x
/-- a constant of the module -/
theorem me_glob {x : Str} {v : V} {u : Value} {pos : Pos} {d : Pd} (hg : Gl X x) (hm : X.mg x = some u) (r : RelV v u) (q : ∀ H, RP X.K H d v) (hd : (x == ("__debug__" : Str)) = false := by decide) : PE X (.Name x pos) (tM X.K (mC d)) :=
  me_c (pe_glob hg hm r hd) q

/-! ### two-place operations -/
abbrev G2 := Mv → Mv → Hq → Option (Mv × Hq)
def rM2 (K : PySem.W.Frag) (g : G2) : R2 := fun x y H Q => ∃ φ h dx dy d h', RH K φ h H ∧ RV K φ H dx x ∧ RV K φ H dy y ∧ g dx dy h = some (d, h') ∧
  ∀ φ' v H', φ <+: φ' → HK H H' → RH K φ' h' H' → RV K φ' H' d v → Q v H'
def mB (g : G2) (a b : ME) : ME := fun e h => (a e h).bind fun r => (b e r.2).bind fun s => g r.1 s.1 s.2
theorem tM_op {K : PySem.W.Frag} {g : G2} {a b : ME} {σ : L2.St} {H : Hp} {Q : VK} (q : tM K (mB g a b) σ H Q) : tOp (rM2 K g) (tM K a) (tM K b) σ H Q := by
  obtain ⟨φ, e, h, d, h', re, rh, eq, k⟩ := q
  obtain ⟨⟨d1, h1⟩, e1, eq⟩ := Option.bind_eq_some_iff.mp eq
  obtain ⟨⟨d2, h2⟩, e2, eq⟩ := Option.bind_eq_some_iff.mp eq
  exact ⟨φ, e, h, d1, h1, re, rh, e1, fun φ1 v1 H1 p1 k1 rh1 rv1 => ⟨φ1, e, h1, d2, h2, re.mono p1 k1, rh1, e2, fun φ2 v2 H2 p2 k2 rh2 rv2 =>
    ⟨φ2, h2, d1, d2, d, h', rh2, rv1.mono p2 k2, rv2, eq, fun φ3 v H3 p3 k3 rh3 rv3 => k φ3 v H3 (p1.trans (p2.trans p3)) (k1.trans (k2.trans k3)) rh3 rv3⟩⟩⟩
variable {a b c : Expr} {ma mb mc : ME} {pos : Pos} {g g' : G2}
theorem me_bin {op : Operator} (ho : OpR X (binaryOp op) (rM2 X.K g)) (ha : PE X a (tM X.K ma)) (hb : PE X b (tM X.K mb)) : PE X (.BinOp a op b pos) (tM X.K (mB g ma mb)) :=
  (pe_op ho ha hb).conseq fun _ _ _ q => tM_op q
theorem me_cmp {op : CmpOp} (ho : OpR X (compareOp op) (rM2 X.K g)) (ha : PE X a (tM X.K ma)) (hb : PE X b (tM X.K mb)) (hm : behindInMarks op b = false := by first | exact nomark _ | rfl) : PE X (.Compare a [op] [b] pos) (tM X.K (mB g ma mb)) :=
  (pe_cmpR ho ha hb hm).conseq fun _ _ _ q => tM_op q
/-- a value that is a bool, as a test -/
def mBo (m : ME) : MT := fun e h => match m e h with
  | some (.p (.bool b), h') => some (b, h')
  | _ => none
theorem mBo_some {m : ME} {e : En} {h h' : Hq} {b : Bool} (q : mBo m e h = some (b, h')) : m e h = some (.p (.bool b), h') := by
  unfold mBo at q
  split at q
  · rename_i eq; cases q; exact eq
  · cases q
theorem mt_cmp {op : CmpOp} (ho : OpR X (compareOp op) (rM2 X.K g)) (ha : PE X a (tM X.K ma)) (hb : PE X b (tM X.K mb)) (hm : behindInMarks op b = false := by first | exact nomark _ | rfl) : PT X (.Compare a [op] [b] pos) (tT X.K (mBo (mB g ma mb))) := by
  refine (pt_cmpR ho ha hb hm).conseq ?_
  rintro σ H Q ⟨φ, e, h, b, h', re, rh, eq, k⟩
  refine tM_op ⟨φ, e, h, _, h', re, rh, mBo_some eq, fun φ' v H' p q rh' rv => ⟨b, rv.bl_inv, k φ' H' p q rh'⟩⟩
def mChain (g g' : G2) (a b c : ME) : ME := fun e h => (a e h).bind fun r => (b e r.2).bind fun s => (g r.1 s.1 s.2).bind fun t => match t.1 with
  | .p (.bool true) => (c e t.2).bind fun u => g' s.1 u.1 u.2
  | .p (.bool false) => some (.p (.bool false), t.2)
  | _ => none
theorem tM_chain {K : PySem.W.Frag} {σ : L2.St} {H : Hp} {Q : VK} (q : tM K (mChain g g' ma mb mc) σ H Q) : tChain (rM2 K g) (rM2 K g') (tM K ma) (tM K mb) (tM K mc) σ H Q := by
  obtain ⟨φ, e, h, d, h', re, rh, eq, k⟩ := q
  obtain ⟨⟨d1, h1⟩, e1, eq⟩ := Option.bind_eq_some_iff.mp eq
  obtain ⟨⟨d2, h2⟩, e2, eq⟩ := Option.bind_eq_some_iff.mp eq
  obtain ⟨⟨d3, h3⟩, e3, eq⟩ := Option.bind_eq_some_iff.mp eq
  refine ⟨φ, e, h, d1, h1, re, rh, e1, fun φ1 v1 H1 p1 k1 rh1 rv1 => ⟨φ1, e, h1, d2, h2, re.mono p1 k1, rh1, e2, fun φ2 v2 H2 p2 k2 rh2 rv2 =>
    ⟨φ2, h2, d1, d2, d3, h3, rh2, rv1.mono p2 k2, rv2, e3, fun φ3 v3 H3 p3 k3 rh3 rv3 => ?_⟩⟩⟩
  dsimp only at eq
  split at eq
  · obtain ⟨⟨d4, h4⟩, e4, eq⟩ := Option.bind_eq_some_iff.mp eq
    refine ⟨true, rv3.bl_inv, ?_⟩
    rw [if_pos rfl]
    exact ⟨φ3, e, h3, d4, h4, (re.mono p1 k1).mono (p2.trans p3) (k2.trans k3), rh3, e4, fun φ4 v4 H4 p4 k4 rh4 rv4 => ⟨φ4, h4, d2, d4, d, h', rh4, rv2.mono (p3.trans p4) (k3.trans k4), rv4, eq,
      fun φ5 v H5 p5 k5 rh5 rv5 => k φ5 v H5 (p1.trans (p2.trans (p3.trans (p4.trans p5)))) (k1.trans (k2.trans (k3.trans (k4.trans k5)))) rh5 rv5⟩⟩
  · cases eq
    refine ⟨false, rv3.bl_inv, ?_⟩
    rw [if_neg (by decide)]
    exact k φ3 _ H3 (p1.trans (p2.trans p3)) (k1.trans (k2.trans k3)) rh3 (.p (.bl false))
  · cases eq
theorem me_chain {op op' : CmpOp} (ho : OpR X (compareOp op) (rM2 X.K g)) (ho' : OpR X (compareOp op') (rM2 X.K g')) (ha : PE X a (tM X.K ma)) (hb : PE X b (tM X.K mb)) (hc : PE X c (tM X.K mc))
    (hm : lastMarks [op, op'] [b, c] = false := by with_unfolding_all rfl) : PE X (.Compare a [op, op'] [b, c] pos) (tM X.K (mChain g g' ma mb mc)) :=
  (pe_chain ho ho' ha hb hc hm).conseq fun _ _ _ q => tM_chain q
theorem mt_chain {op op' : CmpOp} (ho : OpR X (compareOp op) (rM2 X.K g)) (ho' : OpR X (compareOp op') (rM2 X.K g')) (ha : PE X a (tM X.K ma)) (hb : PE X b (tM X.K mb)) (hc : PE X c (tM X.K mc))
    (hm : lastMarks [op, op'] [b, c] = false := by with_unfolding_all rfl) : PT X (.Compare a [op, op'] [b, c] pos) (tT X.K (mBo (mChain g g' ma mb mc))) := by
  refine (pt_chain ho ho' ha hb hc hm).conseq ?_
  rintro σ H Q ⟨φ, e, h, b, h', re, rh, eq, k⟩
  exact tM_chain ⟨φ, e, h, _, h', re, rh, mBo_some eq, fun φ' v H' p q rh' rv => ⟨b, rv.bl_inv, k φ' H' p q rh'⟩⟩

/-! ### whole numbers -/
def gI (C : Int → Int → Bool) (f : Int → Int → Pd) : G2 := fun x y h => match x, y with
  | .p (.int i), .p (.int j) => if C i j = true then some (.p (f i j), h) else none
  | _, _ => none
theorem gI_some {C : Int → Int → Bool} {f : Int → Int → Pd} {x y d : Mv} {h h' : Hq} (e : gI C f x y h = some (d, h')) : ∃ i j, x = .p (.int i) ∧ y = .p (.int j) ∧ C i j = true ∧ d = .p (f i j) ∧ h' = h := by
  unfold gI at e
  split at e
  · split at e
    · rename_i hc; cases e; exact ⟨_, _, rfl, rfl, hc, rfl, rfl⟩
    · cases e
  · cases e
theorem op_gI {F : Value → Value → Sem Value} {C : Int → Int → Bool} {C' : Int → Int → Prop} {f : Int → Int → Int} (o : OpR X F (rI C' fun i j => .int (f i j))) (hc : ∀ i j, C i j = true → C' i j) : OpR X F (rM2 X.K (gI C fun i j => .int (f i j))) := by
  refine o.imp ?_
  rintro x y H Q ⟨φ, h, dx, dy, d, h', rh, rx, ry, eq, k⟩
  obtain ⟨i, j, rfl, rfl, c, rfl, rfl⟩ := gI_some eq
  exact ⟨i, j, rx.int_inv, ry.int_inv, hc i j c, k φ _ H (List.prefix_refl φ) (HK.refl H) rh (.p (.int _))⟩
theorem op_gI0 {F : Value → Value → Sem Value} {f : Int → Int → Int} (o : OpR X F (rI0 fun i j => .int (f i j))) : OpR X F (rM2 X.K (gI (fun _ _ => true) fun i j => .int (f i j))) := by
  refine o.imp ?_
  rintro x y H Q ⟨φ, h, dx, dy, d, h', rh, rx, ry, eq, k⟩
  obtain ⟨i, j, rfl, rfl, c, rfl, rfl⟩ := gI_some eq
  exact ⟨i, j, rx.int_inv, ry.int_inv, k φ _ H (List.prefix_refl φ) (HK.refl H) rh (.p (.int _))⟩
theorem op_gB0 {F : Value → Value → Sem Value} {f : Int → Int → Bool} (o : OpR X F (rI0 fun i j => .bl (f i j))) : OpR X F (rM2 X.K (gI (fun _ _ => true) fun i j => .bool (f i j))) := by
  refine o.imp ?_
  rintro x y H Q ⟨φ, h, dx, dy, d, h', rh, rx, ry, eq, k⟩
  obtain ⟨i, j, rfl, rfl, c, rfl, rfl⟩ := gI_some eq
  exact ⟨i, j, rx.int_inv, ry.int_inv, k φ _ H (List.prefix_refl φ) (HK.refl H) rh (.p (.bl _))⟩
abbrev gSub : G2 := gI (fun _ _ => true) fun i j => .int (i - j)
abbrev cMul (i j : Int) : Bool := decide ((-(2 ^ 64) < i ∧ i < 2 ^ 64) ∨ (-(2 ^ 64) < j ∧ j < 2 ^ 64))
abbrev cMulW (i j : Int) : Bool := cMul i j || decide (i.natAbs.log2 + j.natAbs.log2 < 1000000)
abbrev gMul : G2 := gI cMulW fun i j => .int (i * j)
abbrev gMod : G2 := gI (fun _ j => decide (0 < j)) fun i j => .int (i % j)
abbrev gDiv : G2 := gI (fun _ j => decide (0 < j ∧ j < 2 ^ 64)) fun i j => .int (i / j)
abbrev cPow (i j : Int) : Bool := decide (0 ≤ j ∧ j ≤ 1000000 ∧ i.natAbs < 2 ^ 64)
abbrev cPowW (i j : Int) : Bool := decide (0 ≤ j ∧ (Builtin.Int.intBits i : Int) * j ≤ 2 ^ 27)
abbrev gPow : G2 := gI cPowW fun i j => .int (i ^ j.toNat)
abbrev gShl : G2 := gI cPow fun i j => .int (i * 2 ^ j.toNat)
abbrev gShr : G2 := gI (fun _ j => decide (0 ≤ j)) fun i j => .int (i / 2 ^ j.toNat)
abbrev gAnd : G2 := gI (fun _ _ => true) fun i j => .int (Builtin.bitAnd i j)
abbrev gOr : G2 := gI (fun _ _ => true) fun i j => .int (Builtin.bitOr i j)
abbrev gXor : G2 := gI (fun _ _ => true) fun i j => .int (Builtin.bitXor i j)
abbrev gLt : G2 := gI (fun _ _ => true) fun i j => .bool (decide (i < j))
abbrev gLe : G2 := gI (fun _ _ => true) fun i j => .bool (decide (i ≤ j))
abbrev gGt : G2 := gI (fun _ _ => true) fun i j => .bool (decide (j < i))
abbrev gGe : G2 := gI (fun _ _ => true) fun i j => .bool (decide (j ≤ i))
theorem cMul_ok {i j : Int} (h : cMul i j = true) : CMul i j := by
  have q := of_decide_eq_true h
  exact q
theorem cPow_ok {i j : Int} (h : cPow i j = true) : CPow i j := by
  have q := of_decide_eq_true h
  exact q
theorem o_sub : OpR X (binaryOp .Sub) (rM2 X.K gSub) := op_gI0 op_sub
theorem op_gI2 {F : Value → Value → Sem Value} {C : Int → Int → Bool} {C' C'' : Int → Int → Prop} {f : Int → Int → Int} (o : OpR X F (rI C' fun i j => .int (f i j))) (o' : OpR X F (rI C'' fun i j => .int (f i j))) (hc : ∀ i j, C i j = true → C' i j ∨ C'' i j) : OpR X F (rM2 X.K (gI C fun i j => .int (f i j))) := by
  refine (o.or o').imp ?_
  rintro x y H Q ⟨φ, h, dx, dy, d, h', rh, rx, ry, eq, k⟩
  obtain ⟨i, j, rfl, rfl, c, rfl, rfl⟩ := gI_some eq
  rcases hc i j c with c | c
  · exact .inl ⟨i, j, rx.int_inv, ry.int_inv, c, k φ _ H (List.prefix_refl φ) (HK.refl H) rh (.p (.int _))⟩
  · exact .inr ⟨i, j, rx.int_inv, ry.int_inv, c, k φ _ H (List.prefix_refl φ) (HK.refl H) rh (.p (.int _))⟩
theorem cMulW_ok {i j : Int} (h : cMulW i j = true) : CMul i j ∨ CMulW i j := by
  rw [Bool.or_eq_true] at h
  rcases h with h | h
  · exact .inl (cMul_ok h)
  · exact .inr (show i.natAbs.log2 + j.natAbs.log2 < 1000000 from of_decide_eq_true h)
theorem cDivW_ok {j : Int} (i : Int) (h : decide (0 < j ∧ j < 2 ^ 64) = true) : CDivW i j := by
  have q := of_decide_eq_true h
  exact wide_div q.1 (show j.natAbs < 2 ^ 64 by omega) (by decide) (by decide)
def CPowW (i j : Int) : Prop := 0 ≤ j ∧ (Builtin.Int.intBits i : Int) * j ≤ 2 ^ 27
theorem op_powW : OpR X (binaryOp .Pow) (rI CPowW fun i j => .int (i ^ j.toNat)) := opI fun _ _ _ _ _ _ _ hc q => PyProof.Rows.pow_int hc.1 hc.2 q
theorem o_mul : OpR X (binaryOp .Mult) (rM2 X.K gMul) := op_gI2 op_mul op_mulW fun _ _ h => cMulW_ok h
theorem o_mod : OpR X (binaryOp .Mod) (rM2 X.K gMod) := op_gI op_mod fun _ _ h => by simpa using h
theorem o_div : OpR X (binaryOp .FloorDiv) (rM2 X.K gDiv) := op_gI op_fdivW fun i _ h => cDivW_ok i h
theorem o_pow : OpR X (binaryOp .Pow) (rM2 X.K gPow) := op_gI op_powW fun i j h => (show 0 ≤ j ∧ (Builtin.Int.intBits i : Int) * j ≤ 2 ^ 27 from of_decide_eq_true h)
theorem o_shl : OpR X (binaryOp .LShift) (rM2 X.K gShl) := op_gI op_shl fun _ _ h => cPow_ok h
theorem o_shr : OpR X (binaryOp .RShift) (rM2 X.K gShr) := op_gI op_shr fun _ _ h => by simpa using h
theorem o_and : OpR X (binaryOp .BitAnd) (rM2 X.K gAnd) := op_gI0 op_and
theorem o_or : OpR X (binaryOp .BitOr) (rM2 X.K gOr) := op_gI0 op_or
theorem o_xor : OpR X (binaryOp .BitXor) (rM2 X.K gXor) := op_gI0 op_xor
theorem o_gt : OpR X (compareOp .Gt) (rM2 X.K gGt) := op_gB0 op_gt
theorem o_le : OpR X (compareOp .LtE) (rM2 X.K gLe) := op_gB0 op_le
theorem o_ge : OpR X (compareOp .GtE) (rM2 X.K gGe) := op_gB0 op_ge
/-- +: numbers, tuples, lists -/
def gAdd : G2 := fun x y h => match x, y with
  | .p (.int i), .p (.int j) => some (.p (.int (i + j)), h)
  | .p (.tuple as), .p (.tuple bs) => if as.length + bs.length ≤ sizeLine then some (.p (.tuple (as ++ bs)), h) else none
  | .loc n, .loc m => match h[n]?, h[m]? with
    | some (.lst as), some (.lst bs) => if as.length + bs.length ≤ sizeLine then some (.loc h.length, h ++ [.lst (as ++ bs)]) else none
    | _, _ => none
  | _, _ => none
theorem o_add : OpR X (binaryOp .Add) (rM2 X.K gAdd) := by
  refine (op_add.or (op_catA.or op_cat)).imp ?_
  rintro x y H Q ⟨φ, h, dx, dy, d, h', rh, rx, ry, eq, k⟩
  unfold gAdd at eq
  split at eq
  · cases eq
    exact .inl ⟨_, _, rx.int_inv, ry.int_inv, k φ _ H (List.prefix_refl φ) (HK.refl H) rh (.p (.int _))⟩
  · rename_i as bs
    split at eq
    · rename_i hz
      cases eq
      obtain ⟨a, xs, rfl, sx, qx⟩ := rx.tup_inv
      obtain ⟨b, ys, rfl, sy, qy⟩ := ry.tup_inv
      refine .inr (.inl ⟨a, b, xs, ys, rfl, rfl, SqT.of sx, SqT.of sy, by rw [← qx.length, ← qy.length]; exact hz, fun e => ?_, fun _ e => ?_, fun _ _ p hp => ?_⟩)
      · subst e
        cases qx
        exact k φ _ H (List.prefix_refl φ) (HK.refl H) rh (.p (.tup sy qy))
      · subst e
        cases qy
        rw [List.append_nil] at k
        exact k φ _ H (List.prefix_refl φ) (HK.refl H) rh (.p (.tup sx qx))
      · exact k φ _ _ (List.prefix_refl φ) (HK.new hp) (rh.side hp) (RV.newP hp (qx.append qy))
    · cases eq
  · rename_i n m
    split at eq
    · rename_i as bs e1 e2
      split at eq
      · rename_i hz
        cases eq
        obtain ⟨a, xs, rfl, ea, ha, qx⟩ := loc_lst rh rx e1
        obtain ⟨b, ys, rfl, eb, hb, qy⟩ := loc_lst rh ry e2
        refine .inr (.inr ⟨a, b, xs, ys, rfl, rfl, ha, hb, by rw [← qx.length, ← qy.length]; exact hz, fun p hp => ?_⟩)
        obtain ⟨r1, r2⟩ := rh.newL hp (qx.append qy)
        exact k _ _ _ (List.prefix_append _ _) (HK.new hp) r1 r2
      · cases eq
    · cases eq
  · cases eq
/-! ### one-place operations -/
abbrev G1 := Mv → Hq → Option (Mv × Hq)
def rM1 (K : PySem.W.Frag) (g : G1) : V → Hp → VK → Prop := fun x H Q => ∃ φ h dx d h', RH K φ h H ∧ RV K φ H dx x ∧ g dx h = some (d, h') ∧
  ∀ φ' v H', φ <+: φ' → HK H H' → RH K φ' h' H' → RV K φ' H' d v → Q v H'
def mU (g : G1) (a : ME) : ME := fun e h => (a e h).bind fun r => g r.1 r.2
theorem _root_.L2.UnR.imp {f : Value → Sem Value} {r r' : V → Hp → VK → Prop} (h : UnR X f r) (i : ∀ x H Q, r' x H Q → r x H Q) : UnR X f r' := fun pins s σ H x v Q I rx q => h pins s σ H x v Q I rx (i x H Q q)
theorem tM_un {K : PySem.W.Frag} {g : G1} {σ : L2.St} {H : Hp} {Q : VK} (q : tM K (mU g ma) σ H Q) : tUn (rM1 K g) (tM K ma) σ H Q := by
  obtain ⟨φ, e, h, d, h', re, rh, eq, k⟩ := q
  obtain ⟨⟨d1, h1⟩, e1, eq⟩ := Option.bind_eq_some_iff.mp eq
  exact ⟨φ, e, h, d1, h1, re, rh, e1, fun φ1 v1 H1 p1 k1 rh1 rv1 => ⟨φ1, h1, d1, d, h', rh1, rv1, eq, fun φ3 v H3 p3 k3 rh3 rv3 => k φ3 v H3 (p1.trans p3) (k1.trans k3) rh3 rv3⟩⟩
theorem me_un {op : UnaryOp} {g : G1} (ho : UnR X (unaryOp op) (rM1 X.K g)) (ha : PE X a (tM X.K ma)) : PE X (.UnaryOp op a pos) (tM X.K (mU g ma)) := (pe_un ho ha).conseq fun _ _ _ q => tM_un q
def gU (f : Int → Int) : G1 := fun x h => match x with
  | .p (.int i) => some (.p (.int (f i)), h)
  | _ => none
theorem un_gU {F : Value → Sem Value} {f : Int → Int} (o : UnR X F (rU fun i => .int (f i))) : UnR X F (rM1 X.K (gU f)) := by
  refine o.imp ?_
  rintro x H Q ⟨φ, h, dx, d, h', rh, rx, eq, k⟩
  unfold gU at eq
  split at eq
  · cases eq
    exact ⟨_, rx.int_inv, k φ _ H (List.prefix_refl φ) (HK.refl H) rh (.p (.int _))⟩
  · cases eq
abbrev gNeg : G1 := gU fun i => -i
abbrev gInv : G1 := gU fun i => Builtin.bitNot i
theorem o_neg : UnR X (unaryOp .USub) (rM1 X.K gNeg) := un_gU un_neg
theorem o_inv : UnR X (unaryOp .Invert) (rM1 X.K gInv) := un_gU un_inv
end
end MX
set_option Elab.async false
set_option linter.all false
set_option maxRecDepth 100000
set_option maxHeartbeats 1000000
set_option autoImplicit false
namespace MX
open PySem PySem.Spec L2
section
variable {X : Cx} {a b c o i : Expr} {ma mb mc mo mi : ME} {pos : Pos} {rest : List Expr}
/-! ### and, or, not, if as values -/
def mAnd (a b : ME) : ME := fun e h => (a e h).bind fun r => match r.1 with
  | .p (.bool true) => b e r.2
  | .p (.bool false) => some (.p (.bool false), r.2)
  | _ => none
def mOr (a b : ME) : ME := fun e h => (a e h).bind fun r => match r.1 with
  | .p (.bool true) => some (.p (.bool true), r.2)
  | .p (.bool false) => b e r.2
  | _ => none
def mNot (a : ME) : ME := fun e h => (a e h).bind fun r => match r.1 with
  | .p (.bool k) => some (.p (.bool (!k)), r.2)
  | _ => none
theorem me_one {op : BoolOp} (h : PE X a (tM X.K ma)) : PE X (.BoolOp op [a] pos) (tM X.K ma) := pe_one h
theorem me_and (ha : PE X a (tM X.K ma)) (hb : PE X (.BoolOp .And (b :: rest) pos) (tM X.K mb)) : PE X (.BoolOp .And (a :: b :: rest) pos) (tM X.K (mAnd ma mb)) := by
  refine (pe_and ha hb).conseq ?_
  rintro σ H Q ⟨φ, e, h, d, h', re, rh, eq, k⟩
  obtain ⟨⟨d1, h1⟩, e1, eq⟩ := Option.bind_eq_some_iff.mp eq
  refine ⟨φ, e, h, d1, h1, re, rh, e1, fun φ1 v1 H1 p1 k1 rh1 rv1 => ?_⟩
  dsimp only at eq
  split at eq
  · refine ⟨true, rv1.bl_inv, ?_⟩
    rw [if_pos rfl]
    exact ⟨φ1, e, h1, d, h', re.mono p1 k1, rh1, eq, fun φ2 v2 H2 p2 k2 => k φ2 v2 H2 (p1.trans p2) (k1.trans k2)⟩
  · cases eq
    refine ⟨false, rv1.bl_inv, ?_⟩
    rw [if_neg (by decide)]
    exact k φ1 _ H1 p1 k1 rh1 (.p (.bl false))
  · cases eq
theorem me_or (ha : PE X a (tM X.K ma)) (hb : PE X (.BoolOp .Or (b :: rest) pos) (tM X.K mb)) : PE X (.BoolOp .Or (a :: b :: rest) pos) (tM X.K (mOr ma mb)) := by
  refine (pe_or ha hb).conseq ?_
  rintro σ H Q ⟨φ, e, h, d, h', re, rh, eq, k⟩
  obtain ⟨⟨d1, h1⟩, e1, eq⟩ := Option.bind_eq_some_iff.mp eq
  refine ⟨φ, e, h, d1, h1, re, rh, e1, fun φ1 v1 H1 p1 k1 rh1 rv1 => ?_⟩
  dsimp only at eq
  split at eq
  · cases eq
    refine ⟨true, rv1.bl_inv, ?_⟩
    rw [if_pos rfl]
    exact k φ1 _ H1 p1 k1 rh1 (.p (.bl true))
  · refine ⟨false, rv1.bl_inv, ?_⟩
    rw [if_neg (by decide)]
    exact ⟨φ1, e, h1, d, h', re.mono p1 k1, rh1, eq, fun φ2 v2 H2 p2 k2 => k φ2 v2 H2 (p1.trans p2) (k1.trans k2)⟩
  · cases eq
theorem me_not (ha : PE X a (tM X.K ma)) : PE X (.UnaryOp .Not a pos) (tM X.K (mNot ma)) := by
  refine (pe_not ha).conseq ?_
  rintro σ H Q ⟨φ, e, h, d, h', re, rh, eq, k⟩
  obtain ⟨⟨d1, h1⟩, e1, eq⟩ := Option.bind_eq_some_iff.mp eq
  refine ⟨φ, e, h, d1, h1, re, rh, e1, fun φ1 v1 H1 p1 k1 rh1 rv1 => ?_⟩
  dsimp only at eq
  split at eq
  · cases eq
    exact ⟨_, rv1.bl_inv, k φ1 _ H1 p1 k1 rh1 (.p (.bl _))⟩
  · cases eq
/-! ### tests -/
variable {ta tb : MT}
def tAndM (a b : MT) : MT := fun e h => (a e h).bind fun r => if r.1 = true then b e r.2 else some (false, r.2)
def tOrM (a b : MT) : MT := fun e h => (a e h).bind fun r => if r.1 = true then some (true, r.2) else b e r.2
def tNotM (a : MT) : MT := fun e h => (a e h).bind fun r => some (!r.1, r.2)
theorem mw_and1 (ha : PT X a (tT X.K ta)) : PW X (.BoolOp .And [a] pos) (tT X.K ta) := pw_and1 ha
theorem mw_or1 (ha : PT X a (tT X.K ta)) : PW X (.BoolOp .Or [a] pos) (tT X.K ta) := pw_or1 ha
theorem mw_and (ha : PT X a (tT X.K ta)) (hb : PW X (.BoolOp .And (b :: rest) pos) (tT X.K tb)) : PW X (.BoolOp .And (a :: b :: rest) pos) (tT X.K (tAndM ta tb)) := by
  refine (pw_and ha hb).conseq ?_
  rintro σ H Q ⟨φ, e, h, d, h', re, rh, eq, k⟩
  obtain ⟨⟨d1, h1⟩, e1, eq⟩ := Option.bind_eq_some_iff.mp eq
  refine ⟨φ, e, h, d1, h1, re, rh, e1, fun φ1 H1 p1 k1 rh1 => ?_⟩
  dsimp only at eq
  cases d1 with
  | true =>
    rw [if_pos rfl] at eq ⊢
    exact ⟨φ1, e, h1, d, h', re.mono p1 k1, rh1, eq, fun φ2 H2 p2 k2 => k φ2 H2 (p1.trans p2) (k1.trans k2)⟩
  | false =>
    rw [if_neg (by decide)] at eq ⊢
    cases eq
    exact k φ1 H1 p1 k1 rh1
theorem mw_or (ha : PT X a (tT X.K ta)) (hb : PW X (.BoolOp .Or (b :: rest) pos) (tT X.K tb)) : PW X (.BoolOp .Or (a :: b :: rest) pos) (tT X.K (tOrM ta tb)) := by
  refine (pw_or ha hb).conseq ?_
  rintro σ H Q ⟨φ, e, h, d, h', re, rh, eq, k⟩
  obtain ⟨⟨d1, h1⟩, e1, eq⟩ := Option.bind_eq_some_iff.mp eq
  refine ⟨φ, e, h, d1, h1, re, rh, e1, fun φ1 H1 p1 k1 rh1 => ?_⟩
  dsimp only at eq
  cases d1 with
  | true =>
    rw [if_pos rfl] at eq ⊢
    cases eq
    exact k φ1 H1 p1 k1 rh1
  | false =>
    rw [if_neg (by decide)] at eq ⊢
    exact ⟨φ1, e, h1, d, h', re.mono p1 k1, rh1, eq, fun φ2 H2 p2 k2 => k φ2 H2 (p1.trans p2) (k1.trans k2)⟩
theorem mt_not (ha : PT X a (tT X.K ta)) : PT X (.UnaryOp .Not a pos) (tT X.K (tNotM ta)) := by
  refine (pt_not ha).conseq ?_
  rintro σ H Q ⟨φ, e, h, d, h', re, rh, eq, k⟩
  obtain ⟨⟨d1, h1⟩, e1, eq⟩ := Option.bind_eq_some_iff.mp eq
  cases eq
  exact ⟨φ, e, h, d1, h1, re, rh, e1, fun φ1 H1 p1 k1 rh1 => k φ1 H1 p1 k1 rh1⟩
/-- truth of a value -/
def truM (h : Hq) : Mv → Option Bool
  | .p .none => some false
  | .p (.bool b) => some b
  | .p (.int i) => some (i != 0)
  | .p (.tuple ds) => some (!ds.isEmpty)
  | .tl ds => some (!ds.isEmpty)
  | d => (lstOf h d).map fun ds => !ds.isEmpty
def tTru (a : ME) : MT := fun e h => (a e h).bind fun r => (truM r.2 r.1).bind fun b => some (b, r.2)
theorem isEmpty_len {α β : Type} {xs : List α} {ys : List β} (h : xs.length = ys.length) : (!xs.isEmpty) = !ys.isEmpty := by
  cases xs <;> cases ys <;> simp_all
theorem mt_tru (ha : PE X a (tM X.K ma)) (he : ∀ whole, isTrue a X.env whole = (do let v ← whole; standAt a.pos; holding [v] (truthy v)) := by intro _; rfl) : PT X a (tT X.K (tTru ma)) := by
  refine (pt_truth ha he).conseq ?_
  rintro σ H Q ⟨φ, e, h, d, h', re, rh, eq, k⟩
  obtain ⟨⟨d1, h1⟩, e1, eq⟩ := Option.bind_eq_some_iff.mp eq
  obtain ⟨b, e2, eq⟩ := Option.bind_eq_some_iff.mp eq
  cases eq
  refine ⟨φ, e, h, d1, h1, re, rh, e1, fun φ1 v1 H1 p1 k1 rh1 rv1 => ⟨d, ?_, k φ1 H1 p1 k1 rh1⟩⟩
  unfold truM at e2
  dsimp only at e2
  split at e2
  · cases e2; rw [rv1.non_inv]; rfl
  · cases e2; rw [rv1.bl_inv]; rfl
  · cases e2; rw [rv1.int_inv]; rfl
  · cases e2
    obtain ⟨q, xs, rfl, s, r⟩ := rv1.tup_inv
    exact .inr (.inl ⟨xs, SqT.of s, isEmpty_len r.length⟩)
  · cases e2
    obtain ⟨q, xs, rfl, s, r⟩ := rv1.tl_inv
    exact .inr (.inl ⟨xs, SqT.of s, isEmpty_len r.length⟩)
  · obtain ⟨ds, e3, rfl⟩ := Option.map_eq_some_iff.mp e2
    obtain ⟨q, xs, rfl, s, r⟩ := lstOf_ok rh1 rv1 e3
    exact .inl ⟨xs, s, isEmpty_len r.length⟩
/-- a if t else b -/
def mIf (t : MT) (a b : ME) : ME := fun e h => (t e h).bind fun r => if r.1 = true then a e r.2 else b e r.2
theorem me_if {t : Expr} (ht : PT X t (tT X.K ta)) (ha : PE X a (tM X.K ma)) (hb : PE X b (tM X.K mb)) : PE X (.IfExp t a b pos) (tM X.K (mIf ta ma mb)) := by
  refine (pe_ifExp ht ha hb).conseq ?_
  rintro σ H Q ⟨φ, e, h, d, h', re, rh, eq, k⟩
  obtain ⟨⟨d1, h1⟩, e1, eq⟩ := Option.bind_eq_some_iff.mp eq
  refine ⟨φ, e, h, d1, h1, re, rh, e1, fun φ1 H1 p1 k1 rh1 => ?_⟩
  dsimp only at eq
  cases d1 with
  | true =>
    rw [if_pos rfl] at eq ⊢
    exact ⟨φ1, e, h1, d, h', re.mono p1 k1, rh1, eq, fun φ2 v2 H2 p2 k2 => k φ2 v2 H2 (p1.trans p2) (k1.trans k2)⟩
  | false =>
    rw [if_neg (by decide)] at eq ⊢
    exact ⟨φ1, e, h1, d, h', re.mono p1 k1, rh1, eq, fun φ2 v2 H2 p2 k2 => k φ2 v2 H2 (p1.trans p2) (k1.trans k2)⟩
end

/-! ### == of data -/
section
variable {K : PySem.W.Frag} {φ : List Addr} {H : Hp} {h : Hq}
mutual
theorem RP.dp : ∀ {d : Pd} {v : V}, RP K H d v → Dp K H v d
  | _, _, .non => .non
  | _, _, .bl b => .bl b
  | _, _, .int i => .int i
  | _, _, .str x => .str x
  | _, _, .tup s r => .tup (SqT.of s) (RPs.dp r)
theorem RPs.dp : ∀ {ds : List Pd} {vs : List V}, RPs K H ds vs → DpAll K H vs ds
  | _, _, .nil => .nil
  | _, _, .cons r s => .cons (RP.dp r) (RPs.dp s)
end
/-- the data of a value, lists of data too -/
def dat1 (h : Hq) : Mv → Option Pd
  | .p x => some x
  | .tl _ => none
  | .und => none
  | .ct x => some x
  | d => (lstOf h d).bind fun ds => (allP ds).map .list
def dat1s (h : Hq) : List Mv → Option (List Pd)
  | [] => some []
  | d :: r => match dat1 h d, dat1s h r with
    | some x, some xs => some (x :: xs)
    | _, _ => none
def datOf (h : Hq) : Mv → Option Pd
  | .p x => some x
  | .tl _ => none
  | .und => none
  | .ct x => some x
  | d => (lstOf h d).bind fun ds => (dat1s h ds).map .list
mutual
theorem RC.dp : ∀ {d : Pd} {v : V}, RC K d v → Dp K H v d
  | _, _, .non => .non
  | _, _, .bl b => .bl b
  | _, _, .int i => .int i
  | _, _, .str x => .str x
  | _, _, .tup s r => .tup (.inr s) (RCs.dp r)
theorem RCs.dp : ∀ {ds : List Pd} {vs : List V}, RCs K ds vs → DpAll K H vs ds
  | _, _, .nil => .nil
  | _, _, .cons r s => .cons (RC.dp r) (RCs.dp s)
end
theorem dat1_ok (rh : RH K φ h H) {d : Mv} {v : V} {x : Pd} (r : RV K φ H d v) (e : dat1 h d = some x) : Dp K H v x := by
  unfold dat1 at e
  split at e
  · cases e; exact r.p_inv.dp
  · cases e
  · cases e
  · cases e; exact r.ct_inv.dp
  · obtain ⟨ds, e1, e⟩ := Option.bind_eq_some_iff.mp e
    obtain ⟨xs, e2, rfl⟩ := Option.map_eq_some_iff.mp e
    obtain ⟨a, vs, rfl, s, q⟩ := lstOf_ok rh r e1
    rw [allP_ok e2] at q
    exact .lst s q.of_p.dp
theorem dat1s_ok (rh : RH K φ h H) : ∀ {ds : List Mv} {vs : List V} {xs : List Pd}, RVs K φ H ds vs → dat1s h ds = some xs → DpAll K H vs xs
  | [], _, _, .nil, e => by cases e; exact .nil
  | d :: ds, _, _, .cons r s, e => by
    unfold dat1s at e
    split at e
    · rename_i x xs e1 e2
      cases e
      exact .cons (dat1_ok rh r e1) (dat1s_ok rh s e2)
    · cases e
theorem datOf_ok (rh : RH K φ h H) {d : Mv} {v : V} {x : Pd} (r : RV K φ H d v) (e : datOf h d = some x) : Dp K H v x := by
  unfold datOf at e
  split at e
  · cases e; exact r.p_inv.dp
  · cases e
  · cases e
  · cases e; exact r.ct_inv.dp
  · obtain ⟨ds, e1, e⟩ := Option.bind_eq_some_iff.mp e
    obtain ⟨xs, e2, rfl⟩ := Option.map_eq_some_iff.mp e
    obtain ⟨a, vs, rfl, s, q⟩ := lstOf_ok rh r e1
    exact .lst s (dat1s_ok rh q e2)
end
/-- what == looks at -/
def eqD (x y : Pd) : Option Bool := if SeqAt.shaped x = true ∧ SeqAt.shaped y = true then some (PyData.eqv x y) else none
def gEq : G2 := fun x y h => (datOf h x).bind fun d => (datOf h y).bind fun e => (eqD d e).map fun k => (.p (.bool k), h)
def gNe : G2 := fun x y h => (datOf h x).bind fun d => (datOf h y).bind fun e => (eqD d e).map fun k => (.p (.bool (!k)), h)
section
variable {X : Cx}
theorem o_eq (hu : X.A.units + 64 < cLine) : OpR X (compareOp .Eq) (rM2 X.K gEq) := by
  refine (op_eqD hu).imp ?_
  rintro x y H Q ⟨φ, h, dx, dy, d, h', rh, rx, ry, eq, k⟩
  obtain ⟨u, e1, eq⟩ := Option.bind_eq_some_iff.mp eq
  obtain ⟨w, e2, eq⟩ := Option.bind_eq_some_iff.mp eq
  obtain ⟨k', e3, eq⟩ := Option.map_eq_some_iff.mp eq
  cases eq
  unfold eqD at e3
  split at e3
  · rename_i hs
    cases e3
    exact ⟨u, w, datOf_ok rh rx e1, datOf_ok rh ry e2, hs.1, hs.2, k φ _ H (List.prefix_refl φ) (HK.refl H) rh (.p (.bl _))⟩
  · cases e3
theorem o_ne (hu : X.A.units + 64 < cLine) : OpR X (compareOp .NotEq) (rM2 X.K gNe) := by
  refine (op_neD hu).imp ?_
  rintro x y H Q ⟨φ, h, dx, dy, d, h', rh, rx, ry, eq, k⟩
  obtain ⟨u, e1, eq⟩ := Option.bind_eq_some_iff.mp eq
  obtain ⟨w, e2, eq⟩ := Option.bind_eq_some_iff.mp eq
  obtain ⟨k', e3, eq⟩ := Option.map_eq_some_iff.mp eq
  cases eq
  unfold eqD at e3
  split at e3
  · rename_i hs
    cases e3
    exact ⟨u, w, datOf_ok rh rx e1, datOf_ok rh ry e2, hs.1, hs.2, k φ _ H (List.prefix_refl φ) (HK.refl H) rh (.p (.bl _))⟩
  · cases e3
/-- < : whole numbers, tuples of whole numbers -/
def intsD : List Pd → Option (List Int)
  | [] => some []
  | .int i :: r => (intsD r).map (i :: ·)
  | _ :: _ => none
theorem intsD_ok : ∀ {ds : List Pd} {ns : List Int}, intsD ds = some ns → ds = ns.map PyData.int
  | [], _, h => by cases h; rfl
  | .int i :: r, ns, h => by
    simp only [intsD, Option.map_eq_some_iff] at h
    obtain ⟨ys, e, rfl⟩ := h
    rw [intsD_ok e]; rfl
  | .none :: _, _, h => by simp [intsD] at h
  | .bool _ :: _, _, h => by simp [intsD] at h
  | .str _ :: _, _, h => by simp [intsD] at h
  | .list _ :: _, _, h => by simp [intsD] at h
  | .tuple _ :: _, _, h => by simp [intsD] at h
  | .dict _ :: _, _, h => by simp [intsD] at h
@[simp] theorem intsD_map (ns : List Int) : intsD (ns.map PyData.int) = some ns := by
  induction ns with
  | nil => rfl
  | cons n ns ih => simp [intsD, ih]
def gLtA : G2 := fun x y h => match x, y with
  | .p (.int i), .p (.int j) => some (.p (.bool (decide (i < j))), h)
  | .p (.tuple as), .p (.tuple bs) => (intsD as).bind fun ns => (intsD bs).map fun ms => (.p (.bool (HT.lexLt ns ms)), h)
  | _, _ => none
theorem o_lt (hu : X.A.units < cLine) : OpR X (compareOp .Lt) (rM2 X.K gLtA) := by
  refine (op_lt.or (op_ltT hu)).imp ?_
  rintro x y H Q ⟨φ, h, dx, dy, d, h', rh, rx, ry, eq, k⟩
  unfold gLtA at eq
  split at eq
  · cases eq
    exact .inl ⟨_, _, rx.int_inv, ry.int_inv, k φ _ H (List.prefix_refl φ) (HK.refl H) rh (.p (.bl _))⟩
  · obtain ⟨ns, e1, eq⟩ := Option.bind_eq_some_iff.mp eq
    obtain ⟨ms, e2, eq⟩ := Option.map_eq_some_iff.mp eq
    cases eq
    obtain ⟨a, xs, rfl, sx, qx⟩ := rx.tup_inv
    obtain ⟨b, ys, rfl, sy, qy⟩ := ry.tup_inv
    rw [intsD_ok e1] at qx
    rw [intsD_ok e2] at qy
    rw [qx.ints] at sx
    rw [qy.ints] at sy
    exact .inr ⟨a, b, ns, ms, rfl, rfl, SqT.of sx, SqT.of sy, k φ _ H (List.prefix_refl φ) (HK.refl H) rh (.p (.bl _))⟩
  · cases eq
/-- is None -/
def bl1 : Mv → Option Bool
  | .p (.bool a) => some a
  | _ => none
theorem bl1_some {x : Mv} {a : Bool} (h : bl1 x = some a) : x = .p (.bool a) := by
  unfold bl1 at h
  split at h
  · cases h; rfl
  · cases h
def gIsN : G2 := fun x y h => match y with
  | .p .none => match x with
    | .p .none => some (.p (.bool true), h)
    | .und => none
    | .ct _ => none
    | _ => some (.p (.bool false), h)
  | .p (.bool b) => (bl1 x).map fun a => (.p (.bool (decide (a = b))), h)
  | _ => none
def gNotN : G2 := fun x y h => match y with
  | .p .none => match x with
    | .p .none => some (.p (.bool false), h)
    | .und => none
    | .ct _ => none
    | _ => some (.p (.bool true), h)
  | .p (.bool b) => (bl1 x).map fun a => (.p (.bool (!decide (a = b))), h)
  | _ => none
theorem isN_dec {K : PySem.W.Frag} {φ : List Addr} {H : Hp} {x : Mv} {v : V} (r : RV K φ H x v) (n : x ≠ .p .none) (n2 : ∀ y, x ≠ .ct y) : v ≠ .non := by
  intro e
  subst e
  cases r with
  | p q => cases q; exact n rfl
  | ct q => exact n2 _ rfl
theorem o_isN : OpR X (compareOp .Is) (rM2 X.K gIsN) := by
  refine (op_isN.or op_is_bl).imp ?_
  rintro x y H Q ⟨φ, h, dx, dy, d, h', rh, rx, ry, eq, k⟩
  unfold gIsN at eq
  split at eq
  · refine .inl ⟨ry.non_inv, ?_⟩
    split at eq
    · cases eq
      rw [rx.non_inv]
      exact k φ _ H (List.prefix_refl φ) (HK.refl H) rh (.p (.bl _))
    · cases eq
    · cases eq
    · rename_i n1 n2 n3
      cases eq
      rw [decide_eq_false (isN_dec rx (by intro z; exact n1 z) (by intro y z; exact n3 y z))]
      exact k φ _ H (List.prefix_refl φ) (HK.refl H) rh (.p (.bl _))
  · obtain ⟨a, ea, eq⟩ := Option.map_eq_some_iff.mp eq
    cases eq
    rw [bl1_some ea] at rx
    exact .inr ⟨a, _, rx.bl_inv, ry.bl_inv, k φ _ H (List.prefix_refl φ) (HK.refl H) rh (.p (.bl _))⟩
  · cases eq
theorem o_notN : OpR X (compareOp .IsNot) (rM2 X.K gNotN) := by
  refine (op_notN.or op_isnot_bl).imp ?_
  rintro x y H Q ⟨φ, h, dx, dy, d, h', rh, rx, ry, eq, k⟩
  unfold gNotN at eq
  split at eq
  · refine .inl ⟨ry.non_inv, ?_⟩
    split at eq
    · cases eq
      rw [rx.non_inv]
      exact k φ _ H (List.prefix_refl φ) (HK.refl H) rh (.p (.bl _))
    · cases eq
    · cases eq
    · rename_i n1 n2 n3
      cases eq
      rw [decide_eq_false (isN_dec rx (by intro z; exact n1 z) (by intro y z; exact n3 y z))]
      exact k φ _ H (List.prefix_refl φ) (HK.refl H) rh (.p (.bl _))
  · obtain ⟨a, ea, eq⟩ := Option.map_eq_some_iff.mp eq
    cases eq
    rw [bl1_some ea] at rx
    exact .inr ⟨a, _, rx.bl_inv, ry.bl_inv, k φ _ H (List.prefix_refl φ) (HK.refl H) rh (.p (.bl _))⟩
  · cases eq
end
end MX
set_option Elab.async false
set_option linter.all false
set_option maxRecDepth 100000
set_option maxHeartbeats 1000000
set_option autoImplicit false
namespace MX
open PySem PySem.Spec L2
/-! ### x in xs: lists, tuples of data; dicts -/
section
variable {X : Cx}
theorem op_inT (hu : X.A.units + 65 < cLine) : OpR X (compareOp .In) (fun x y H Q => ∃ d ds, Dp X.K H x d ∧ Dp X.K H y (.tuple ds) ∧ SeqAt.shaped d = true ∧ SeqAt.shaped (.tuple ds) = true ∧ Q (.bl (ds.any fun z => PyData.eqv z d)) H) := by
  intro pins s σ H x y v u Q I rx ry h
  obtain ⟨d, ds, hd, he, sd, se, q⟩ := h
  obtain ⟨as, r1⟩ := Dp.reads I d x v hd rx
  obtain ⟨bs, r2⟩ := Dp.reads I (.tuple ds) y u he ry
  exact SeqAt.in_tuple_reads r2 r1 (SeqAt.canLay_of_shaped se) (SeqAt.canLay_of_shaped sd) (PyProof.Rows.room_in_shaped sd hu) ⟨.bl _, H, I, rfl, q⟩
theorem op_notInT (hu : X.A.units + 65 < cLine) : OpR X (compareOp .NotIn) (fun x y H Q => ∃ d ds, Dp X.K H x d ∧ Dp X.K H y (.tuple ds) ∧ SeqAt.shaped d = true ∧ SeqAt.shaped (.tuple ds) = true ∧ Q (.bl (!ds.any fun z => PyData.eqv z d)) H) := by
  intro pins s σ H x y v u Q I rx ry h
  obtain ⟨d, ds, hd, he, sd, se, q⟩ := h
  obtain ⟨as, r1⟩ := Dp.reads I d x v hd rx
  obtain ⟨bs, r2⟩ := Dp.reads I (.tuple ds) y u he ry
  exact SeqAt.notIn_tuple_reads r2 r1 (SeqAt.canLay_of_shaped se) (SeqAt.canLay_of_shaped sd) (PyProof.Rows.room_in_shaped sd hu) ⟨.bl _, H, I, rfl, q⟩
theorem op_inDic (hu : X.A.units + 1 < cLine) : OpR X (compareOp .In) (fun x y H Q => ∃ a o, y = .ref a ∧ DGet H a x o ∧ Q (.bl o.isSome) H) := by
  intro pins s σ H x y v u Q I rx ry h
  obtain ⟨a, o, rfl, g, q⟩ := h
  obtain rfl : u = Value.ref a := ry
  exact d_in hu I g rx fun s3 I3 => ⟨.bl o.isSome, H, I3, rfl, q⟩
theorem op_notInDic (hu : X.A.units + 1 < cLine) : OpR X (compareOp .NotIn) (fun x y H Q => ∃ a o, y = .ref a ∧ DGet H a x o ∧ Q (.bl (!o.isSome)) H) := by
  intro pins s σ H x y v u Q I rx ry h
  obtain ⟨a, o, rfl, g, q⟩ := h
  obtain rfl : u = Value.ref a := ry
  exact d_notIn hu I g rx fun s3 I3 => ⟨.bl (!o.isSome), H, I3, rfl, q⟩
end
/-- what a dict holds -/
def keyEq (a b : Pd) : Bool := decide (kOf a = kOf b ∧ kTup a = kTup b)
def look (kvs : List (Pd × Mv)) (k : Pd) : Option Mv := (kvs.find? fun kv => keyEq kv.1 k).map (·.2)
/-- the dict of an object: how its keys are, its pairs -/
def dctOf (h : Hq) : Mv → Option (Bool × List (Pd × Mv))
  | .loc n => match h[n]? with
    | some (.dct t kvs) => some (t, kvs)
    | _ => none
  | _ => none
/-- a key that fits -/
def fitK (t : Bool) (k : Pd) : Bool := if t = true then (kTup k).isSome else (kOf k).isSome
section
variable {K : PySem.W.Frag} {φ : List Addr} {H : Hp} {h : Hq}
theorem kOf_v {k : Pd} {q : Key} {v : V} (e : kOf k = some q) (r : RP K H k v) : v = kV q := by
  unfold kOf at e
  split at e
  · cases e; cases r; rfl
  · cases e; cases r; rfl
  · cases e
theorem kOf_tup {k : Pd} {q : Key} (e : kOf k = some q) : kTup k = none := by
  unfold kOf at e
  split at e
  · rfl
  · rfl
  · cases e
theorem kTup_kOf {k : Pd} {q : List Key} (e : kTup k = some q) : kOf k = none := by
  unfold kTup at e
  split at e
  · rfl
  · cases e
theorem kOfs_v : ∀ {ks : List Pd} {q : List Key} {vs : List V}, kOfs ks = some q → RPs K H ks vs → vs = q.map kV
  | [], q, _, e, r => by cases e; cases r; rfl
  | d :: ds, q, _, e, r => by
    cases r with
    | cons r s =>
      unfold kOfs at e
      split at e
      · rename_i k ks e1 e2
        cases e
        rw [kOf_v e1 r, kOfs_v e2 s]; rfl
      · cases e
theorem kTup_v {k : Pd} {q : List Key} {v : V} (e : kTup k = some q) (r : RP K H k v) : ∃ b, v = .ref b ∧ H b = some (.tup (q.map kV)) := by
  unfold kTup at e
  split at e
  · cases r with
    | tup hs rs => exact ⟨_, rfl, by rw [hs, kOfs_v e rs]⟩
  · cases e
theorem look_rk {κ : Type} [DecidableEq κ] {f : Pd → Option κ} {k : Pd} {q : κ} (ek : f k = some q) : ∀ {kvs : List (Pd × Mv)} {ks : List (κ × V)}, RKv K φ H f kvs ks →
    (∀ p ∈ kvs, ∀ r, f p.1 = some r → (keyEq p.1 k = true ↔ r = q)) → (look kvs k = none ∧ valV ks q = none) ∨ ∃ d v, look kvs k = some d ∧ valV ks q = some v ∧ RV K φ H d v
  | _, _, .nil, _ => .inl ⟨rfl, rfl⟩
  | _, _, .cons (k := k') (d := d) (r := r) (q := q') (v := v) (s := s) e rv t, c => by
    have c0 := c (k', d) List.mem_cons_self q' e
    by_cases z : q' = q
    · right
      refine ⟨d, v, ?_, valV_pos z, rv⟩
      unfold look
      rw [List.find?_cons_of_pos (by simpa using c0.mpr z)]
      rfl
    · have n : ¬ (keyEq k' k = true) := fun w => z (c0.mp w)
      have e1 : look ((k', d) :: r) k = look r k := by
        unfold look
        rw [List.find?_cons_of_neg (by simpa using n)]
      have e2 : valV ((q', v) :: s) q = valV s q := valV_neg z
      rw [e1, e2]
      exact look_rk ek t fun p hp => c p (List.mem_cons_of_mem _ hp)
theorem keyEq_k {a k : Pd} {q r : Key} (ek : kOf k = some q) (er : kOf a = some r) : keyEq a k = true ↔ r = q := by
  unfold keyEq
  rw [er, ek, kOf_tup er, kOf_tup ek]; simp
theorem keyEq_t {a k : Pd} {q r : List Key} (ek : kTup k = some q) (er : kTup a = some r) : keyEq a k = true ↔ r = q := by
  unfold keyEq
  rw [er, ek, kTup_kOf er, kTup_kOf ek]; simp
theorem dctOf_ok (rh : RH K φ h H) {d : Mv} {x : V} {t : Bool} {kvs : List (Pd × Mv)} (rd : RV K φ H d x) (e : dctOf h d = some (t, kvs)) : ∃ n a, d = .loc n ∧ x = .ref a ∧ φ[n]? = some a ∧ RO K φ H a (.dct t kvs) := by
  unfold dctOf at e
  split at e
  · rename_i n
    split at e
    · rename_i t' kvs' eo
      cases e
      obtain ⟨a, rfl, ea⟩ := rd.loc_inv
      obtain ⟨b, eb, ro⟩ := rh.ob n _ eo
      rw [ea] at eb; cases eb
      exact ⟨n, a, rfl, rfl, ea, ro⟩
    · cases e
  · cases e
/-- reading a dict -/
theorem dget_of (rh : RH K φ h H) {d : Mv} {k : Pd} {x y : V} {t : Bool} {kvs : List (Pd × Mv)} (rd : RV K φ H d x) (e : dctOf h d = some (t, kvs)) (rk : RP K H k y) (ok : fitK t k = true) :
    ∃ a o, x = .ref a ∧ DGet H a y o ∧ ((look kvs k = none ∧ o = none) ∨ ∃ dv v, look kvs k = some dv ∧ o = some v ∧ RV K φ H dv v) := by
  obtain ⟨n, a, rfl, rfl, ea, ro⟩ := dctOf_ok rh rd e
  unfold fitK at ok
  cases t with
  | false =>
    obtain ⟨q, eq⟩ := Option.isSome_iff_exists.mp (by simpa using ok)
    obtain ⟨ks, hk, r⟩ := ro
    refine ⟨a, valV ks q, rfl, by rw [kOf_v eq rk]; exact DGet.k hk, ?_⟩
    rcases look_rk eq r (fun p hp r er => keyEq_k eq er) with ⟨h1, h2⟩ | ⟨d', v, h1, h2, h3⟩
    · exact .inl ⟨h1, h2⟩
    · exact .inr ⟨d', v, h1, h2, h3⟩
  | true =>
    obtain ⟨q, eq⟩ := Option.isSome_iff_exists.mp (by simpa using ok)
    obtain ⟨ks, hk, r⟩ := ro
    obtain ⟨b, rfl, hb⟩ := kTup_v eq rk
    refine ⟨a, valV ks q, rfl, DGet.t hk hb, ?_⟩
    rcases look_rk eq r (fun p hp r er => keyEq_t eq er) with ⟨h1, h2⟩ | ⟨d', v, h1, h2, h3⟩
    · exact .inl ⟨h1, h2⟩
    · exact .inr ⟨d', v, h1, h2, h3⟩
end
/-- the data of a member that is looked for -/
def gIn (neg : Bool) : G2 := fun x y h => match dctOf h y with
  | some (t, kvs) => match x with
    | .p k => if fitK t k = true then some (.p (.bool (if neg then !(look kvs k).isSome else (look kvs k).isSome)), h) else none
    | _ => none
  | none => (datOf h x).bind fun d => match datOf h y with
    | some (.tuple ds) => if SeqAt.shaped d = true ∧ SeqAt.shaped (.tuple ds) = true then some (.p (.bool (if neg then !ds.any fun z => PyData.eqv z d else ds.any fun z => PyData.eqv z d)), h) else none
    | some (.list ds) => if SeqAt.shaped d = true ∧ SeqAt.shaped (.list ds) = true then some (.p (.bool (if neg then !ds.any fun z => PyData.eqv z d else ds.any fun z => PyData.eqv z d)), h) else none
    | _ => none
section
variable {X : Cx}
theorem o_in (hu : X.A.units + 65 < cLine) : OpR X (compareOp .In) (rM2 X.K (gIn false)) := by
  refine ((op_inDic (by omega)).or ((op_inT hu).or (op_inD hu))).imp ?_
  rintro x y H Q ⟨φ, h, dx, dy, d, h', rh, rx, ry, eq, k⟩
  unfold gIn at eq
  split at eq
  · rename_i t kvs ed
    split at eq
    · rename_i kk
      split at eq
      · rename_i ok
        cases eq
        obtain ⟨a, o, rfl, g, c⟩ := dget_of rh ry ed rx.p_inv ok
        refine .inl ⟨a, o, rfl, g, ?_⟩
        rcases c with ⟨c1, rfl⟩ | ⟨dv, v, c1, rfl, _⟩
        · rw [c1] at k
          exact k φ _ H (List.prefix_refl φ) (HK.refl H) rh (.p (.bl _))
        · rw [c1] at k
          exact k φ _ H (List.prefix_refl φ) (HK.refl H) rh (.p (.bl _))
      · cases eq
    · cases eq
  · obtain ⟨u, e1, eq⟩ := Option.bind_eq_some_iff.mp eq
    split at eq
    · rename_i ds e2
      split at eq
      · rename_i hs
        cases eq
        exact .inr (.inl ⟨u, ds, datOf_ok rh rx e1, datOf_ok rh ry e2, hs.1, hs.2, k φ _ H (List.prefix_refl φ) (HK.refl H) rh (.p (.bl _))⟩)
      · cases eq
    · rename_i ds e2
      split at eq
      · rename_i hs
        cases eq
        exact .inr (.inr ⟨u, ds, datOf_ok rh rx e1, datOf_ok rh ry e2, hs.1, hs.2, k φ _ H (List.prefix_refl φ) (HK.refl H) rh (.p (.bl _))⟩)
      · cases eq
    · cases eq
theorem o_notin (hu : X.A.units + 65 < cLine) : OpR X (compareOp .NotIn) (rM2 X.K (gIn true)) := by
  refine ((op_notInDic (by omega)).or ((op_notInT hu).or (op_notInD hu))).imp ?_
  rintro x y H Q ⟨φ, h, dx, dy, d, h', rh, rx, ry, eq, k⟩
  unfold gIn at eq
  split at eq
  · rename_i t kvs ed
    split at eq
    · rename_i kk
      split at eq
      · rename_i ok
        cases eq
        obtain ⟨a, o, rfl, g, c⟩ := dget_of rh ry ed rx.p_inv ok
        refine .inl ⟨a, o, rfl, g, ?_⟩
        rcases c with ⟨c1, rfl⟩ | ⟨dv, v, c1, rfl, _⟩
        · rw [c1] at k
          exact k φ _ H (List.prefix_refl φ) (HK.refl H) rh (.p (.bl _))
        · rw [c1] at k
          exact k φ _ H (List.prefix_refl φ) (HK.refl H) rh (.p (.bl _))
      · cases eq
    · cases eq
  · obtain ⟨u, e1, eq⟩ := Option.bind_eq_some_iff.mp eq
    split at eq
    · rename_i ds e2
      split at eq
      · rename_i hs
        cases eq
        exact .inr (.inl ⟨u, ds, datOf_ok rh rx e1, datOf_ok rh ry e2, hs.1, hs.2, k φ _ H (List.prefix_refl φ) (HK.refl H) rh (.p (.bl _))⟩)
      · cases eq
    · rename_i ds e2
      split at eq
      · rename_i hs
        cases eq
        exact .inr (.inr ⟨u, ds, datOf_ok rh rx e1, datOf_ok rh ry e2, hs.1, hs.2, k φ _ H (List.prefix_refl φ) (HK.refl H) rh (.p (.bl _))⟩)
      · cases eq
    · cases eq
end
end MX
set_option Elab.async false
set_option linter.all false
set_option maxRecDepth 100000
set_option maxHeartbeats 1000000
set_option autoImplicit false
namespace MX
open PySem PySem.Spec L2
/-! ### arguments -/
def aNil : MA := fun _ h => some ([], h)
def aCons (a : ME) (r : MA) : MA := fun e h => (a e h).bind fun x => (r e x.2).bind fun y => some (x.1 :: y.1, y.2)
def aStar (a : ME) (r : MA) : MA := fun e h => (a e h).bind fun x => (seqOf x.2 x.1).bind fun ds => (r e x.2).bind fun y => some (ds ++ y.1, y.2)
section
variable {X : Cx} {a b o i : Expr} {es : List Expr} {ma mb mo mi : ME} {m : MA} {pos : Pos}
theorem na_nil : PA X [] (tA X.K aNil) := by
  refine pa_nil.conseq ?_
  rintro σ H Q ⟨φ, e, h, ds, h', re, rh, eq, k⟩
  cases eq
  exact k φ _ H (List.prefix_refl φ) (HK.refl H) rh .nil
theorem na_cons (ha : PE X a (tM X.K ma)) (hr : PA X es (tA X.K m)) (hs : starEach (a :: es) X.env = (false, eval a X.env) :: starEach es X.env := by rfl) : PA X (a :: es) (tA X.K (aCons ma m)) := by
  refine (pa_cons ha hr hs).conseq ?_
  rintro σ H Q ⟨φ, e, h, ds, h', re, rh, eq, k⟩
  obtain ⟨⟨d1, h1⟩, e1, eq⟩ := Option.bind_eq_some_iff.mp eq
  obtain ⟨⟨d2, h2⟩, e2, eq⟩ := Option.bind_eq_some_iff.mp eq
  cases eq
  exact ⟨φ, e, h, d1, h1, re, rh, e1, fun φ1 v1 H1 p1 k1 rh1 rv1 => ⟨φ1, e, h1, d2, h2, re.mono p1 k1, rh1, e2, fun φ2 vs H2 p2 k2 rh2 rv2 =>
    k φ2 _ H2 (p1.trans p2) (k1.trans k2) rh2 (.cons (rv1.mono p2 k2) rv2)⟩⟩
theorem na_star {p : Pos} (ha : PE X a (tM X.K ma)) (hr : PA X es (tA X.K m)) (hs : starEach (.Starred a p :: es) X.env = (true, eval a X.env) :: starEach es X.env := by rfl) : PA X (.Starred a p :: es) (tA X.K (aStar ma m)) := by
  refine (StX.pa_star ha hr hs).conseq ?_
  rintro σ H Q ⟨φ, e, h, ds, h', re, rh, eq, k⟩
  obtain ⟨⟨d1, h1⟩, e1, eq⟩ := Option.bind_eq_some_iff.mp eq
  obtain ⟨ds1, e2, eq⟩ := Option.bind_eq_some_iff.mp eq
  obtain ⟨⟨d2, h2⟩, e3, eq⟩ := Option.bind_eq_some_iff.mp eq
  cases eq
  refine ⟨φ, e, h, d1, h1, re, rh, e1, fun φ1 v1 H1 p1 k1 rh1 rv1 => ?_⟩
  obtain ⟨q, xs, rfl, s, rs⟩ := seqOf_ok rh1 rv1 e2
  refine ⟨q, xs, rfl, s.symm, φ1, e, h1, d2, h2, re.mono p1 k1, rh1, e3, fun φ2 vs H2 p2 k2 rh2 rv2 => ?_⟩
  exact k φ2 _ H2 (p1.trans p2) (k1.trans k2) rh2 ((rs.mono p2 k2).append rv2)
/-! ### displays -/
def mTup (m : MA) : ME := fun e h => (m e h).bind fun r => if r.1.length ≤ sizeLine then some (mkT r.1, r.2) else none
def mLst (m : MA) : ME := fun e h => (m e h).bind fun r => if r.1.length ≤ sizeLine then some (.loc r.2.length, r.2 ++ [.lst r.1]) else none
theorem me_tup {k : Nat} (ha : PA X es (tA X.K m)) : PE X (.Tuple es k pos) (tM X.K (mTup m)) := by
  refine (pe_tup ha).conseq ?_
  rintro σ H Q ⟨φ, e, h, d, h', re, rh, eq, k⟩
  obtain ⟨⟨d1, h1⟩, e1, eq⟩ := Option.bind_eq_some_iff.mp eq
  dsimp only at eq
  split at eq
  · rename_i hz
    cases eq
    refine ⟨φ, e, h, d1, _, re, rh, e1, fun φ1 vs H1 p1 k1 rh1 rv1 => ⟨by rw [← rv1.length]; exact hz, fun p hp => ?_⟩⟩
    exact k φ1 _ _ p1 (k1.trans (HK.new hp)) (rh1.side hp) (mkT_ok hp rv1)
  · cases eq
theorem me_lst (ha : PA X es (tA X.K m)) : PE X (.List es pos) (tM X.K (mLst m)) := by
  refine (pe_lst ha).conseq ?_
  rintro σ H Q ⟨φ, e, h, d, h', re, rh, eq, k⟩
  obtain ⟨⟨d1, h1⟩, e1, eq⟩ := Option.bind_eq_some_iff.mp eq
  dsimp only at eq
  split at eq
  · rename_i hz
    cases eq
    refine ⟨φ, e, h, d1, _, re, rh, e1, fun φ1 vs H1 p1 k1 rh1 rv1 => ⟨by rw [← rv1.length]; exact hz, fun p hp => ?_⟩⟩
    obtain ⟨r1, r2⟩ := rh1.newL hp rv1
    exact k _ _ _ (p1.trans (List.prefix_append _ _)) (k1.trans (HK.new hp)) r1 r2
  · cases eq
/-! ### calls of built-ins -/
abbrev GA := List Mv → Hq → Option (Mv × Hq)
def rMA (K : PySem.W.Frag) (g : GA) : List V → Hp → VK → Prop := fun xs H Q => ∃ φ h ds d h', RH K φ h H ∧ RVs K φ H ds xs ∧ g ds h = some (d, h') ∧
  ∀ φ' v H', φ <+: φ' → HK H H' → RH K φ' h' H' → RV K φ' H' d v → Q v H'
def mCall (g : GA) (m : MA) : ME := fun e h => (m e h).bind fun r => g r.1 r.2
theorem tM_call {K : PySem.W.Frag} {g : GA} {σ : L2.St} {H : Hp} {Q : VK} (q : tM K (mCall g m) σ H Q) : tCB (rMA K g) (tA K m) σ H Q := by
  obtain ⟨φ, e, h, d, h', re, rh, eq, k⟩ := q
  obtain ⟨⟨d1, h1⟩, e1, eq⟩ := Option.bind_eq_some_iff.mp eq
  exact ⟨φ, e, h, d1, h1, re, rh, e1, fun φ1 vs H1 p1 k1 rh1 rv1 => ⟨φ1, h1, d1, d, h', rh1, rv1, eq, fun φ2 v H2 p2 k2 => k φ2 v H2 (p1.trans p2) (k1.trans k2)⟩⟩
theorem _root_.L2.CallR.imp {f : Value} {r r' : List V → Hp → VK → Prop} (h : CallR X f r) (i : ∀ x H Q, r' x H Q → r x H Q) : CallR X f r' := fun pins s σ H x v Q I rx q => h pins s σ H x v Q I rx (i x H Q q)
theorem me_callB {x : Str} {id : String} {p : Pos} {g : GA} (hc : CallR X (.builtin id) (rMA X.K g)) (hm : X.mg x = none) (hv : bootBuiltins x = some (.builtin id)) (ha : PA X (a :: es) (tA X.K m)) (hg : Gl X x := by rfl) (hn : x ≠ "__name__" := by decide) (hdb : (x == ("__debug__" : Str)) = false := by decide)
    (he : starEach (a :: es) X.env = (false, eval a X.env) :: starEach es X.env := by rfl) (hpl : (backTo pos (starEach es X.env)).any (·.1) = false := by rfl) : PE X (.Call (.Name x p) (a :: es) [] pos) (tM X.K (mCall g m)) :=
  (pe_callB hc hg hm hv ha hn hdb he hpl).conseq fun _ _ _ q => tM_call q
theorem me_callTy {x : Str} {T : String} {p : Pos} {g : GA} (hc : CallR X (.type T) (rMA X.K g)) (hm : X.mg x = none) (hv : bootBuiltins x = some (.type T)) (ha : PA X (a :: es) (tA X.K m)) (hg : Gl X x := by rfl) (hn : x ≠ "__name__" := by decide) (hdb : (x == ("__debug__" : Str)) = false := by decide)
    (he : starEach (a :: es) X.env = (false, eval a X.env) :: starEach es X.env := by rfl) (hpl : (backTo pos (starEach es X.env)).any (·.1) = false := by rfl) : PE X (.Call (.Name x p) (a :: es) [] pos) (tM X.K (mCall g m)) :=
  (pe_callTy hc hg hm hv ha hn hdb he hpl).conseq fun _ _ _ q => tM_call q
/-- len -/
def gLen : GA := fun ds h => match ds with
  | [d] => (seqOf h d).map fun xs => (.p (.int xs.length), h)
  | _ => none
theorem c_len : CallR X (.builtin "len") (rMA X.K gLen) := by
  refine call_len_seq.imp ?_
  rintro xs H Q ⟨φ, h, ds, d, h', rh, rx, eq, k⟩
  unfold gLen at eq
  split at eq
  · obtain ⟨ys, e1, eq⟩ := Option.map_eq_some_iff.mp eq
    cases eq
    cases rx with
    | cons r1 r2 =>
      cases r2
      obtain ⟨p, zs, rfl, s, q⟩ := seqOf_ok rh r1 e1
      refine ⟨p, zs, rfl, s, ?_⟩
      rw [← q.length]
      exact k φ _ H (List.prefix_refl φ) (HK.refl H) rh (.p (.int _))
  · cases eq
/-- the ints, bools of a list -/
def intsM : List Mv → Option (List Int)
  | [] => some []
  | .p (.int i) :: r => (intsM r).map (i :: ·)
  | _ :: _ => none
theorem intsM_ok : ∀ {ds : List Mv} {ns : List Int}, intsM ds = some ns → ds = ns.map Mv.int
  | [], _, h => by cases h; rfl
  | d :: r, ns, h => by
    unfold intsM at h
    split at h
    · rename_i e; cases e
    · rename_i e
      cases e
      obtain ⟨ys, e, rfl⟩ := Option.map_eq_some_iff.mp h
      rw [intsM_ok e]; rfl
    · cases h
@[simp] theorem intsM_map (ns : List Int) : intsM (ns.map Mv.int) = some ns := by
  induction ns with
  | nil => rfl
  | cons n ns ih => simp [intsM, ih]
def blsM : List Mv → Option (List Bool)
  | [] => some []
  | .p (.bool i) :: r => (blsM r).map (i :: ·)
  | _ :: _ => none
theorem blsM_ok : ∀ {ds : List Mv} {ns : List Bool}, blsM ds = some ns → ds = ns.map Mv.bl
  | [], _, h => by cases h; rfl
  | d :: r, ns, h => by
    unfold blsM at h
    split at h
    · rename_i e; cases e
    · rename_i e
      cases e
      obtain ⟨ys, e, rfl⟩ := Option.map_eq_some_iff.mp h
      rw [blsM_ok e]; rfl
    · cases h
@[simp] theorem blsM_map (ns : List Bool) : blsM (ns.map Mv.bl) = some ns := by
  induction ns with
  | nil => rfl
  | cons n ns ih => simp [blsM, ih]
theorem rx_ints {φ : List Addr} {h : Hq} {H : Hp} {d : Mv} {ds : List Mv} {xs : List V} {ns : List Int} (rh : RH X.K φ h H) (rx : RVs X.K φ H [d] xs) (e1 : lstOf h d = some ds) (e2 : intsM ds = some ns) : ∃ p, xs = [V.ref p] ∧ SqL X.K H p (ns.map V.int) := by
  cases rx with
  | cons r1 r2 =>
    cases r2
    obtain ⟨p, zs, rfl, s, q⟩ := lstOf_ok rh r1 e1
    rw [intsM_ok e2] at q
    exact ⟨p, rfl, by rw [← q.ints]; exact s⟩
theorem rx_bls {φ : List Addr} {h : Hq} {H : Hp} {d : Mv} {ds : List Mv} {xs : List V} {ns : List Bool} (rh : RH X.K φ h H) (rx : RVs X.K φ H [d] xs) (e1 : lstOf h d = some ds) (e2 : blsM ds = some ns) : ∃ p, xs = [V.ref p] ∧ SqL X.K H p (ns.map V.bl) := by
  cases rx with
  | cons r1 r2 =>
    cases r2
    obtain ⟨p, zs, rfl, s, q⟩ := lstOf_ok rh r1 e1
    rw [blsM_ok e2] at q
    exact ⟨p, rfl, by rw [← q.bls]; exact s⟩
def gInts (f : List Int → Option Pd) : GA := fun ds h => match ds with
  | [d] => (lstOf h d).bind fun xs => (intsM xs).bind fun ns => (f ns).map fun v => (.p v, h)
  | _ => none
def gBls (f : List Bool → Bool) : GA := fun ds h => match ds with
  | [d] => (lstOf h d).bind fun xs => (blsM xs).map fun ns => (.p (.bool (f ns)), h)
  | _ => none
theorem gInts_some {f : List Int → Option Pd} {ds : List Mv} {h h' : Hq} {d : Mv} (e : gInts f ds h = some (d, h')) : ∃ x xs ns v, ds = [x] ∧ lstOf h x = some xs ∧ intsM xs = some ns ∧ f ns = some v ∧ d = .p v ∧ h' = h := by
  unfold gInts at e
  split at e
  · obtain ⟨xs, e1, e⟩ := Option.bind_eq_some_iff.mp e
    obtain ⟨ns, e2, e⟩ := Option.bind_eq_some_iff.mp e
    obtain ⟨v, e3, e⟩ := Option.map_eq_some_iff.mp e
    cases e
    exact ⟨_, xs, ns, v, rfl, e1, e2, e3, rfl, rfl⟩
  · cases e
theorem gBls_some {f : List Bool → Bool} {ds : List Mv} {h h' : Hq} {d : Mv} (e : gBls f ds h = some (d, h')) : ∃ x xs ns, ds = [x] ∧ lstOf h x = some xs ∧ blsM xs = some ns ∧ d = .p (.bool (f ns)) ∧ h' = h := by
  unfold gBls at e
  split at e
  · obtain ⟨xs, e1, e⟩ := Option.bind_eq_some_iff.mp e
    obtain ⟨ns, e2, e⟩ := Option.map_eq_some_iff.mp e
    cases e
    exact ⟨_, xs, ns, rfl, e1, e2, rfl, rfl⟩
  · cases e
def gSum : GA := gInts fun ns => some (.int ns.sum)
def maxL : List Int → Int
  | [] => 0
  | [x] => x
  | x :: y :: r => let m := maxL (y :: r); if x < m then m else x
def minL : List Int → Int
  | [] => 0
  | [x] => x
  | x :: y :: r => let m := minL (y :: r); if m < x then m else x
theorem maxL_spec : ∀ {ns : List Int}, ns ≠ [] → maxL ns ∈ ns ∧ ∀ y ∈ ns, y ≤ maxL ns
  | [], h => absurd rfl h
  | [x], _ => by simp [maxL]
  | x :: y :: r, _ => by
    obtain ⟨h1, h2⟩ := maxL_spec (ns := y :: r) (by simp)
    have e : maxL (x :: y :: r) = if x < maxL (y :: r) then maxL (y :: r) else x := rfl
    rw [e]
    split
    · rename_i hlt
      refine ⟨List.mem_cons_of_mem _ h1, fun z hz => ?_⟩
      rcases List.mem_cons.mp hz with rfl | hz
      · omega
      · exact h2 z hz
    · rename_i hlt
      refine ⟨List.mem_cons_self, fun z hz => ?_⟩
      rcases List.mem_cons.mp hz with rfl | hz
      · omega
      · have := h2 z hz; omega
theorem minL_spec : ∀ {ns : List Int}, ns ≠ [] → minL ns ∈ ns ∧ ∀ y ∈ ns, minL ns ≤ y
  | [], h => absurd rfl h
  | [x], _ => by simp [minL]
  | x :: y :: r, _ => by
    obtain ⟨h1, h2⟩ := minL_spec (ns := y :: r) (by simp)
    have e : minL (x :: y :: r) = if minL (y :: r) < x then minL (y :: r) else x := rfl
    rw [e]
    split
    · rename_i hlt
      refine ⟨List.mem_cons_of_mem _ h1, fun z hz => ?_⟩
      rcases List.mem_cons.mp hz with rfl | hz
      · omega
      · exact h2 z hz
    · rename_i hlt
      refine ⟨List.mem_cons_self, fun z hz => ?_⟩
      rcases List.mem_cons.mp hz with rfl | hz
      · omega
      · have := h2 z hz; omega
def gMax1 : GA := gInts fun ns => if ns = [] then none else some (.int (maxL ns))
def gMin1 : GA := gInts fun ns => if ns = [] then none else some (.int (minL ns))
def gAny : GA := gBls fun bs => bs.any id
def gAll : GA := gBls fun bs => bs.all id
theorem c_sum (hc : X.calm = true) : CallR X (.builtin "sum") (rMA X.K gSum) := by
  refine (cr_sum hc).imp ?_
  rintro xs H Q ⟨φ, h, ds, d, h', rh, rx, eq, k⟩
  obtain ⟨x, ys, ns, v, rfl, e1, e2, e3, rfl, rfl⟩ := gInts_some eq
  obtain ⟨p, rfl, s⟩ := rx_ints rh rx e1 e2
  cases e3
  exact ⟨p, ns, rfl, s, k φ _ H (List.prefix_refl φ) (HK.refl H) rh (.p (.int _))⟩
theorem c_max1 (hc : X.calm = true) : CallR X (.builtin "max") (rMA X.K gMax1) := by
  refine (cr_max hc).imp ?_
  rintro xs H Q ⟨φ, h, ds, d, h', rh, rx, eq, k⟩
  obtain ⟨x, ys, ns, v, rfl, e1, e2, e3, rfl, rfl⟩ := gInts_some eq
  obtain ⟨p, rfl, s⟩ := rx_ints rh rx e1 e2
  split at e3
  · cases e3
  · rename_i hne
    cases e3
    refine ⟨p, ns, rfl, s, List.length_pos_iff.mpr hne, fun m hm hy => ?_⟩
    obtain ⟨h1, h2⟩ := maxL_spec hne
    have : m = maxL ns := Int.le_antisymm (h2 m hm) (hy _ h1)
    subst this
    exact k φ _ H (List.prefix_refl φ) (HK.refl H) rh (.p (.int _))
theorem c_min1 (hc : X.calm = true) : CallR X (.builtin "min") (rMA X.K gMin1) := by
  refine (cr_min hc).imp ?_
  rintro xs H Q ⟨φ, h, ds, d, h', rh, rx, eq, k⟩
  obtain ⟨x, ys, ns, v, rfl, e1, e2, e3, rfl, rfl⟩ := gInts_some eq
  obtain ⟨p, rfl, s⟩ := rx_ints rh rx e1 e2
  split at e3
  · cases e3
  · rename_i hne
    cases e3
    refine ⟨p, ns, rfl, s, List.length_pos_iff.mpr hne, fun m hm hy => ?_⟩
    obtain ⟨h1, h2⟩ := minL_spec hne
    have : m = minL ns := Int.le_antisymm (hy _ h1) (h2 m hm)
    subst this
    exact k φ _ H (List.prefix_refl φ) (HK.refl H) rh (.p (.int _))
theorem c_any (hc : X.calm = true) : CallR X (.builtin "any") (rMA X.K gAny) := by
  refine (cr_any hc).imp ?_
  rintro xs H Q ⟨φ, h, ds, d, h', rh, rx, eq, k⟩
  obtain ⟨x, ys, ns, rfl, e1, e2, rfl, rfl⟩ := gBls_some eq
  obtain ⟨p, rfl, s⟩ := rx_bls rh rx e1 e2
  exact ⟨p, ns, rfl, s, k φ _ H (List.prefix_refl φ) (HK.refl H) rh (.p (.bl _))⟩
theorem c_all (hc : X.calm = true) : CallR X (.builtin "all") (rMA X.K gAll) := by
  refine (cr_all hc).imp ?_
  rintro xs H Q ⟨φ, h, ds, d, h', rh, rx, eq, k⟩
  obtain ⟨x, ys, ns, rfl, e1, e2, rfl, rfl⟩ := gBls_some eq
  obtain ⟨p, rfl, s⟩ := rx_bls rh rx e1 e2
  exact ⟨p, ns, rfl, s, k φ _ H (List.prefix_refl φ) (HK.refl H) rh (.p (.bl _))⟩
/-- max(i, j), min(i, j), abs(i), int(x) -/
def gMax2 : GA := fun ds h => match ds with
  | [.p (.int i), .p (.int j)] => some (.p (.int (if j > i then j else i)), h)
  | _ => none
def gMin2 : GA := fun ds h => match ds with
  | [.p (.int i), .p (.int j)] => some (.p (.int (if j < i then j else i)), h)
  | _ => none
def gAbs : GA := fun ds h => match ds with
  | [.p (.int i)] => some (.p (.int (if i < 0 then -i else i)), h)
  | _ => none
def gInt : GA := fun ds h => match ds with
  | [.p (.int i)] => some (.p (.int i), h)
  | [.p (.bool k)] => some (.p (.int (if k then 1 else 0)), h)
  | _ => none
theorem rvs1 {K : PySem.W.Frag} {φ : List Addr} {H : Hp} {x : Mv} {xs : List V} (r : RVs K φ H [x] xs) : ∃ v, xs = [v] ∧ RV K φ H x v := by
  cases r with | cons a b => cases b; exact ⟨_, rfl, a⟩
theorem rvs2 {K : PySem.W.Frag} {φ : List Addr} {H : Hp} {x y : Mv} {xs : List V} (r : RVs K φ H [x, y] xs) : ∃ v w, xs = [v, w] ∧ RV K φ H x v ∧ RV K φ H y w := by
  cases r with | cons a b => cases b with | cons c d => cases d; exact ⟨_, _, rfl, a, c⟩
theorem c_max2 (hc : X.calm = true) : CallR X (.builtin "max") (rMA X.K gMax2) := by
  refine (call_max2 hc).imp ?_
  rintro xs H Q ⟨φ, h, ds, d, h', rh, rx, eq, k⟩
  unfold gMax2 at eq
  split at eq
  · cases eq
    obtain ⟨v, w, rfl, r1, r2⟩ := rvs2 rx
    rw [r1.int_inv, r2.int_inv]
    exact ⟨_, _, rfl, k φ _ H (List.prefix_refl φ) (HK.refl H) rh (.p (.int _))⟩
  · cases eq
theorem c_min2 (hc : X.calm = true) : CallR X (.builtin "min") (rMA X.K gMin2) := by
  refine (call_min2 hc).imp ?_
  rintro xs H Q ⟨φ, h, ds, d, h', rh, rx, eq, k⟩
  unfold gMin2 at eq
  split at eq
  · cases eq
    obtain ⟨v, w, rfl, r1, r2⟩ := rvs2 rx
    rw [r1.int_inv, r2.int_inv]
    exact ⟨_, _, rfl, k φ _ H (List.prefix_refl φ) (HK.refl H) rh (.p (.int _))⟩
  · cases eq
theorem c_abs : CallR X (.builtin "abs") (rMA X.K gAbs) := by
  refine call_abs.imp ?_
  rintro xs H Q ⟨φ, h, ds, d, h', rh, rx, eq, k⟩
  unfold gAbs at eq
  split at eq
  · cases eq
    obtain ⟨v, rfl, r1⟩ := rvs1 rx
    rw [r1.int_inv]
    exact ⟨_, rfl, k φ _ H (List.prefix_refl φ) (HK.refl H) rh (.p (.int _))⟩
  · cases eq
theorem c_int : CallR X (.type "int") (rMA X.K gInt) := by
  refine call_int1.imp ?_
  rintro xs H Q ⟨φ, h, ds, d, h', rh, rx, eq, k⟩
  unfold gInt at eq
  split at eq
  · cases eq
    obtain ⟨v, rfl, r1⟩ := rvs1 rx
    rw [r1.int_inv]
    exact .inl ⟨_, rfl, k φ _ H (List.prefix_refl φ) (HK.refl H) rh (.p (.int _))⟩
  · cases eq
    obtain ⟨v, rfl, r1⟩ := rvs1 rx
    rw [r1.bl_inv]
    exact .inr ⟨_, rfl, k φ _ H (List.prefix_refl φ) (HK.refl H) rh (.p (.int _))⟩
  · cases eq
/-- list(xs), tuple(xs) -/
def gList : GA := fun ds h => match ds with
  | [d] => (seqOf h d).map fun xs => (.loc h.length, h ++ [.lst xs])
  | _ => none
def gTuple : GA := fun ds h => match ds with
  | [.p (.tuple xs)] => some (.p (.tuple xs), h)
  | [d] => (lstOf h d).map fun xs => (mkT xs, h)
  | _ => none
theorem c_list : CallR X (.type "list") (rMA X.K gList) := by
  refine call_list_of.imp ?_
  rintro xs H Q ⟨φ, h, ds, d, h', rh, rx, eq, k⟩
  unfold gList at eq
  split at eq
  · obtain ⟨ys, e1, eq⟩ := Option.map_eq_some_iff.mp eq
    cases eq
    obtain ⟨v, rfl, r1⟩ := rvs1 rx
    obtain ⟨p, zs, rfl, s, q⟩ := seqOf_ok rh r1 e1
    refine ⟨p, zs, rfl, s, fun l hl => ?_⟩
    obtain ⟨r1, r2⟩ := rh.newL hl q
    exact k _ _ _ (List.prefix_append _ _) (HK.new hl) r1 r2
  · cases eq
theorem c_tuple : CallR X (.type "tuple") (rMA X.K gTuple) := by
  refine call_tuple_of.imp ?_
  rintro xs H Q ⟨φ, h, ds, d, h', rh, rx, eq, k⟩
  unfold gTuple at eq
  split at eq
  · cases eq
    obtain ⟨v, rfl, r1⟩ := rvs1 rx
    obtain ⟨p, zs, rfl, s, q⟩ := r1.tup_inv
    exact ⟨p, zs, rfl, .inr ⟨SqT.of s, k φ _ H (List.prefix_refl φ) (HK.refl H) rh (.p (.tup s q))⟩⟩
  · obtain ⟨ys, e1, eq⟩ := Option.map_eq_some_iff.mp eq
    cases eq
    obtain ⟨v, rfl, r1⟩ := rvs1 rx
    obtain ⟨p, zs, rfl, s, q⟩ := lstOf_ok rh r1 e1
    refine ⟨p, zs, rfl, .inl ⟨s, fun l hl => ?_⟩⟩
    exact k _ _ _ (List.prefix_refl φ) (HK.new hl) (rh.side hl) (mkT_ok hl q)
  · cases eq
end
end MX
set_option Elab.async false
set_option linter.all false
set_option maxRecDepth 100000
set_option maxHeartbeats 1000000
set_option autoImplicit false
namespace MX
open PySem PySem.Spec L2
/-! ### subscripts -/
section
variable {X : Cx} {a b o i : Expr} {es : List Expr} {ma mb mo mi : ME} {m : MA} {pos : Pos}
theorem ix_dict (hu : X.A.units + 1 < cLine) : IxR X (fun x y H Q => ∃ a v, x = .ref a ∧ DGet H a y (some v) ∧ Q v H) := by
  intro value slice pins s σ H x y v u Q I rx ry h hs
  obtain ⟨p, z, rfl, g, q⟩ := h
  cases rx
  exact PyProof.Rows.tail_any (dict_typeIs I g) PySem.F.slot_dict_getitem.lookup (d_getItem hu I g ry fun w' s3 I3 rw' => ⟨z, H, I3, rw', q⟩) hs
theorem _root_.L2.IxR.imp {r r' : R2} (h : IxR X r) (i : ∀ x y H Q, r' x y H Q → r x y H Q) : IxR X r' := fun va sl pins s σ H x y v u Q I rx ry q hs => h va sl pins s σ H x y v u Q I rx ry (i x y H Q q) hs
theorem atI_rv {K : PySem.W.Frag} {φ : List Addr} {H : Hp} {ds : List Mv} {xs : List V} (r : RVs K φ H ds xs) {j : Int} {d : Mv} (e : atI ds j = some d) : ∃ v, atI xs j = some v ∧ RV K φ H d v := by
  unfold atI at e ⊢
  rw [← r.length]
  obtain ⟨k, e1, e2⟩ := Option.bind_eq_some_iff.mp e
  obtain ⟨v, e3, q⟩ := r.get e2
  exact ⟨v, Option.bind_eq_some_iff.mpr ⟨k, e1, e3⟩, q⟩
def gIx : G2 := fun x y h => match dctOf h x with
  | some (t, kvs) => match y with
    | .p k => if fitK t k = true then (look kvs k).map fun d => (d, h) else none
    | _ => none
  | none => match x with
    | .p (.str z) => match y with
      | .p (.int j) => if z.length ≤ sizeLine then (atI z.cps.toList j).map fun c => (.p (.str ⟨#[c]⟩), h) else none
      | _ => none
    | _ => match y with
      | .p (.int j) => (seqOf h x).bind fun ds => (atI ds j).map fun d => (d, h)
      | _ => none
theorem x_ix (hu : X.A.units + 1 < cLine) : IxR X (rM2 X.K gIx) := by
  refine ((ix_dict hu).or ix_seq).imp ?_
  rintro x y H Q ⟨φ, h, dx, dy, d, h', rh, rx, ry, eq, k⟩
  unfold gIx at eq
  split at eq
  · rename_i t kvs ed
    split at eq
    · split at eq
      · rename_i ok
        obtain ⟨d', e1, eq⟩ := Option.map_eq_some_iff.mp eq
        cases eq
        obtain ⟨a, o, rfl, g, c⟩ := dget_of rh rx ed ry.p_inv ok
        rcases c with ⟨c1, _⟩ | ⟨dv, v, c1, rfl, rv⟩
        · rw [e1] at c1; cases c1
        · rw [e1] at c1
          cases c1
          exact .inl ⟨a, v, rfl, g, k φ _ H (List.prefix_refl φ) (HK.refl H) rh rv⟩
      · cases eq
    · cases eq
  · split at eq
    · split at eq
      · split at eq
        · rename_i hz
          obtain ⟨c, e1, eq⟩ := Option.map_eq_some_iff.mp eq
          cases eq
          exact .inr (.inr (.inr ⟨_, _, c, rx.str_inv, ry.int_inv, hz, e1, k φ _ H (List.prefix_refl φ) (HK.refl H) rh (.p (.str _))⟩))
        · cases eq
      · cases eq
    · split at eq
      · obtain ⟨ds, e1, eq⟩ := Option.bind_eq_some_iff.mp eq
        obtain ⟨d', e2, eq⟩ := Option.map_eq_some_iff.mp eq
        cases eq
        obtain ⟨p, zs, rfl, s, q⟩ := seqOf_ok rh rx e1
        obtain ⟨v, e3, rv⟩ := atI_rv q e2
        rcases s with s | s
        · exact .inr (.inl ⟨p, zs, _, v, rfl, ry.int_inv, s, e3, k φ _ H (List.prefix_refl φ) (HK.refl H) rh rv⟩)
        · exact .inr (.inr (.inl ⟨p, zs, _, v, rfl, ry.int_inv, s, e3, k φ _ H (List.prefix_refl φ) (HK.refl H) rh rv⟩))
      · cases eq
theorem me_ix (hr : IxR X (rM2 X.K gIx)) (ha : PE X a (tM X.K ma)) (hb : PE X b (tM X.K mb)) (hs : PlainIx b := by exact fun _ _ => rfl) : PE X (.Subscript a b pos) (tM X.K (mB gIx ma mb)) :=
  (pe_ix hr ha hb hs).conseq fun _ _ _ q => tM_op q
/-! ### slices -/
def cutL {α : Type} (xs : List α) (lo hi : Option Int) : List α := (xs.drop (HT.sIx xs.length 0 lo)).take (HT.sIx xs.length xs.length hi - HT.sIx xs.length 0 lo)
theorem cutL_whole {α : Type} (xs : List α) (lo hi : Option Int) (h : HT.sIx xs.length 0 lo = 0 ∧ HT.sIx xs.length xs.length hi = xs.length) : cutL xs lo hi = xs := by
  unfold cutL
  rw [h.1, h.2]
  simp
theorem RVs.cut {K : PySem.W.Frag} {φ : List Addr} {H : Hp} {ds : List Mv} {xs : List V} (r : RVs K φ H ds xs) (lo hi : Option Int) : RVs K φ H (cutL ds lo hi) (cutV xs lo hi) := by
  unfold cutL cutV
  rw [← r.length]
  exact (r.drop _).take _
abbrev MO := En → Hq → Option (Option Int × Hq)
def oNone : MO := fun _ h => some (none, h)
def oSome (a : ME) : MO := fun e h => (a e h).bind fun r => match r.1 with
  | .p (.int j) => some (some j, r.2)
  | _ => none
def tO (K : PySem.W.Frag) (m : MO) : TO := fun σ H Q => ∃ φ e h b h', RE K φ H e σ ∧ RH K φ h H ∧ m e h = some (b, h') ∧ ∀ φ' H', φ <+: φ' → HK H H' → RH K φ' h' H' → Q b H'
theorem _root_.L2.PO.conseq {e : Option Expr} {t t' : TO} (h : PO X e t) (i : ∀ σ H Q, t' σ H Q → t σ H Q) : PO X e t' := ⟨fun pins s σ H Q I q => h.run pins s σ H Q I (i σ H Q q)⟩
theorem no_none : PO X none (tO X.K oNone) := by
  refine po_none.conseq ?_
  rintro σ H Q ⟨φ, e, h, d, h', re, rh, eq, k⟩
  cases eq
  exact k φ H (List.prefix_refl φ) (HK.refl H) rh
theorem no_some (ha : PE X a (tM X.K ma)) : PO X (some a) (tO X.K (oSome ma)) := by
  refine (po_some ha).conseq ?_
  rintro σ H Q ⟨φ, e, h, d, h', re, rh, eq, k⟩
  obtain ⟨⟨d1, h1⟩, e1, eq⟩ := Option.bind_eq_some_iff.mp eq
  dsimp only at eq
  split at eq
  · cases eq
    exact ⟨φ, e, h, _, _, re, rh, e1, fun φ1 v1 H1 p1 k1 rh1 rv1 => ⟨_, rv1.int_inv, k φ1 H1 p1 k1 rh1⟩⟩
  · cases eq
/-- xs[lo:hi] -/
def mSl (a : ME) (lo hi : MO) : ME := fun e h => (a e h).bind fun r => (lo e r.2).bind fun l => (hi e l.2).bind fun u => match tupOf r.1 with
  | some ds => match r.1 with
    | .ct _ => none
    | _ => some (mkT (cutL ds l.1 u.1), u.2)
  | none => (lstOf u.2 r.1).map fun ds => (.loc u.2.length, u.2 ++ [.lst (cutL ds l.1 u.1)])
theorem me_sl {lo hi : Option Expr} {ml mh : MO} {p2 : Pos} (ha : PE X a (tM X.K ma)) (hl : PO X lo (tO X.K ml)) (hh : PO X hi (tO X.K mh)) : PE X (.Subscript a (.Slice lo hi none p2) pos) (tM X.K (mSl ma ml mh)) := by
  refine (pe_slice (sl_tupA.or sl_list) ha hl hh).conseq ?_
  rintro σ H Q ⟨φ, e, h, d, h', re, rh, eq, k⟩
  obtain ⟨⟨d1, h1⟩, e1, eq⟩ := Option.bind_eq_some_iff.mp eq
  obtain ⟨⟨l, h2⟩, e2, eq⟩ := Option.bind_eq_some_iff.mp eq
  obtain ⟨⟨u, h3⟩, e3, eq⟩ := Option.bind_eq_some_iff.mp eq
  refine ⟨φ, e, h, d1, h1, re, rh, e1, fun φ1 v1 H1 p1 k1 rh1 rv1 => ⟨φ1, e, h1, l, h2, re.mono p1 k1, rh1, e2, fun φ2 H2 p2 k2 rh2 => ⟨φ2, e, h2, u, h3, re.mono (p1.trans p2) (k1.trans k2), rh2, e3, fun φ3 H3 p3 k3 rh3 => ?_⟩⟩⟩
  have rv3 := rv1.mono (p2.trans p3) (k2.trans k3)
  have kk := fun φ' v H' (p : φ3 <+: φ') (q : HK H3 H') => k φ' v H' (p1.trans (p2.trans (p3.trans p))) (k1.trans (k2.trans (k3.trans q)))
  dsimp only at eq
  split at eq
  · rename_i ds et
    split at eq
    · cases eq
    · rename_i hnc
      cases eq
      have tk : ∃ a xs, v1 = .ref a ∧ H3 a = some (.tup xs) ∧ RVs X.K φ3 H3 ds xs := by
        unfold tupOf at et
        split at et
        · cases et
          obtain ⟨a, xs, rfl, s, q⟩ := rv3.tup_inv
          exact ⟨a, xs, rfl, s, q.vs⟩
        · cases et
          exact rv3.tl_inv
        · exact absurd rfl (hnc _)
        · cases et
      obtain ⟨a, xs, rfl, s, q⟩ := tk
      refine .inl ⟨a, xs, rfl, SqT.of s, fun hw => ?_, fun hw p hp => ?_⟩
      · have hw' := hw
        rw [← q.length] at hw'
        have e4 := cutL_whole ds l u hw'
        refine kk φ3 _ H3 (List.prefix_refl _) (HK.refl _) rh3 ?_
        rw [e4]
        exact mkT_at s q
      · exact kk φ3 _ _ (List.prefix_refl _) (HK.new hp) (rh3.side hp) (mkT_ok hp (q.cut l u))
  · obtain ⟨ds, e4, eq⟩ := Option.map_eq_some_iff.mp eq
    cases eq
    obtain ⟨a, xs, rfl, s, q⟩ := lstOf_ok rh3 rv3 e4
    refine .inr ⟨a, xs, rfl, s, fun p hp => ?_⟩
    obtain ⟨r1, r2⟩ := rh3.newL hp (q.cut l u)
    exact kk _ _ _ (List.prefix_append _ _) (HK.new hp) r1 r2
/-! ### methods of lists -/
abbrev GM := Mv → GA
def rMM (K : PySem.W.Frag) (g : GM) : V → List V → Hp → VK → Prop := fun x xs H Q => ∃ φ h dx ds d h', RH K φ h H ∧ RV K φ H dx x ∧ RVs K φ H ds xs ∧ g dx ds h = some (d, h') ∧
  ∀ φ' v H', φ <+: φ' → HK H H' → RH K φ' h' H' → RV K φ' H' d v → Q v H'
def mMet (g : GM) (o : ME) (m : MA) : ME := fun e h => (o e h).bind fun r => if (lstOf r.2 r.1).isSome = true then (m e r.2).bind fun s => g r.1 s.1 s.2 else none
def mMet0 (g : GM) (o : ME) : ME := fun e h => (o e h).bind fun r => if (lstOf r.2 r.1).isSome = true then g r.1 [] r.2 else none
theorem _root_.L2.MtR.imp {id : String} {r r' : V → List V → Hp → VK → Prop} (h : MtR X id r) (i : ∀ x y H Q, r' x y H Q → r x y H Q) : MtR X id r' := fun pins s σ H x y v u Q I rx ry q => h pins s σ H x y v u Q I rx ry (i x y H Q q)
theorem me_met {id : String} {name : Str} {apos : Pos} {g : GM} (slot : Slot "list" name id) (hty : typeOf (.builtin id) = pure (.type "method_descriptor")) (hm : MtR X id (rMM X.K g)) (ho : PE X o (tM X.K mo)) (ha : PA X (a :: es) (tA X.K m))
    (hbase : attributeBase o name X.env (eval o X.env) = eval o X.env := by rfl)
    (hfew : ((backTo pos (starEach (a :: es) X.env)).all (fun x => !x.1) && (backToKw pos (keywordEach [] X.env)).all (fun x => x.1.isSome)
      && decide ((a :: es).length + ([] : List Keyword).length + (if ([] : List Keyword).isEmpty then 0 else 1) < 30)) = true := by rfl)
    (hline : (apos.endLine == pos.line) = true := by rfl) (hs : starEach (a :: es) X.env = (false, eval a X.env) :: starEach es X.env := by rfl) (hplain : (backTo pos (starEach es X.env)).any (·.1) = false := by rfl) :
    PE X (.Call (.Attribute o name apos) (a :: es) [] pos) (tM X.K (mMet g mo m)) := by
  refine (pe_bm PySem.F.plainAttrs_list slot hty hm ho ha hbase hfew hline hs hplain).conseq ?_
  rintro σ H Q ⟨φ, e, h, d, h', re, rh, eq, k⟩
  obtain ⟨⟨d1, h1⟩, e1, eq⟩ := Option.bind_eq_some_iff.mp eq
  dsimp only at eq
  split at eq
  · rename_i hi
    obtain ⟨⟨d2, h2⟩, e2, eq⟩ := Option.bind_eq_some_iff.mp eq
    obtain ⟨ds, e3⟩ := Option.isSome_iff_exists.mp hi
    refine ⟨φ, e, h, d1, h1, re, rh, e1, fun φ1 v1 H1 p1 k1 rh1 rv1 => ⟨?_, φ1, e, h1, d2, h2, re.mono p1 k1, rh1, e2, fun φ2 vs H2 p2 k2 rh2 rv2 => ?_⟩⟩
    · obtain ⟨p, xs, rfl, s, _⟩ := lstOf_ok rh1 rv1 e3
      exact .inl ⟨rfl, xs, s⟩
    · exact ⟨φ2, h2, d1, d2, d, h', rh2, rv1.mono p2 k2, rv2, eq, fun φ3 v H3 p3 k3 => k φ3 v H3 (p1.trans (p2.trans p3)) (k1.trans (k2.trans k3))⟩
  · cases eq
theorem me_met0 {id : String} {name : Str} {apos : Pos} {g : GM} (slot : Slot "list" name id) (hty : typeOf (.builtin id) = pure (.type "method_descriptor")) (hm : MtR X id (rMM X.K g)) (ho : PE X o (tM X.K mo))
    (hbase : attributeBase o name X.env (eval o X.env) = eval o X.env := by rfl) (hline : (apos.endLine == pos.line) = true := by rfl) :
    PE X (.Call (.Attribute o name apos) [] [] pos) (tM X.K (mMet0 g mo)) := by
  refine (pe_bm0 PySem.F.plainAttrs_list slot hty hm ho hbase hline).conseq ?_
  rintro σ H Q ⟨φ, e, h, d, h', re, rh, eq, k⟩
  obtain ⟨⟨d1, h1⟩, e1, eq⟩ := Option.bind_eq_some_iff.mp eq
  dsimp only at eq
  split at eq
  · rename_i hi
    obtain ⟨ds, e3⟩ := Option.isSome_iff_exists.mp hi
    refine ⟨φ, e, h, d1, h1, re, rh, e1, fun φ1 v1 H1 p1 k1 rh1 rv1 => ⟨?_, ?_⟩⟩
    · obtain ⟨p, xs, rfl, s, _⟩ := lstOf_ok rh1 rv1 e3
      exact .inl ⟨rfl, xs, s⟩
    · exact ⟨φ1, h1, d1, [], d, h', rh1, rv1, .nil, eq, fun φ3 v H3 p3 k3 => k φ3 v H3 (p1.trans p3) (k1.trans k3)⟩
  · cases eq
theorem notImm_lst {xs : List V} : ¬ Imm (.lst xs) := fun z => z
def gAppend : GM := fun x ds h => match x, ds with
  | .loc n, [d] => match h[n]? with
    | some (.lst xs) => if xs.length < sizeLine then some (.p .none, h.set n (.lst (xs ++ [d]))) else none
    | _ => none
  | _, _ => none
def gExtend : GM := fun x ds h => match x, ds with
  | .loc n, [.loc m] => match h[n]?, h[m]? with
    | some (.lst xs), some (.lst ys) => if xs.length + ys.length ≤ sizeLine then some (.p .none, h.set n (.lst (xs ++ ys))) else none
    | _, _ => none
  | _, _ => none
def gPop : GM := fun x ds h => match x, ds with
  | .loc n, [] => match h[n]? with
    | some (.lst xs) => (xs[xs.length - 1]?).map fun d => (d, h.set n (.lst xs.dropLast))
    | _ => none
  | _, _ => none
def gPopAt : GM := fun x ds h => match x, ds with
  | .loc n, [.p (.int j)] => match h[n]? with
    | some (.lst xs) => if 0 ≤ j ∧ j < xs.length ∧ j < 2 ^ 63 then (xs[j.toNat]?).map fun d => (d, h.set n (.lst (xs.eraseIdx j.toNat))) else none
    | _ => none
  | _, _ => none
theorem t_append : MtR X "list.append" (rMM X.K gAppend) := by
  refine L2.MtR.imp (X := X) mt_append ?_
  rintro x xs H Q ⟨φ, h, dx, ds, d, h', rh, rx, rxs, eq, k⟩
  unfold gAppend at eq
  split at eq
  · split at eq
    · rename_i ys ey
      split at eq
      · rename_i hz
        cases eq
        obtain ⟨a, zs, rfl, ea, ha, q⟩ := loc_lst rh rx ey
        obtain ⟨v, rfl, rv⟩ := rvs1 rxs
        refine ⟨a, zs, v, rfl, rfl, ha, by rw [← q.length]; exact hz, ?_⟩
        have kp := HK.put (o := .lst (zs ++ [v])) ha notImm_lst
        exact k φ _ _ (List.prefix_refl φ) kp (rh.write ea ha notImm_lst ⟨_, upd_same, (q.append (.cons rv .nil)).mono (List.prefix_refl φ) kp⟩) (.p .non)
      · cases eq
    · cases eq
  · cases eq
theorem t_extend : MtR X "list.extend" (rMM X.K gExtend) := by
  refine L2.MtR.imp (X := X) mt_extend ?_
  rintro x xs H Q ⟨φ, h, dx, ds, d, h', rh, rx, rxs, eq, k⟩
  unfold gExtend at eq
  split at eq
  · split at eq
    · rename_i ys ws ey ew
      split at eq
      · rename_i hz
        cases eq
        obtain ⟨a, zs, rfl, ea, ha, q⟩ := loc_lst rh rx ey
        obtain ⟨v, rfl, rv⟩ := rvs1 rxs
        obtain ⟨b, us, rfl, eb, hb, q2⟩ := loc_lst rh rv ew
        refine ⟨a, b, zs, us, rfl, rfl, ha, hb, by rw [← q.length, ← q2.length]; exact hz, ?_⟩
        have kp := HK.put (o := .lst (zs ++ us)) ha notImm_lst
        exact k φ _ _ (List.prefix_refl φ) kp (rh.write ea ha notImm_lst ⟨_, upd_same, (q.append q2).mono (List.prefix_refl φ) kp⟩) (.p .non)
      · cases eq
    · cases eq
  · cases eq
theorem t_pop : MtR X "list.pop" (rMM X.K gPop) := by
  refine L2.MtR.imp (X := X) mt_pop ?_
  rintro x xs H Q ⟨φ, h, dx, ds, d, h', rh, rx, rxs, eq, k⟩
  unfold gPop at eq
  split at eq
  · split at eq
    · rename_i ys ey
      obtain ⟨d', e1, eq⟩ := Option.map_eq_some_iff.mp eq
      cases eq
      obtain ⟨a, zs, rfl, ea, ha, q⟩ := loc_lst rh rx ey
      cases rxs
      obtain ⟨v, e2, rv⟩ := q.get e1
      refine ⟨a, zs, v, rfl, rfl, ha, by rw [← q.length]; exact e2, ?_⟩
      have kp := HK.put (o := .lst zs.dropLast) ha notImm_lst
      exact k φ _ _ (List.prefix_refl φ) kp (rh.write ea ha notImm_lst ⟨_, upd_same, q.dropLast.mono (List.prefix_refl φ) kp⟩) (rv.mono (List.prefix_refl φ) kp)
    · cases eq
  · cases eq
theorem t_popAt : MtR X "list.pop" (rMM X.K gPopAt) := by
  refine L2.MtR.imp (X := X) mt_popAt ?_
  rintro x xs H Q ⟨φ, h, dx, ds, d, h', rh, rx, rxs, eq, k⟩
  unfold gPopAt at eq
  split at eq
  · split at eq
    · rename_i j _o ys ey
      split at eq
      · rename_i hj
        obtain ⟨d', e1, eq⟩ := Option.map_eq_some_iff.mp eq
        cases eq
        obtain ⟨a, zs, rfl, ea, ha, q⟩ := loc_lst rh rx ey
        obtain ⟨w, rfl, rw'⟩ := rvs1 rxs
        obtain ⟨v, e2, rv⟩ := q.get e1
        have hl := q.length
        refine ⟨a, zs, j, j.toNat, v, rfl, by rw [rw'.int_inv], ha, by omega, hj.2.2, seqIndex_of hj.1 (by omega), e2, ?_⟩
        have kp := HK.put (o := .lst (zs.eraseIdx j.toNat)) ha notImm_lst
        exact k φ _ _ (List.prefix_refl φ) kp (rh.write ea ha notImm_lst ⟨_, upd_same, (q.eraseIdx _).mono (List.prefix_refl φ) kp⟩) (rv.mono (List.prefix_refl φ) kp)
      · cases eq
    · cases eq
  · cases eq
end
end MX
set_option Elab.async false
set_option linter.all false
set_option maxRecDepth 100000
set_option maxHeartbeats 1000000
set_option autoImplicit false
namespace MX
open PySem PySem.Spec L2
/-! ### what is walked -/
abbrev Nxt := Nat → Hq → Option (Option Mv)
abbrev Src := En → Hq → Option ((Nat × Nxt) × Hq)
def IR (K : PySem.W.Frag) (φ0 : List Addr) (H0 : Hp) (nx : Nxt) (J : It) : Prop := ∀ (i : Nat) (φ : List Addr) (h : Hq) (H : Hp), φ0 <+: φ → HK H0 H → RH K φ h H →
  (nx i h = some none → J.stop i H) ∧ ∀ d, nx i h = some (some d) → J.go i H ∧ ∀ x H', J.yld i H x H' → HK H H' ∧ RH K φ h H' ∧ RV K φ H' d x
def tI (K : PySem.W.Frag) (s : Src) : TI := fun σ H R => ∃ φ e h n nx h', RE K φ H e σ ∧ RH K φ h H ∧ s e h = some ((n, nx), h') ∧
  ∀ φ' H' J, φ <+: φ' → HK H H' → RH K φ' h' H' → IR K φ' H' nx J → R J H'
section
variable {K : PySem.W.Frag} {φ : List Addr} {H : Hp}
theorem get_none_len {α β : Type} {xs : List α} {ys : List β} (h : xs.length = ys.length) {i : Nat} (e : xs[i]? = none) : ys.length ≤ i := by
  rw [← h]; exact List.getElem?_eq_none_iff.mp e
theorem ir_list {n : Nat} {a : Addr} (ea : φ[n]? = some a) : IR K φ H (fun i h' => (lstOf h' (.loc n)).map fun ds => ds[i]?) (Itl K a) := by
  intro i φ1 h H1 p k rh
  refine ⟨fun e => ?_, fun d e => ?_⟩
  · obtain ⟨ds, e1, e2⟩ := Option.map_eq_some_iff.mp e
    obtain ⟨b, xs, eb, s, q⟩ := lstOf_ok rh (.loc (pre_get p ea)) e1
    cases eb
    exact ⟨xs, s, get_none_len q.length e2⟩
  · obtain ⟨ds, e1, e2⟩ := Option.map_eq_some_iff.mp e
    obtain ⟨b, xs, eb, s, q⟩ := lstOf_ok rh (.loc (pre_get p ea)) e1
    cases eb
    obtain ⟨v, ev, rv⟩ := q.get e2
    refine ⟨⟨xs, v, s, ev⟩, fun x H' y => ?_⟩
    obtain ⟨rfl, y⟩ := y
    have := y xs s
    rw [ev] at this
    cases this
    exact ⟨HK.refl _, rh, rv⟩
theorem ir_frl {a : Addr} {ns : List Int} (s : FrL K H a (ns.map V.int)) : IR K φ H (fun i h' => (lstOf h' (.fl ns)).map fun ds => ds[i]?) (Itl K a) := by
  intro i φ1 h H1 p k rh
  have s1 := (k.frL s).seq
  refine ⟨fun e => ?_, fun d e => ?_⟩
  · have e2 : (ns.map Mv.int)[i]? = none := by simpa [lstOf] using e
    exact ⟨_, s1, get_none_len (by simp) e2⟩
  · have e2 : (ns.map Mv.int)[i]? = some d := by simpa [lstOf] using e
    obtain ⟨v, ev, rv⟩ := (rvs_ints (K := K) (φ := φ1) (H := H1) ns).get e2
    refine ⟨⟨_, v, s1, ev⟩, fun x H' y => ?_⟩
    obtain ⟨rfl, y⟩ := y
    have := y _ s1
    rw [ev] at this
    cases this
    exact ⟨HK.refl _, rh, rv⟩
theorem ir_tup {a : Addr} {ds : List Mv} {xs : List V} (s : SqT K H a xs) (q : RVs K φ H ds xs) : IR K φ H (fun i _ => some ds[i]?) (Itt K a) := by
  intro i φ1 h H1 p k rh
  have s1 := k.seqT s
  have q1 := q.mono p k
  refine ⟨fun e => ?_, fun d e => ?_⟩
  · exact ⟨_, s1, get_none_len q1.length (Option.some.inj e)⟩
  · obtain ⟨v, ev, rv⟩ := q1.get (Option.some.inj e)
    refine ⟨⟨_, v, s1, ev⟩, fun x H' y => ?_⟩
    obtain ⟨rfl, y⟩ := y
    have := y _ s1
    rw [ev] at this
    cases this
    exact ⟨HK.refl _, rh, rv⟩
end
/-- a list or a tuple -/
def sSeq (a : ME) : Src := fun e h => (a e h).bind fun r => match tupOf r.1 with
  | some ds => some ((ds.length, fun i _ => some ds[i]?), r.2)
  | none => (lstOf r.2 r.1).map fun ds => ((ds.length, fun i h' => (lstOf h' r.1).map fun ds => ds[i]?), r.2)
section
variable {X : Cx} {a b c tg : Expr} {ma mb mc : ME} {pos p : Pos} {m : MA}
theorem _root_.L2.PI.or {e : Expr} {t t' : TI} (h : PI X tg e t) (h' : PI X tg e t') : PI X tg e (fun σ H R => t σ H R ∨ t' σ H R) := ⟨fun pins s σ H R I q => by
  rcases q with q | q
  · exact h.run pins s σ H R I q
  · exact h'.run pins s σ H R I q⟩
theorem ni_seq (ha : PE X a (tM X.K ma)) : PI X tg a (tI X.K (sSeq ma)) := by
  refine ((pi_tup ha).or (pi_list ha)).conseq ?_
  rintro σ H R ⟨φ, e, h, n, nx, h', re, rh, eq, k⟩
  obtain ⟨⟨d1, h1⟩, e1, eq⟩ := Option.bind_eq_some_iff.mp eq
  dsimp only at eq
  split at eq
  · rename_i ds et
    cases eq
    refine .inl ⟨φ, e, h, d1, _, re, rh, e1, fun φ1 v1 H1 p1 k1 rh1 rv1 => ?_⟩
    obtain ⟨a, xs, rfl, s, q⟩ := tupOf_ok rv1 et
    exact ⟨a, rfl, ⟨xs, s⟩, k φ1 H1 _ p1 k1 rh1 (ir_tup s q)⟩
  · obtain ⟨ds, e2, eq⟩ := Option.map_eq_some_iff.mp eq
    cases eq
    refine .inr ⟨φ, e, h, d1, _, re, rh, e1, fun φ1 v1 H1 p1 k1 rh1 rv1 => ?_⟩
    obtain ⟨a, xs, rfl, s, q⟩ := lstOf_ok rh1 rv1 e2
    refine ⟨a, rfl, ⟨xs, s⟩, k φ1 H1 _ p1 k1 rh1 ?_⟩
    unfold lstOf at e2
    split at e2
    · obtain ⟨b, eb, ea⟩ := rv1.loc_inv
      cases eb
      exact ir_list ea
    · obtain ⟨b, eb, ea⟩ := rv1.fl_inv
      cases eb
      exact ir_frl ea
    · cases e2
/-- range -/
def rngN (lo : Int) (n : Nat) : Nxt := fun i _ => if i < n then some (some (.p (.int (lo + i)))) else some none
def bnd (j : Int) : Bool := decide (-(2 ^ 62) ≤ j ∧ j < 2 ^ 62)
def sRng1 (m : MA) : Src := fun e h => (m e h).bind fun r => match r.1 with
  | [.p (.int j)] => if bnd j = true then some ((j.toNat, rngN 0 j.toNat), r.2) else none
  | _ => none
def sRng2 (m : MA) : Src := fun e h => (m e h).bind fun r => match r.1 with
  | [.p (.int i), .p (.int j)] => if bnd i = true ∧ bnd j = true then some (((j - i).toNat, rngN i (j - i).toNat), r.2) else none
  | _ => none
theorem ir_rng {K : PySem.W.Frag} {φ : List Addr} {H : Hp} (lo : Int) (n : Nat) : IR K φ H (rngN lo n) (Itr lo n) := by
  intro i φ1 h H1 p k rh
  unfold rngN
  by_cases hi : i < n
  · rw [if_pos hi]
    refine ⟨(fun e => nomatch e), fun d e => ⟨hi, fun x H' y => ?_⟩⟩
    cases e
    obtain ⟨rfl, rfl⟩ := y
    exact ⟨HK.refl _, rh, .p (.int _)⟩
  · rw [if_neg hi]
    exact ⟨fun _ => Nat.le_of_not_lt hi, fun d e => nomatch e⟩
theorem bnd_ok {j : Int} (h : bnd j = true) : -(2 ^ 62) ≤ j ∧ j < 2 ^ 62 := of_decide_eq_true h
theorem ni_rng1 (hm : X.mg "range" = none) (ha : PA X [a] (tA X.K m)) (hg : Gl X "range" := by rfl) (hs : starEach [a] X.env = [(false, eval a X.env)] := by rfl) : PI X tg (.Call (.Name "range" p) [a] [] pos) (tI X.K (sRng1 m)) := by
  refine (pi_range1 hg hm ha hs).conseq ?_
  rintro σ H R ⟨φ, e, h, n, nx, h', re, rh, eq, k⟩
  obtain ⟨⟨d1, h1⟩, e1, eq⟩ := Option.bind_eq_some_iff.mp eq
  dsimp only at eq
  split at eq
  · rename_i j
    split at eq
    · rename_i hb
      cases eq
      refine ⟨φ, e, h, _, _, re, rh, e1, fun φ1 vs H1 p1 k1 rh1 rv1 => ?_⟩
      obtain ⟨v, rfl, r1⟩ := rvs1 rv1
      exact ⟨j, by rw [r1.int_inv], (bnd_ok hb).1, (bnd_ok hb).2, k φ1 H1 _ p1 k1 rh1 (ir_rng 0 _)⟩
    · cases eq
  · cases eq
theorem ni_rng2 (hm : X.mg "range" = none) (ha : PA X [a, b] (tA X.K m)) (hg : Gl X "range" := by rfl) (hs : starEach [a, b] X.env = [(false, eval a X.env), (false, eval b X.env)] := by rfl) (hs2 : starEach [b] X.env = [(false, eval b X.env)] := by rfl) :
    PI X tg (.Call (.Name "range" p) [a, b] [] pos) (tI X.K (sRng2 m)) := by
  refine (pi_range2 hg hm ha hs hs2).conseq ?_
  rintro σ H R ⟨φ, e, h, n, nx, h', re, rh, eq, k⟩
  obtain ⟨⟨d1, h1⟩, e1, eq⟩ := Option.bind_eq_some_iff.mp eq
  dsimp only at eq
  split at eq
  · rename_i i j
    split at eq
    · rename_i hb
      cases eq
      refine ⟨φ, e, h, _, _, re, rh, e1, fun φ1 vs H1 p1 k1 rh1 rv1 => ?_⟩
      obtain ⟨v, w, rfl, r1, r2⟩ := rvs2 rv1
      exact ⟨i, j, by rw [r1.int_inv, r2.int_inv], ⟨(bnd_ok hb.1).1, (bnd_ok hb.1).2, (bnd_ok hb.2).1, (bnd_ok hb.2).2⟩, k φ1 H1 _ p1 k1 rh1 (ir_rng i _)⟩
    · cases eq
  · cases eq
/-- zip, enumerate -/
def sZip (m : MA) : Src := fun e h => (m e h).bind fun r => match r.1 with
  | [x, y] => match tupOf x, tupOf y with
    | some ds, some es => some ((min ds.length es.length, fun i _ => some (match ds[i]?, es[i]? with
      | some d, some e => some (mkT [d, e])
      | _, _ => none)), r.2)
    | none, none => (lstOf r.2 x).bind fun ds => (lstOf r.2 y).map fun es => ((min ds.length es.length, fun i h' => (lstOf h' x).bind fun ds => (lstOf h' y).map fun es => match ds[i]?, es[i]? with
      | some d, some e => some (mkT [d, e])
      | _, _ => none), r.2)
    | _, _ => none
  | _ => none
theorem ir_zipT {K : PySem.W.Frag} {φ : List Addr} {H : Hp} {a b : Addr} {ds es : List Mv} {xs ys : List V} (s : SqT K H a xs) (t : SqT K H b ys) (q : RVs K φ H ds xs) (r : RVs K φ H es ys) :
    IR K φ H (fun i _ => some (match ds[i]?, es[i]? with
      | some d, some e => some (mkT [d, e])
      | _, _ => none)) (RZ.ItzT K a b) := by
  intro i φ1 h H1 p k rh
  have s1 := k.seqT s
  have t1 := k.seqT t
  have q1 := q.mono p k
  have r1 := r.mono p k
  refine ⟨fun e => ?_, fun d e => ?_⟩
  · have e := Option.some.inj e
    refine ⟨_, _, s1, t1, ?_⟩
    cases e1 : ds[i]? with
    | none => exact .inl (get_none_len q1.length e1)
    | some x =>
      cases e2 : es[i]? with
      | none => exact .inr (get_none_len r1.length e2)
      | some y => rw [e1, e2] at e; cases e
  · have e := Option.some.inj e
    cases e1 : ds[i]? with
    | none => rw [e1] at e; cases e
    | some x =>
      cases e2 : es[i]? with
      | none => rw [e1, e2] at e; cases e
      | some y =>
        rw [e1, e2] at e
        cases e
        obtain ⟨v, ev, rv⟩ := q1.get e1
        obtain ⟨w, ew, rw'⟩ := r1.get e2
        refine ⟨⟨_, _, v, w, s1, t1, ev, ew⟩, fun z H' y => ?_⟩
        obtain ⟨T, x', y', rfl, hT, rfl, g1, g2⟩ := y
        have z1 := g1 _ s1
        have z2 := g2 _ t1
        rw [ev] at z1; rw [ew] at z2
        cases z1; cases z2
        exact ⟨HK.new hT, rh.side hT, mkT_ok hT (.cons rv (.cons rw' .nil))⟩
/-- the list that a value stands for, at each turn -/
theorem lst_at {K : PySem.W.Frag} {φ : List Addr} {H : Hp} {h : Hq} {x : Mv} {v : V} {ds : List Mv} (rh : RH K φ h H) (r : RV K φ H x v) (e : lstOf h x = some ds) :
    ∃ a, v = .ref a ∧ (∃ xs, SqL K H a xs) ∧ ∀ (φ1 : List Addr) (h1 : Hq) (H1 : Hp) (ds1 : List Mv), φ <+: φ1 → HK H H1 → RH K φ1 h1 H1 → lstOf h1 x = some ds1 → ∃ xs, SqL K H1 a xs ∧ RVs K φ1 H1 ds1 xs := by
  obtain ⟨a, xs, rfl, s, q⟩ := lstOf_ok rh r e
  refine ⟨a, rfl, ⟨xs, s⟩, fun φ1 h1 H1 ds1 p k rh1 e1 => ?_⟩
  obtain ⟨b, ys, eb, s1, q1⟩ := lstOf_ok rh1 (r.mono p k) e1
  cases eb
  exact ⟨ys, s1, q1⟩
theorem seq_fun {K : PySem.W.Frag} {H : Hp} {a : Addr} {xs : List V} {i : Nat} {x : V} (s : SqL K H a xs) (g : ∀ ys, SqL K H a ys → ys[i]? = some x) : xs[i]? = some x := g xs s
theorem ni_zip {tpos : Pos} {elts : List Expr} {kk : Nat} (hm : X.mg "zip" = none) (ha : PA X [a, b] (tA X.K m)) (hg : Gl X "zip" := by rfl)
    (hs : starEach [a, b] X.env = (false, eval a X.env) :: starEach [b] X.env := by rfl) (hpl : (backTo pos (starEach [b] X.env)).any (·.1) = false := by rfl) :
    PI X (.Tuple elts kk tpos) (.Call (.Name "zip" p) [a, b] [] pos) (tI X.K (sZip m)) := by
  refine (RZ.pi_zipA hg hm ha hs hpl).conseq ?_
  rintro σ H R ⟨φ, e, h, n, nx, h', re, rh, eq, k⟩
  obtain ⟨⟨d1, h1⟩, e1, eq⟩ := Option.bind_eq_some_iff.mp eq
  dsimp only at eq
  split at eq
  · rename_i x y
    split at eq
    · rename_i ds es ex ey
      cases eq
      refine ⟨φ, e, h, _, _, re, rh, e1, fun φ1 vs H1 p1 k1 rh1 rv1 => ?_⟩
      obtain ⟨v, w, rfl, r1, r2⟩ := rvs2 rv1
      obtain ⟨a, xs, rfl, s, q⟩ := tupOf_ok r1 ex
      obtain ⟨b, ys, rfl, t, r⟩ := tupOf_ok r2 ey
      exact ⟨a, b, xs, ys, rfl, .inr ⟨s, t, k φ1 H1 _ p1 k1 rh1 (ir_zipT s t q r)⟩⟩
    · obtain ⟨ds, e2, eq⟩ := Option.bind_eq_some_iff.mp eq
      obtain ⟨es, e3, eq⟩ := Option.map_eq_some_iff.mp eq
      cases eq
      refine ⟨φ, e, h, _, _, re, rh, e1, fun φ1 vs H1 p1 k1 rh1 rv1 => ?_⟩
      obtain ⟨v, w, rfl, r1, r2⟩ := rvs2 rv1
      obtain ⟨a, rfl, ⟨xs, s⟩, fa⟩ := lst_at rh1 r1 e2
      obtain ⟨b, rfl, ⟨ys, t⟩, fb⟩ := lst_at rh1 r2 e3
      refine ⟨a, b, xs, ys, rfl, .inl ⟨s, t, k φ1 H1 _ p1 k1 rh1 ?_⟩⟩
      intro i φ2 h2 H2 p2 k2 rh2
      refine ⟨fun e => ?_, fun d e => ?_⟩
      · obtain ⟨ds2, g1, e⟩ := Option.bind_eq_some_iff.mp e
        obtain ⟨es2, g2, e⟩ := Option.map_eq_some_iff.mp e
        obtain ⟨xs2, s2, q2⟩ := fa φ2 h2 H2 ds2 p2 k2 rh2 g1
        obtain ⟨ys2, t2, q3⟩ := fb φ2 h2 H2 es2 p2 k2 rh2 g2
        refine ⟨_, _, s2, t2, ?_⟩
        cases e1 : ds2[i]? with
        | none => exact .inl (get_none_len q2.length e1)
        | some x =>
          cases e2 : es2[i]? with
          | none => exact .inr (get_none_len q3.length e2)
          | some y => rw [e1, e2] at e; cases e
      · obtain ⟨ds2, g1, e⟩ := Option.bind_eq_some_iff.mp e
        obtain ⟨es2, g2, e⟩ := Option.map_eq_some_iff.mp e
        obtain ⟨xs2, s2, q2⟩ := fa φ2 h2 H2 ds2 p2 k2 rh2 g1
        obtain ⟨ys2, t2, q3⟩ := fb φ2 h2 H2 es2 p2 k2 rh2 g2
        cases e1 : ds2[i]? with
        | none => rw [e1] at e; cases e
        | some x =>
          cases e2 : es2[i]? with
          | none => rw [e1, e2] at e; cases e
          | some y =>
            rw [e1, e2] at e
            cases e
            obtain ⟨v, ev, rv⟩ := q2.get e1
            obtain ⟨w, ew, rw'⟩ := q3.get e2
            refine ⟨⟨_, _, v, w, s2, t2, ev, ew⟩, fun z H' y => ?_⟩
            obtain ⟨T, x', y', rfl, hT, rfl, g1, g2⟩ := y
            have z1 := g1 _ s2
            have z2 := g2 _ t2
            rw [ev] at z1; rw [ew] at z2
            cases z1; cases z2
            exact ⟨HK.new hT, rh2.side hT, mkT_ok hT (.cons rv (.cons rw' .nil))⟩
    · cases eq
  · cases eq
def sEnumL (m : MA) : Src := fun e h => (m e h).bind fun r => match r.1 with
  | [x] => (lstOf r.2 x).map fun ds => ((ds.length, fun i h' => (lstOf h' x).map fun ds => (ds[i]?).map fun d => mkT [.p (.int i), d]), r.2)
  | _ => none
theorem ni_enumL {tpos : Pos} {elts : List Expr} {kk : Nat} (hm : X.mg "enumerate" = none) (ha : PA X [a] (tA X.K m)) (hg : Gl X "enumerate" := by rfl) (hs : starEach [a] X.env = [(false, eval a X.env)] := by rfl) :
    PI X (.Tuple elts kk tpos) (.Call (.Name "enumerate" p) [a] [] pos) (tI X.K (sEnumL m)) := by
  refine (pi_enum hg hm ha hs).conseq ?_
  rintro σ H R ⟨φ, e, h, n, nx, h', re, rh, eq, k⟩
  obtain ⟨⟨d1, h1⟩, e1, eq⟩ := Option.bind_eq_some_iff.mp eq
  dsimp only at eq
  split at eq
  · rename_i x
    obtain ⟨ds, e2, eq⟩ := Option.map_eq_some_iff.mp eq
    cases eq
    refine ⟨φ, e, h, _, _, re, rh, e1, fun φ1 vs H1 p1 k1 rh1 rv1 => ?_⟩
    obtain ⟨v, rfl, r1⟩ := rvs1 rv1
    obtain ⟨a, rfl, ⟨xs, s⟩, fa⟩ := lst_at rh1 r1 e2
    refine ⟨a, xs, rfl, s, k φ1 H1 _ p1 k1 rh1 ?_⟩
    intro i φ2 h2 H2 p2 k2 rh2
    refine ⟨fun e => ?_, fun d e => ?_⟩
    · obtain ⟨ds2, g1, e⟩ := Option.map_eq_some_iff.mp e
      obtain ⟨xs2, s2, q2⟩ := fa φ2 h2 H2 ds2 p2 k2 rh2 g1
      exact ⟨_, s2, get_none_len q2.length (Option.map_eq_none_iff.mp e)⟩
    · obtain ⟨ds2, g1, e⟩ := Option.map_eq_some_iff.mp e
      obtain ⟨xs2, s2, q2⟩ := fa φ2 h2 H2 ds2 p2 k2 rh2 g1
      obtain ⟨d', e1, rfl⟩ := Option.map_eq_some_iff.mp e
      obtain ⟨v, ev, rv⟩ := q2.get e1
      refine ⟨⟨_, v, s2, ev⟩, fun z H' y => ?_⟩
      obtain ⟨T, x', rfl, hT, rfl, g⟩ := y
      have z1 := g _ s2
      rw [ev] at z1
      cases z1
      exact ⟨HK.new hT, rh2.side hT, mkT_ok hT (.cons (.p (.int _)) (.cons rv .nil))⟩
  · cases eq
end
end MX
set_option Elab.async false
set_option linter.all false
set_option maxRecDepth 100000
set_option maxHeartbeats 1000000
set_option autoImplicit false
namespace MX
open PySem PySem.Spec L2
/-! ### targets: names -/
inductive Tg where
  | nm (i : Nat)
  | tup (is : List Nat)
def Tg.sl : Tg → List Nat
  | .nm i => [i]
  | .tup is => is
def setAll : List Nat → List Mv → En → Option En
  | [], [], e => some e
  | i :: is, d :: ds, e => if i < e.length then setAll is ds (e.set i d) else none
  | _, _, _ => none
def asg : Tg → Mv → En → Option En
  | .nm i, d, e => if i < e.length then some (e.set i d) else none
  | .tup is, d, e => (tupOf d).bind fun ds => setAll is ds e
section
variable {K : PySem.W.Frag} {φ : List Addr} {H : Hp} {e : En} {σ : L2.St}
theorem RE.set (r : RE K φ H e σ) {i : Nat} {d : Mv} {v : V} (q : RV K φ H d v) : RE K φ H (e.set i d) (σ.set i (some v)) := by
  refine ⟨by simp [r.1], fun j x hj => ?_⟩
  by_cases z : i = j
  · subst z
    by_cases hl : i < e.length
    · rw [List.getElem?_set_self hl] at hj
      cases hj
      exact .inr ⟨v, by rw [List.getElem?_set_self (by rw [← r.1]; exact hl)], q⟩
    · rw [List.getElem?_eq_none (by simpa using hl)] at hj
      cases hj
  · rw [List.getElem?_set_ne z] at hj
    rcases r.2 j x hj with w | ⟨u, hu, ru⟩
    · exact .inl w
    · exact .inr ⟨u, by rw [List.getElem?_set_ne z]; exact hu, ru⟩
theorem setAll_len : ∀ {is : List Nat} {ds : List Mv} {e e' : En}, setAll is ds e = some e' → is.length = ds.length
  | [], [], _, _, _ => rfl
  | [], _ :: _, _, _, h => by simp [setAll] at h
  | _ :: _, [], _, _, h => by simp [setAll] at h
  | i :: is, d :: ds, e, e', h => by
    unfold setAll at h
    split at h
    · simp [setAll_len h]
    · cases h
end
/-- σ' is σ but for some slots -/
def But (is : List Nat) (σ σ' : L2.St) : Prop := σ'.length = σ.length ∧ ∀ j, j ∉ is → σ'[j]? = σ[j]?
def tG (K : PySem.W.Frag) (t : Tg) : TG := fun v σ H Q => ∃ φ e e' d, RE K φ H e σ ∧ RV K φ H d v ∧ asg t d e = some e' ∧ ∀ σ', RE K φ H e' σ' → But t.sl σ σ' → Q σ' H
def tGs (K : PySem.W.Frag) (is : List Nat) : TGs := fun vs σ H Q => ∃ φ e e' ds, RE K φ H e σ ∧ RVs K φ H ds vs ∧ setAll is ds e = some e' ∧ ∀ σ', RE K φ H e' σ' → But is σ σ' → Q σ' H
section
variable {X : Cx} {pos : Pos}
theorem _root_.L2.PG.conseq {e : Expr} {t t' : TG} (h : PG X e t) (i : ∀ v σ H Q, t' v σ H Q → t v σ H Q) : PG X e t' := ⟨fun pins s σ H v u Q I r q => h.run pins s σ H v u Q I r (i v σ H Q q)⟩
theorem _root_.L2.PGs.conseq {e : List Expr} {t t' : TGs} (h : PGs X e t) (i : ∀ v σ H Q, t' v σ H Q → t v σ H Q) : PGs X e t' := ⟨fun pins s σ H v u Q I r q => h.run pins s σ H v u Q I r (i v σ H Q q)⟩
theorem ng_nm (i : Nat) {x : Str} (hN : X.N.Nodup) (hi : X.N[i]? = some x := by rfl) (hx : Loc X.env.scope x := by first | exact Or.inl rfl | exact Or.inr rfl) (hf : X.fn x = true ∨ X.env.scope.names.lookup x = some .local := by first | exact .inl rfl | exact .inr rfl | assumption) : PG X (.Name x pos) (tG X.K (.nm i)) := by
  refine (pg_name hN hi hx hf).conseq ?_
  rintro v σ H Q ⟨φ, e, e', d, re, rv, eq, k⟩
  simp only [asg] at eq
  split at eq
  · cases eq
    exact k _ (re.set rv) ⟨by simp, fun j hj => List.getElem?_set_ne (by simpa [Tg.sl, eq_comm] using hj)⟩
  · cases eq
theorem ngs_nil : PGs X [] (tGs X.K []) := by
  refine pgs_nil.conseq ?_
  rintro v σ H Q ⟨φ, e, e', ds, re, rv, eq, k⟩
  cases ds with
  | nil =>
    cases eq
    cases rv
    exact ⟨rfl, k σ re ⟨rfl, fun _ _ => rfl⟩⟩
  | cons => simp [setAll] at eq
theorem ngs_cons (i : Nat) {x : Str} {es : List Expr} {is : List Nat} (hN : X.N.Nodup) (ht : PGs X es (tGs X.K is)) (hi : X.N[i]? = some x := by rfl) (hx : Loc X.env.scope x := by first | exact Or.inl rfl | exact Or.inr rfl) (hf : X.fn x = true ∨ X.env.scope.names.lookup x = some .local := by first | exact .inl rfl | exact .inr rfl | assumption)
    (hs : (assignEach (.Name x pos :: es) X.env).map (·.2) = assign (.Name x pos) X.env :: (assignEach es X.env).map (·.2) := by rfl) : PGs X (.Name x pos :: es) (tGs X.K (i :: is)) := by
  refine (pgs_cons (pg_name hN hi hx hf) ht hs).conseq ?_
  rintro v σ H Q ⟨φ, e, e', ds, re, rv, eq, k⟩
  cases ds with
  | nil => simp [setAll] at eq
  | cons d ds =>
    cases rv with
    | cons r1 r2 =>
      unfold setAll at eq
      split at eq
      · refine ⟨_, _, rfl, φ, e.set i d, e', ds, re.set r1, r2, eq, fun σ' r' b => k σ' r' ⟨by rw [b.1]; simp, fun j hj => ?_⟩⟩
        rw [List.mem_cons, not_or] at hj
        rw [b.2 j hj.2, List.getElem?_set_ne (Ne.symm hj.1)]
      · cases eq
theorem ng_tup {es : List Expr} {kk : Nat} {is : List Nat} (hc : X.calm = true) (h : PGs X es (tGs X.K is)) (hn : (assignEach es X.env).length = is.length := by rfl) (hst : (assignEach es X.env).findIdx? (·.1) = none := by rfl) : PG X (.Tuple es kk pos) (tG X.K (.tup is)) := by
  refine (pg_tup hc h hn hst).conseq ?_
  rintro v σ H Q ⟨φ, e, e', d, re, rv, eq, k⟩
  unfold asg at eq
  obtain ⟨ds, e1, eq⟩ := Option.bind_eq_some_iff.mp eq
  obtain ⟨a, xs, rfl, s, q⟩ := tupOf_ok rv e1
  refine ⟨a, xs, rfl, s, ?_, φ, e, e', ds, re, q, eq, k⟩
  rw [← q.length, setAll_len eq]
end
/-! ### list comprehensions -/
def wipeE (e : En) : List Nat → En
  | [] => e
  | v :: vs => (wipeE e vs).set v .und
theorem RE.wipe {K : PySem.W.Frag} {φ : List Addr} {H : Hp} {e : En} {σ : L2.St} (r : RE K φ H e σ) : ∀ vs : List Nat, RE K φ H (wipeE e vs) (L2.wipe σ vs)
  | [] => r
  | v :: vs => by
    have ih := RE.wipe r vs
    refine ⟨by simp [wipeE, L2.wipe, ih.1], fun j x hj => ?_⟩
    unfold wipeE at hj
    by_cases z : v = j
    · subst z
      by_cases hl : v < (wipeE e vs).length
      · rw [List.getElem?_set_self hl] at hj
        cases hj
        exact .inl rfl
      · rw [List.getElem?_eq_none (by simpa using hl)] at hj
        cases hj
    · rw [List.getElem?_set_ne z] at hj
      rcases ih.2 j x hj with w | ⟨u, hu, ru⟩
      · exact .inl w
      · exact .inr ⟨u, by unfold L2.wipe; rw [List.getElem?_set_ne z]; exact hu, ru⟩
theorem wipe_get : ∀ {vs : List Nat} {σ : L2.St} {j : Nat}, j ∈ vs → j < σ.length → (L2.wipe σ vs)[j]? = some none
  | v :: vs, σ, j, hm, hl => by
    unfold L2.wipe
    by_cases z : v = j
    · subst z
      rw [List.getElem?_set_self (by rw [wipe_length]; exact hl)]
    · rw [List.getElem?_set_ne z]
      exact wipe_get ((List.mem_cons.mp hm).resolve_left (Ne.symm z)) hl
theorem But.wiped {is vs : List Nat} {σ σ' : L2.St} (b : But is (L2.wipe σ vs) σ') (h : ∀ i ∈ is, i ∈ vs) : L2.wipe σ' vs = L2.wipe σ vs := by
  have hl : σ'.length = σ.length := by rw [b.1, wipe_length]
  apply List.ext_getElem?
  intro j
  by_cases hj : j ∈ vs
  · by_cases hb : j < σ.length
    · rw [wipe_get hj hb, wipe_get hj (by rw [hl]; exact hb)]
    · rw [List.getElem?_eq_none (by rw [wipe_length]; omega), List.getElem?_eq_none (by rw [wipe_length]; omega)]
  · rw [wipe_out hj, wipe_out hj, b.2 j (fun z => hj (h j z)), wipe_out hj]
/-- the new item -/
def putL (n0 : Nat) (d : Mv) (h : Hq) : Option Hq := match h[n0]? with
  | some (.lst acc) => if acc.length < sizeLine then some (h.set n0 (.lst (acc ++ [d]))) else none
  | _ => none
def lcN (nx : Nxt) (t : Tg) (tt : MT) (te : ME) (e0 : En) (n0 : Nat) : Nat → Nat → Hq → Option Hq
  | 0, i, h => match nx i h with
    | some none => some h
    | _ => none
  | m + 1, i, h => match nx i h with
    | some none => some h
    | some (some d) => (asg t d e0).bind fun e1 => (tt e1 h).bind fun b => if b.1 = true then (te e1 b.2).bind fun y => (putL n0 y.1 y.2).bind fun h3 => lcN nx t tt te e0 n0 m (i + 1) h3
      else lcN nx t tt te e0 n0 m (i + 1) b.2
    | none => none
def tYesM : MT := fun _ h => some (true, h)
def mLc (s : Src) (t : Tg) (tt : MT) (te : ME) (vs : List Nat) : ME := fun e h => (s e h).bind fun r =>
  (lcN r.1.2 t tt te (wipeE e vs) r.2.length r.1.1 0 (r.2 ++ [.lst []])).map fun h' => (.loc r.2.length, h')
theorem putL_ok {K : PySem.W.Frag} {φ : List Addr} {h h' : Hq} {H : Hp} {n0 : Nat} {D : Addr} {d : Mv} {v : V} (rh : RH K φ h H) (hD : φ[n0]? = some D) (rv : RV K φ H d v) (e : putL n0 d h = some h') :
    ∃ acc, H D = some (.lst acc) ∧ acc.length < sizeLine ∧ HK H (upd H D (.lst (acc ++ [v]))) ∧ RH K φ h' (upd H D (.lst (acc ++ [v]))) := by
  unfold putL at e
  split at e
  · rename_i acc eo
    split at e
    · rename_i hz
      cases e
      obtain ⟨b, eb, ro⟩ := rh.ob n0 _ eo
      rw [hD] at eb; cases eb
      obtain ⟨vs, ev, q⟩ := ro
      have kp := HK.put (o := .lst (vs ++ [v])) ev notImm_lst
      exact ⟨vs, ev, by rw [← q.length]; exact hz, kp, rh.write hD ev notImm_lst ⟨_, upd_same, (q.append (.cons rv .nil)).mono (List.prefix_refl φ) kp⟩⟩
    · cases e
  · cases e
section
variable {X : Cx}
theorem tLc_of {K : PySem.W.Frag} {s : Src} {t : Tg} {tt : MT} {te : ME} {vs : List Nat} (hsl : ∀ i ∈ t.sl, i ∈ vs) {σ : L2.St} {H : Hp} {Q : VK} (q : tM K (mLc s t tt te vs) σ H Q) : tLc (tI K s) (tG K t) (tT K tt) (tM K te) vs σ H Q := by
  obtain ⟨φ, e, h, d, h', re, rh, eq, k⟩ := q
  obtain ⟨⟨⟨n, nx⟩, h1⟩, e1, eq⟩ := Option.bind_eq_some_iff.mp eq
  obtain ⟨h2, e2, eq⟩ := Option.map_eq_some_iff.mp eq
  obtain ⟨rfl, rfl⟩ := Prod.mk.inj eq
  refine ⟨φ, e, h, n, nx, h1, re, rh, e1, fun φ1 H1 J p1 k1 rh1 ir D hD => ?_⟩
  have hDn : (φ1 ++ [D])[h1.length]? = some D := by rw [← rh1.len, List.getElem?_append_right (Nat.le_refl _)]; simp
  have rh2 : RH K (φ1 ++ [D]) (h1 ++ [.lst []]) (upd H1 D (.lst [])) := (rh1.newL hD .nil).1
  refine ⟨fun i m H2 => ∃ φ2 h3, (φ1 ++ [D]) <+: φ2 ∧ HK H1 H2 ∧ RH K φ2 h3 H2 ∧ lcN nx t tt te (wipeE e vs) h1.length m i h3 = some h2, ⟨n, φ1 ++ [D], h1 ++ [.lst []], List.prefix_refl _, HK.new hD, rh2, e2⟩, ?_⟩
  rintro i m H2 ⟨φ2, h3, p2, k2, rh3, el⟩
  have pp : φ1 <+: φ2 := (List.prefix_append φ1 [D]).trans p2
  have ir2 := ir i φ2 h3 H2 pp k2 rh3
  have hD2 : φ2[h1.length]? = some D := pre_get p2 hDn
  have fin : ∀ {m}, nx i h3 = some none → lcN nx t tt te (wipeE e vs) h1.length m i h3 = some h2 → J.stop i H2 ∧ Q (.ref D) H2 := by
    intro m en el
    have : h3 = h2 := by
      cases m with
      | zero => simp only [lcN, en] at el; exact Option.some.inj el
      | succ m => simp only [lcN, en] at el; exact Option.some.inj el
    subst this
    exact ⟨ir2.1 en, k φ2 _ H2 (p1.trans pp) (k1.trans k2) rh3 (.loc hD2)⟩
  cases en : nx i h3 with
  | none => cases m <;> simp [lcN, en] at el
  | some o =>
    cases o with
    | none => exact .inl (fin en el)
    | some d =>
      cases m with
      | zero => simp [lcN, en] at el
      | succ m =>
        simp only [lcN, en] at el
        obtain ⟨e3, ea, el⟩ := Option.bind_eq_some_iff.mp el
        obtain ⟨⟨b, h4⟩, et, el⟩ := Option.bind_eq_some_iff.mp el
        obtain ⟨go, gy⟩ := ir2.2 d en
        refine .inr ⟨go, fun H5 => ∃ φ5 h5, (φ1 ++ [D]) <+: φ5 ∧ HK H1 H5 ∧ RH K φ5 h5 H5 ∧ lcN nx t tt te (wipeE e vs) h1.length m (i + 1) h5 = some h2, fun H5 h => ⟨m, Nat.lt_succ_self m, h⟩, fun x H3 y => ?_⟩
        obtain ⟨k3, rh4, rv⟩ := gy x H3 y
        have re3 : RE K φ2 H3 e σ := re.mono (p1.trans pp) (k1.trans (k2.trans k3))
        refine ⟨φ2, wipeE e vs, e3, d, re3.wipe vs, rv, ea, fun σ2 re4 bt => ⟨bt.wiped hsl, φ2, e3, h3, b, h4, re4, rh4, et, fun φ4 H4 p4 k4 rh5 => ?_⟩⟩
        dsimp only at el
        cases b with
        | false =>
          rw [if_neg (by decide)] at el ⊢
          exact ⟨φ4, h4, p2.trans p4, k2.trans (k3.trans k4), rh5, el⟩
        | true =>
          rw [if_pos rfl] at el ⊢
          obtain ⟨⟨y1, h5⟩, ey, el⟩ := Option.bind_eq_some_iff.mp el
          obtain ⟨h6, ep, el⟩ := Option.bind_eq_some_iff.mp el
          refine ⟨φ4, e3, h4, y1, h5, re4.mono p4 k4, rh5, ey, fun φ5 v5 H5 p5 k5 rh6 rv5 => ?_⟩
          obtain ⟨acc, ha, hz, kp, rh7⟩ := putL_ok rh6 (pre_get (p4.trans p5) hD2) rv5 ep
          exact ⟨acc, ha, hz, φ5, h6, p2.trans (p4.trans p5), k2.trans (k3.trans (k4.trans (k5.trans kp))), rh7, el⟩
theorem _root_.L2.PTs.conseq {e : List Expr} {t t' : TT} (h : PTs X e t) (i : ∀ σ H Q, t' σ H Q → t σ H Q) : PTs X e t' := ⟨fun pins s σ H Q I q => h.run pins s σ H Q I (i σ H Q q)⟩
theorem nt_nil : PTs X [] (tT X.K tYesM) := by
  refine pts_nil.conseq ?_
  rintro σ H Q ⟨φ, e, h, d, h', re, rh, eq, k⟩
  cases eq
  exact k φ H (List.prefix_refl φ) (HK.refl H) rh
theorem nt_one {c : Expr} {t : MT} (h : PT X c (tT X.K t)) : PTs X [c] (tT X.K t) := pts_one h
theorem me_lc {elt tg iter : Expr} {ifs : List Expr} {scope : Scope} {own : List (Str × Nat)} {pos : Pos} {s : Src} {t : Tg} {tt : MT} {te : ME} (hc : X.calm = true) (hN : X.N.Nodup) (hi : PI X tg iter (tI X.K s)) (ok : blkC X.N X.env.scope scope own = true)
    (hg : ∀ (s : Shared) (H : Hp) (C : Addr) (cl : List (Str × Addr)) (fp : List Addr), PG (X.blk s H scope (compEnvC scope cl C X.env) fp) tg (tG X.K t)) (ht : ∀ (s : Shared) (H : Hp) (C : Addr) (cl : List (Str × Addr)) (fp : List Addr), PTs (X.blk s H scope (compEnvC scope cl C X.env) fp) ifs (tT X.K tt))
    (he : ∀ (s : Shared) (H : Hp) (C : Addr) (cl : List (Str × Addr)) (fp : List Addr), PE (X.blk s H scope (compEnvC scope cl C X.env) fp) elt (tM X.K te)) (hsl : t.sl.all (fun i => (own.map (·.2)).contains i) = true := by rfl) (hs : ∀ x, foldedSetIterable iter X.env x = pure x := by intro _; rfl) :
    PE X (.ListComp elt [⟨tg, iter, ifs, 0⟩] scope pos) (tM X.K (mLc s t tt te (own.map (·.2)))) :=
  (pe_lc hc hN hi (blkOk_by ok) hg ht he hs).conseq fun _ _ _ q => tLc_of (by simpa using hsl) q
theorem ms_setLc {i : Nat} {y : Str} {py : Pos} {elt tg iter : Expr} {ifs : List Expr} {scope : Scope} {own : List (Str × Nat)} {pos spos : Pos} {s : Src} {t : Tg} {tt : MT} {te : ME} (hc : X.calm = true) (hN : X.N.Nodup)
    (hi : PI X tg iter (tI X.K s)) (ok : blkC X.N X.env.scope scope own = true)
    (hg : ∀ (s : Shared) (H : Hp) (C : Addr) (cl : List (Str × Addr)) (fp : List Addr), PG (X.blk s H scope (compEnvC scope cl C X.env) fp) tg (tG X.K t)) (ht : ∀ (s : Shared) (H : Hp) (C : Addr) (cl : List (Str × Addr)) (fp : List Addr), PTs (X.blk s H scope (compEnvC scope cl C X.env) fp) ifs (tT X.K tt))
    (he : ∀ (s : Shared) (H : Hp) (C : Addr) (cl : List (Str × Addr)) (fp : List Addr), PE (X.blk s H scope (compEnvC scope cl C X.env) fp) elt (tM X.K te))
    (hsw : swapsWith (.ListComp elt [⟨tg, iter, ifs, 0⟩] scope pos) (some (.Name y py)) spos.line X.env = pure true) (hy : X.N[i]? = some y := by rfl) (hyl : X.env.scope.names.lookup y = some .local := by rfl) (hsl : t.sl.all (fun i => (own.map (·.2)).contains i) = true := by rfl) (hs : ∀ x, foldedSetIterable iter X.env x = pure x := by intro _; rfl) :
    PS X (.Assign [.Name y py] (.ListComp elt [⟨tg, iter, ifs, 0⟩] scope pos) spos) (tAsg (tM X.K (mLc s t tt te (own.map (·.2)))) (gName i)) := by
  refine L2.PS.conseq (ps_setLc hc hN hy hyl hsw hi (blkOk_by ok) hg ht he hs) ?_
  intro D σ H q
  exact tLc_of (by simpa using hsl) q
end
end MX
set_option Elab.async false
set_option linter.all false
set_option maxRecDepth 100000
set_option maxHeartbeats 1000000
set_option autoImplicit false
namespace MX
open PySem PySem.Spec L2
/-! ### statements -/
def bNil : MS := fun e h => some (.nx, e, h)
def bSeq (a b : MS) : MS := fun e h => (a e h).bind fun r => match r.1 with
  | .nx => b r.2.1 r.2.2
  | f => some (f, r.2.1, r.2.2)
section
variable {X : Cx} {st : Stmt} {rest : List Stmt} {ma mb : MS} {me mo mi : ME} {m : MA} {pos : Pos}
theorem SEnd.nx {K : PySem.W.Frag} {φ : List Addr} {D : Ends} {e : En} {σ : L2.St} {H : Hp} (s : SEnd K φ D e σ H .nx) (r : RE K φ H e σ) : D.nx σ H := s r
theorem ms_nil : PSs X [] (tS X.K bNil) := by
  refine pss_nil.conseq ?_
  rintro D σ H ⟨φ, e, h, fl, e', h', re, rh, eq, k⟩
  cases eq
  exact k φ σ H (List.prefix_refl φ) (HK.refl H) rh re
theorem ms_cons (h1 : PS X st (tS X.K ma)) (h2 : PSs X rest (tS X.K mb)) : PSs X (st :: rest) (tS X.K (bSeq ma mb)) := by
  refine (pss_cons h1 h2).conseq ?_
  rintro D σ H ⟨φ, e, h, fl, e', h', re, rh, eq, k⟩
  obtain ⟨⟨f1, e1, h1⟩, q1, eq⟩ := Option.bind_eq_some_iff.mp eq
  refine ⟨φ, e, h, f1, e1, h1, re, rh, q1, fun φ1 σ1 H1 p1 k1 rh1 => ?_⟩
  cases f1 with
  | nx =>
    intro re1
    exact ⟨φ1, e1, h1, fl, e', h', re1, rh1, eq, fun φ2 σ2 H2 p2 k2 rh2 => k φ2 σ2 H2 (p1.trans p2) (k1.trans k2) rh2⟩
  | brk =>
    cases eq
    exact k φ1 σ1 H1 p1 k1 rh1
  | cnt =>
    cases eq
    exact k φ1 σ1 H1 p1 k1 rh1
  | ret d =>
    cases eq
    exact k φ1 σ1 H1 p1 k1 rh1
theorem ms_one (h1 : PS X st (tS X.K ma)) : PSs X [st] (tS X.K ma) := pss_one h1
def sNever : MS := fun _ _ => none
theorem ms_never : PS X st (tS X.K sNever) := by
  refine ps_never.conseq ?_
  rintro D σ H ⟨φ, e, h, fl, e', h', re, rh, eq, k⟩
  cases eq
theorem mss_never {sts : List Stmt} : PSs X sts (tS X.K sNever) := by
  refine pss_never.conseq ?_
  rintro D σ H ⟨φ, e, h, fl, e', h', re, rh, eq, k⟩
  cases eq
theorem ms_pass : PS X (.Pass pos) (tS X.K bNil) := by
  refine ps_pass.conseq ?_
  rintro D σ H ⟨φ, e, h, fl, e', h', re, rh, eq, k⟩
  cases eq
  exact k φ σ H (List.prefix_refl φ) (HK.refl H) rh re
def sBrk : MS := fun e h => some (.brk, e, h)
def sCnt : MS := fun e h => some (.cnt, e, h)
theorem ms_break : PS X (.Break pos) (tS X.K sBrk) := by
  refine ps_break.conseq ?_
  rintro D σ H ⟨φ, e, h, fl, e', h', re, rh, eq, k⟩
  cases eq
  exact k φ σ H (List.prefix_refl φ) (HK.refl H) rh re
theorem ms_cont : PS X (.Continue pos) (tS X.K sCnt) := by
  refine ps_continue.conseq ?_
  rintro D σ H ⟨φ, e, h, fl, e', h', re, rh, eq, k⟩
  cases eq
  exact k φ σ H (List.prefix_refl φ) (HK.refl H) rh re
def sRet (a : ME) : MS := fun e h => (a e h).map fun r => (.ret r.1, e, r.2)
theorem ms_ret {a : Expr} (ha : PE X a (tM X.K me)) : PS X (.Return (some a) pos) (tS X.K (sRet me)) := by
  refine (ps_ret ha).conseq ?_
  rintro D σ H ⟨φ, e, h, fl, e', h', re, rh, eq, k⟩
  obtain ⟨⟨d, h1⟩, q1, eq⟩ := Option.map_eq_some_iff.mp eq
  cases eq
  exact ⟨φ, e, h, d, _, re, rh, q1, fun φ1 v1 H1 p1 k1 rh1 rv1 => k φ1 σ H1 p1 k1 rh1 v1 rv1⟩
def sRetN : MS := fun e h => some (.ret (.p .none), e, h)
theorem ms_retN : PS X (.Return none pos) (tS X.K sRetN) := by
  refine ps_retN.conseq ?_
  rintro D σ H ⟨φ, e, h, fl, e', h', re, rh, eq, k⟩
  cases eq
  exact k φ σ H (List.prefix_refl φ) (HK.refl H) rh _ (.p .non)
def sExp (a : ME) : MS := fun e h => (a e h).map fun r => (.nx, e, r.2)
theorem ms_expr {a : Expr} (ha : PE X a (tM X.K me)) (hs : swapsWith a none pos.line X.env = pure false := by rfl) : PS X (.Expr a pos) (tS X.K (sExp me)) := by
  refine (ps_expr ha hs).conseq ?_
  rintro D σ H ⟨φ, e, h, fl, e', h', re, rh, eq, k⟩
  obtain ⟨⟨d, h1⟩, q1, eq⟩ := Option.map_eq_some_iff.mp eq
  cases eq
  exact ⟨φ, e, h, d, _, re, rh, q1, fun φ1 v1 H1 p1 k1 rh1 rv1 => k φ1 σ H1 p1 k1 rh1 (re.mono p1 k1)⟩
def sIf (t : MT) (a b : MS) : MS := fun e h => (t e h).bind fun r => if r.1 = true then a e r.2 else b e r.2
theorem ms_if {c : Expr} {as bs : List Stmt} {t : MT} (hc : PT X c (tT X.K t)) (ha : PSs X as (tS X.K ma)) (hb : PSs X bs (tS X.K mb)) : PS X (.If c as bs pos) (tS X.K (sIf t ma mb)) := by
  refine (ps_if hc ha hb).conseq ?_
  rintro D σ H ⟨φ, e, h, fl, e', h', re, rh, eq, k⟩
  obtain ⟨⟨b, h1⟩, q1, eq⟩ := Option.bind_eq_some_iff.mp eq
  refine ⟨φ, e, h, b, h1, re, rh, q1, fun φ1 H1 p1 k1 rh1 => ?_⟩
  dsimp only at eq
  cases b with
  | true =>
    rw [if_pos rfl] at eq ⊢
    exact ⟨φ1, e, h1, fl, e', h', re.mono p1 k1, rh1, eq, fun φ2 σ2 H2 p2 k2 => k φ2 σ2 H2 (p1.trans p2) (k1.trans k2)⟩
  | false =>
    rw [if_neg (by decide)] at eq ⊢
    exact ⟨φ1, e, h1, fl, e', h', re.mono p1 k1, rh1, eq, fun φ2 σ2 H2 p2 k2 => k φ2 σ2 H2 (p1.trans p2) (k1.trans k2)⟩
/-! assignments -/
def sAsg (a : ME) (t : Tg) : MS := fun e h => (a e h).bind fun r => (asg t r.1 e).map fun e' => (.nx, e', r.2)
theorem tS_asg {K : PySem.W.Frag} {t : Tg} {D : Ends} {σ : L2.St} {H : Hp} (q : tS K (sAsg me t) D σ H) : tAsg (tM K me) (tG K t) D σ H := by
  obtain ⟨φ, e, h, fl, e', h', re, rh, eq, k⟩ := q
  obtain ⟨⟨d, h1⟩, q1, eq⟩ := Option.bind_eq_some_iff.mp eq
  obtain ⟨e1, q2, eq⟩ := Option.map_eq_some_iff.mp eq
  cases eq
  exact ⟨φ, e, h, d, _, re, rh, q1, fun φ1 v1 H1 p1 k1 rh1 rv1 => ⟨φ1, e, _, d, re.mono p1 k1, rv1, q2, fun σ' r' _ => k φ1 σ' H1 p1 k1 rh1 r'⟩⟩
theorem ms_set (i : Nat) {x : Str} {a : Expr} {py : Pos} (hN : X.N.Nodup) (ha : PE X a (tM X.K me)) (hi : X.N[i]? = some x := by rfl) (hx : Loc X.env.scope x := by first | exact Or.inl rfl | exact Or.inr rfl) (hs : swapsWith a (some (.Name x py)) pos.line X.env = pure false := by rfl)
    (hf : X.fn x = true ∨ X.env.scope.names.lookup x = some .local := by first | exact .inl rfl | exact .inr rfl | assumption) : PS X (.Assign [.Name x py] a pos) (tS X.K (sAsg me (.nm i))) := by
  refine (ps_set (i := i) hN hi hx ha hs hf).conseq ?_
  rintro D σ H ⟨φ, e, h, fl, e', h', re, rh, eq, k⟩
  obtain ⟨⟨d, h1⟩, q1, eq⟩ := Option.bind_eq_some_iff.mp eq
  obtain ⟨e1, q2, eq⟩ := Option.map_eq_some_iff.mp eq
  cases eq
  simp only [asg] at q2
  split at q2
  · cases q2
    exact ⟨φ, e, h, d, _, re, rh, q1, fun φ1 v1 H1 p1 k1 rh1 rv1 => k φ1 _ H1 p1 k1 rh1 ((re.mono p1 k1).set rv1)⟩
  · cases q2
theorem ms_setL {i : Nat} {x : Str} {a : Expr} {py : Pos} (h : PS X (.Assign [.Name x py] a pos) (tAsg (tM X.K me) (gName i))) : PS X (.Assign [.Name x py] a pos) (tS X.K (sAsg me (.nm i))) := by
  refine h.conseq ?_
  rintro D σ H ⟨φ, e, h, fl, e', h', re, rh, eq, k⟩
  obtain ⟨⟨d, h1⟩, q1, eq⟩ := Option.bind_eq_some_iff.mp eq
  obtain ⟨e1, q2, eq⟩ := Option.map_eq_some_iff.mp eq
  cases eq
  simp only [asg] at q2
  split at q2
  · cases q2
    exact ⟨φ, e, h, d, _, re, rh, q1, fun φ1 v1 H1 p1 k1 rh1 rv1 => k φ1 _ H1 p1 k1 rh1 ((re.mono p1 k1).set rv1)⟩
  · cases q2
theorem ms_asg {a tg : Expr} {t : Tg} (ha : PE X a (tM X.K me)) (hg : PG X tg (tG X.K t)) (hs : swapsWithSole [tg] a pos.line X.env = pure false := by rfl) (hw : swappedStores [tg] a X.env = pure none := by rfl)
    (h1 : (assignEach [tg] X.env).map (·.2) = [assign tg X.env] := by rfl) : PS X (.Assign [tg] a pos) (tS X.K (sAsg me t)) :=
  (ps_asg ha hg hs hw h1).conseq fun _ _ _ q => tS_asg q
/-- a, b = x, y -/
def sPar (m : MA) (is : List Nat) : MS := fun e h => (m e h).bind fun r => if r.1.length ≤ sizeLine then (setAll is r.1 e).map fun e' => (.nx, e', r.2) else none
theorem ms_par (i j : Nat) {x y : Str} {a b : Expr} {px py pt : Pos} {kt k2 : Nat} {pt2 : Pos} (hc : X.calm = true) (hN : X.N.Nodup) (ha : PA X [a, b] (tA X.K m)) (hi : X.N[i]? = some x := by rfl) (hj : X.N[j]? = some y := by rfl) (hij : i ≠ j := by decide)
    (hx : X.env.scope.names.lookup x = some .local := by rfl) (hy : X.env.scope.names.lookup y = some .local := by rfl)
    (hw : swappedStores [.Tuple [.Name x px, .Name y py] kt pt] (.Tuple [a, b] k2 pt2) X.env = pure (some [x, y]) := by rfl)
    (hs : swapsWithSole [.Tuple [.Name x px, .Name y py] kt pt] (.Tuple [a, b] k2 pt2) pos.line X.env = pure false := by rfl) :
    PS X (.Assign [.Tuple [.Name x px, .Name y py] kt pt] (.Tuple [a, b] k2 pt2) pos) (tS X.K (sPar m [i, j])) := by
  refine (ps_par hc hN hi hj hij hx hy ha hw hs).conseq ?_
  rintro D σ H ⟨φ, e, h, fl, e', h', re, rh, eq, k⟩
  obtain ⟨⟨ds, h1⟩, q1, eq⟩ := Option.bind_eq_some_iff.mp eq
  dsimp only at eq
  split at eq
  · obtain ⟨e1, q2, eq⟩ := Option.map_eq_some_iff.mp eq
    cases eq
    refine ⟨φ, e, h, ds, _, re, rh, q1, fun φ1 vs H1 p1 k1 rh1 rv1 => ?_⟩
    match ds, q2, rv1 with
    | [d1, d2], q2, rv1 =>
      obtain ⟨v, w, rfl, r1, r2⟩ := rvs2 rv1
      simp only [setAll] at q2
      split at q2
      · split at q2
        · cases q2
          exact ⟨v, w, rfl, k φ1 _ H1 p1 k1 rh1 (((re.mono p1 k1).set r1).set r2)⟩
        · cases q2
      · cases q2
    | [], q2, _ => simp [setAll] at q2
    | [_], q2, _ => simp [setAll] at q2
    | _ :: _ :: _ :: _, q2, _ =>
      simp only [setAll] at q2
      split at q2
      · split at q2 <;> cases q2
      · cases q2
  · cases eq
/-- the same by a tuple -/
theorem ms_parT {es ts : List Expr} {pt pt2 : Pos} {kt k2 : Nat} {is : List Nat} (ha : PA X es (tA X.K m)) (hg : PG X (.Tuple ts kt pt) (tG X.K (.tup is))) (hs : swapsWithSole [.Tuple ts kt pt] (.Tuple es k2 pt2) pos.line X.env = pure false := by rfl) (hw : swappedStores [.Tuple ts kt pt] (.Tuple es k2 pt2) X.env = pure none := by rfl)
    (h1 : (assignEach [.Tuple ts kt pt] X.env).map (·.2) = [assign (.Tuple ts kt pt) X.env] := by rfl) : PS X (.Assign [.Tuple ts kt pt] (.Tuple es k2 pt2) pos) (tS X.K (sPar m is)) := by
  refine (ms_asg (me := mTup m) (t := .tup is) (me_tup ha) hg hs hw h1).conseq ?_
  rintro D σ H ⟨φ, e, h, fl, e', h', re, rh, eq, k⟩
  obtain ⟨⟨ds, h1⟩, q1, eq⟩ := Option.bind_eq_some_iff.mp eq
  dsimp only at eq
  split at eq
  · rename_i hz
    obtain ⟨e1, q2, eq⟩ := Option.map_eq_some_iff.mp eq
    cases eq
    refine ⟨φ, e, h, .nx, e', h', re, rh, ?_, k⟩
    unfold sAsg mTup
    rw [q1]
    simp only [Option.bind_some]
    rw [if_pos hz]
    simp only [Option.bind_some, asg]
    have : tupOf (mkT ds) = some ds := by
      unfold mkT
      split
      · rename_i xs ex
        rw [allP_ok ex]; rfl
      · rfl
    rw [this]
    simp [q2]
  · cases eq
/-- x op= e -/
def sAug (i : Nat) (g : G2) (a : ME) : MS := fun e h => match e[i]? with
  | some .und => none
  | some d => (a e h).bind fun r => (g d r.1 r.2).map fun s => (.nx, e.set i s.1, s.2)
  | none => none
theorem _root_.L2.PIp.imp {op : Operator} {r r' : TIp} (h : PIp X op r) (i : ∀ x y H Q, r' x y H Q → r x y H Q) : PIp X op r' := fun pins s σ H x y v u Q I rx ry q => h pins s σ H x y v u Q I rx ry (i x y H Q q)
theorem ms_aug (i : Nat) {x : Str} {a : Expr} {py : Pos} {op : Operator} {g : G2} (hN : X.N.Nodup) (ho : PIp X op (rM2 X.K g)) (ha : PE X a (tM X.K me)) (hi : X.N[i]? = some x := by rfl) (hx : Loc X.env.scope x := by first | exact Or.inl rfl | exact Or.inr rfl)
    (hf : X.fn x = true ∨ X.env.scope.names.lookup x = some .local := by first | exact .inl rfl | exact .inr rfl | assumption) : PS X (.AugAssign (.Name x py) op a pos) (tS X.K (sAug i g me)) := by
  refine (ps_aug (i := i) hN hi hx ha ho hf).conseq ?_
  rintro D σ H ⟨φ, e, h, fl, e', h', re, rh, eq, k⟩
  unfold sAug at eq
  split at eq
  · cases eq
  · rename_i d hne ed
    obtain ⟨⟨d1, h1⟩, q1, eq⟩ := Option.bind_eq_some_iff.mp eq
    obtain ⟨⟨d2, h2⟩, q2, eq⟩ := Option.map_eq_some_iff.mp eq
    cases eq
    rcases re.2 i d ed with z | ⟨v, hv, rv⟩
    · exact absurd z hne
    · exact ⟨v, hv, φ, e, h, d1, h1, re, rh, q1, fun φ1 v1 H1 p1 k1 rh1 rv1 => ⟨φ1, h1, d, d1, d2, _, rh1, rv.mono p1 k1, rv1, q2, fun φ2 v2 H2 p2 k2 rh2 rv2 => k φ2 _ H2 (p1.trans p2) (k1.trans k2) rh2 (((re.mono p1 k1).mono p2 k2).set rv2)⟩⟩
  · cases eq
theorem pip_of {op : Operator} {r : R2} (h : OpR X (inplaceOp op) r) : PIp X op r := h
theorem i_add : PIp X .Add (rM2 X.K (gI (fun _ _ => true) fun i j => .int (i + j))) := op_gI0 iop_add
theorem i_sub : PIp X .Sub (rM2 X.K gSub) := op_gI0 iop_sub
theorem i_mul : PIp X .Mult (rM2 X.K (gI cMul fun i j => .int (i * j))) := op_gI iop_mul fun _ _ h => cMul_ok h
theorem i_or : PIp X .BitOr (rM2 X.K gOr) := op_gI0 iop_or
/-- o[i] = e -/
abbrev G3 := Mv → Mv → Mv → Hq → Option Hq
def rM3 (K : PySem.W.Frag) (g : G3) : TSet := fun o i v H Q => ∃ φ h dO dI dV h', RH K φ h H ∧ RV K φ H dO o ∧ RV K φ H dI i ∧ RV K φ H dV v ∧ g dO dI dV h = some h' ∧ ∀ φ' H', φ <+: φ' → HK H H' → RH K φ' h' H' → Q H'
theorem set_dict (hu : X.A.units + 1 < cLine) : PSet X (fun o i v H Q => ∃ a H', o = .ref a ∧ DPut H a i v H' ∧ Q H') := by
  intro pins s σ H o i v ov iv u Q I ro ri rv h
  obtain ⟨a, H', rfl, g, q⟩ := h
  cases ro
  exact d_setItem hu I g ri rv fun s' I' => ⟨H', I', q⟩
theorem _root_.L2.PSet.or {r r' : TSet} (h : PSet X r) (h' : PSet X r') : PSet X (fun o i v H Q => r o i v H Q ∨ r' o i v H Q) := by
  intro pins s σ H o i v ov iv u Q I ro ri rv q
  rcases q with q | q
  · exact h pins s σ H o i v ov iv u Q I ro ri rv q
  · exact h' pins s σ H o i v ov iv u Q I ro ri rv q
theorem _root_.L2.PSet.imp {r r' : TSet} (h : PSet X r) (im : ∀ o i v H Q, r' o i v H Q → r o i v H Q) : PSet X r' := fun pins s σ H o i v ov iv u Q I ro ri rv q => h pins s σ H o i v ov iv u Q I ro ri rv (im o i v H Q q)
/-- a dict with one more pair -/
def putD (kvs : List (Pd × Mv)) (k : Pd) (d : Mv) : List (Pd × Mv) := if kvs.any (fun kv => keyEq kv.1 k) = true then kvs.map fun kv => if keyEq kv.1 k = true then (kv.1, d) else kv else kvs ++ [(k, d)]
theorem putD_rk {K : PySem.W.Frag} {φ : List Addr} {H : Hp} {κ : Type} [DecidableEq κ] {f : Pd → Option κ} {k : Pd} {q : κ} {d : Mv} {v : V} (ek : f k = some q) (rv : RV K φ H d v) {kvs : List (Pd × Mv)} {ks : List (κ × V)} (r : RKv K φ H f kvs ks)
    (c : ∀ p ∈ kvs, ∀ r, f p.1 = some r → (keyEq p.1 k = true ↔ r = q)) : RKv K φ H f (putD kvs k d) (putK ks q v) := by
  have hany : ∀ {kvs : List (Pd × Mv)} {ks : List (κ × V)}, RKv K φ H f kvs ks → (∀ p ∈ kvs, ∀ r, f p.1 = some r → (keyEq p.1 k = true ↔ r = q)) → kvs.any (fun kv => keyEq kv.1 k) = ks.any fun kv => decide (kv.1 = q) := by
    intro kvs ks r
    induction r with
    | nil => intro _; rfl
    | cons e rv t ih =>
      intro c
      rw [List.any_cons, List.any_cons, ih fun p hp => c p (List.mem_cons_of_mem _ hp)]
      have := c _ List.mem_cons_self _ e
      congr 1
      rw [Bool.eq_iff_iff, decide_eq_true_iff]
      exact this
  have hmap : ∀ {kvs : List (Pd × Mv)} {ks : List (κ × V)}, RKv K φ H f kvs ks → (∀ p ∈ kvs, ∀ r, f p.1 = some r → (keyEq p.1 k = true ↔ r = q)) → RKv K φ H f (kvs.map fun kv => if keyEq kv.1 k = true then (kv.1, d) else kv) (ks.map fun kv => if kv.1 = q then (kv.1, v) else kv) := by
    intro kvs ks r
    induction r with
    | nil => intro _; exact .nil
    | @cons k' d' r' q' v' s' e rv' t ih =>
      intro c
      have c0 := c _ List.mem_cons_self _ e
      rw [List.map_cons, List.map_cons]
      have tl := ih fun p hp => c p (List.mem_cons_of_mem _ hp)
      by_cases z : keyEq k' k = true
      · rw [if_pos z, if_pos (c0.mp z)]
        exact .cons e rv tl
      · rw [if_neg z, if_neg (fun w => z (c0.mpr w))]
        exact .cons e rv' tl
  have happ : ∀ {kvs : List (Pd × Mv)} {ks : List (κ × V)}, RKv K φ H f kvs ks → RKv K φ H f (kvs ++ [(k, d)]) (ks ++ [(q, v)]) := by
    intro kvs ks r
    induction r with
    | nil => exact .cons ek rv .nil
    | cons e rv' t ih => exact .cons e rv' ih
  unfold putD putK
  rw [hany r c]
  split
  · exact hmap r c
  · exact happ r
theorem rk_len {K : PySem.W.Frag} {φ : List Addr} {H : Hp} {κ : Type} {f : Pd → Option κ} {kvs : List (Pd × Mv)} {ks : List (κ × V)} (r : RKv K φ H f kvs ks) : kvs.length = ks.length := by
  induction r with
  | nil => rfl
  | cons _ _ _ ih => simp [ih]
def gSet : G3 := fun o i v h => match o with
  | .loc n => match h[n]? with
    | some (.lst xs) => match i with
      | .p (.int j) => (ixN xs.length j).map fun q => h.set n (.lst (xs.set q v))
      | _ => none
    | some (.dct t kvs) => match i with
      | .p k => if fitK t k = true ∧ kvs.length < sizeLine then some (h.set n (.dct t (putD kvs k v))) else none
      | _ => none
    | _ => none
  | _ => none
theorem s_set (hu : X.A.units + 1 < cLine) : PSet X (rM3 X.K gSet) := by
  refine (set_list.or (set_dict hu)).imp ?_
  rintro o i v H Q ⟨φ, h, dO, dI, dV, h', rh, ro, ri, rv, eq, k⟩
  unfold gSet at eq
  split at eq
  · rename_i n
    split at eq
    · rename_i xs ex
      split at eq
      · obtain ⟨q, e1, eq⟩ := Option.map_eq_some_iff.mp eq
        cases eq
        obtain ⟨a, zs, rfl, ea, ha, r⟩ := loc_lst rh ro ex
        refine .inl ⟨a, zs, _, q, rfl, ri.int_inv, ha, by rw [← r.length]; exact e1, ?_⟩
        have kp := HK.put (o := .lst (zs.set q v)) ha notImm_lst
        exact k φ _ (List.prefix_refl φ) kp (rh.write ea ha notImm_lst ⟨_, upd_same, (r.set q rv).mono (List.prefix_refl φ) kp⟩)
      · cases eq
    · rename_i t kvs ex
      split at eq
      · rename_i kk
        split at eq
        · rename_i hz
          cases eq
          obtain ⟨a, rfl, ea⟩ := ro.loc_inv
          obtain ⟨b, eb, rob⟩ := rh.ob n _ ex
          rw [ea] at eb; cases eb
          have fk := hz.1
          unfold fitK at fk
          cases t with
          | false =>
            obtain ⟨q, eq⟩ := Option.isSome_iff_exists.mp (by simpa using fk)
            obtain ⟨ks, hk, r⟩ := rob
            have kp := HK.put (o := .dK (putK ks q v)) hk (fun z => z)
            refine .inr ⟨a, upd H a (.dK (putK ks q v)), rfl, ?_, k φ _ (List.prefix_refl φ) kp (rh.write ea hk (fun z => z) ⟨_, upd_same, (putD_rk eq rv r (fun p hp r er => keyEq_k eq er)).mono (List.prefix_refl φ) kp⟩)⟩
            rw [kOf_v eq ri.p_inv]
            exact DPut.k hk (by rw [← rk_len r]; exact hz.2)
          | true =>
            obtain ⟨q, eq⟩ := Option.isSome_iff_exists.mp (by simpa using fk)
            obtain ⟨ks, hk, r⟩ := rob
            obtain ⟨b, rfl, hb⟩ := kTup_v eq ri.p_inv
            have kp := HK.put (o := .dT (putK ks q v)) hk (fun z => z)
            refine .inr ⟨a, upd H a (.dT (putK ks q v)), rfl, ?_, k φ _ (List.prefix_refl φ) kp (rh.write ea hk (fun z => z) ⟨_, upd_same, (putD_rk eq rv r (fun p hp r er => keyEq_t eq er)).mono (List.prefix_refl φ) kp⟩)⟩
            exact DPut.t hk hb (by rw [← rk_len r]; exact hz.2)
        · cases eq
      · cases eq
    · cases eq
  · cases eq
def sSub (o i a : ME) : MS := fun e h => (a e h).bind fun v => (o e v.2).bind fun q => (i e q.2).bind fun r => (gSet q.1 r.1 v.1 r.2).map fun h' => (.nx, e, h')
theorem ms_sub {o i a : Expr} {tp : Pos} (hu : X.A.units + 1 < cLine) (ho : PE X o (tM X.K mo)) (hi : PE X i (tM X.K mi)) (ha : PE X a (tM X.K me))
    (hh : ∀ v, assign (.Subscript o i tp) X.env v = (do
      let ov ← holding [v] (eval o X.env)
      let iv ← holding [v, ov] (eval i X.env)
      standAt tp
      holding [v, ov, iv] (setItem ov iv v)
      release [v, ov, iv] []) := by intro _; rfl)
    (hs : swapsWithSole [.Subscript o i tp] a pos.line X.env = pure false := by rfl) (hw : swappedStores [.Subscript o i tp] a X.env = pure none := by rfl) (h1 : (assignEach [.Subscript o i tp] X.env).map (·.2) = [assign (.Subscript o i tp) X.env] := by rfl) :
    PS X (.Assign [.Subscript o i tp] a pos) (tS X.K (sSub mo mi me)) := by
  refine (ps_asg ha (pg_sub ho hi (s_set hu) hh) hs hw h1).conseq ?_
  rintro D σ H ⟨φ, e, h, fl, e', h', re, rh, eq, k⟩
  obtain ⟨⟨d1, h1⟩, q1, eq⟩ := Option.bind_eq_some_iff.mp eq
  obtain ⟨⟨d2, h2⟩, q2, eq⟩ := Option.bind_eq_some_iff.mp eq
  obtain ⟨⟨d3, h3⟩, q3, eq⟩ := Option.bind_eq_some_iff.mp eq
  obtain ⟨h4, q4, eq⟩ := Option.map_eq_some_iff.mp eq
  cases eq
  exact ⟨φ, e, h, d1, h1, re, rh, q1, fun φ1 v1 H1 p1 k1 rh1 rv1 => ⟨φ1, e, h1, d2, h2, re.mono p1 k1, rh1, q2, fun φ2 v2 H2 p2 k2 rh2 rv2 => ⟨φ2, e, h2, d3, h3, (re.mono p1 k1).mono p2 k2, rh2, q3, fun φ3 v3 H3 p3 k3 rh3 rv3 =>
    ⟨φ3, h3, d2, d3, d1, _, rh3, rv2.mono p3 k3, rv3, (rv1.mono p2 k2).mono p3 k3, q4, fun φ4 H4 p4 k4 rh4 => k φ4 σ H4 (p1.trans (p2.trans (p3.trans p4))) (k1.trans (k2.trans (k3.trans k4))) rh4 (((re.mono p1 k1).mono p2 k2).mono (p3.trans p4) (k3.trans k4))⟩⟩⟩⟩
end
end MX
set_option Elab.async false
set_option linter.all false
set_option maxRecDepth 100000
set_option maxHeartbeats 1000000
set_option autoImplicit false
namespace MX
open PySem PySem.Spec L2
/-! ### loops -/
def forN (nx : Nxt) (t : Tg) (b : MS) : Nat → Nat → En → Hq → Option (Fl × En × Hq)
  | 0, i, e, h => match nx i h with
    | some none => some (.nx, e, h)
    | _ => none
  | m + 1, i, e, h => match nx i h with
    | some none => some (.nx, e, h)
    | some (some d) => (asg t d e).bind fun e1 => (b e1 h).bind fun r => match r.1 with
      | .nx => forN nx t b m (i + 1) r.2.1 r.2.2
      | .cnt => forN nx t b m (i + 1) r.2.1 r.2.2
      | .brk => some (.nx, r.2.1, r.2.2)
      | .ret d => some (.ret d, r.2.1, r.2.2)
    | none => none
def sFor (s : Src) (t : Tg) (b : MS) : MS := fun e h => (s e h).bind fun r => forN r.1.2 t b r.1.1 0 e r.2
section
variable {X : Cx} {pos : Pos} {mb : MS}
theorem tS_for {K : PySem.W.Frag} {s : Src} {t : Tg} {b : MS} {D : Ends} {σ : L2.St} {H : Hp} (q : tS K (sFor s t b) D σ H) : tFor (tI K s) (tG K t) (tS K b) D σ H := by
  obtain ⟨φ, e, h, fl, e', h', re, rh, eq, k⟩ := q
  obtain ⟨⟨⟨n, nx⟩, h1⟩, e1, eq⟩ := Option.bind_eq_some_iff.mp eq
  refine ⟨φ, e, h, n, nx, h1, re, rh, e1, fun φ1 H1 J p1 k1 rh1 ir => ?_⟩
  refine ⟨fun i m σ2 H2 => ∃ φ2 e2 h2, φ1 <+: φ2 ∧ HK H1 H2 ∧ RH K φ2 h2 H2 ∧ RE K φ2 H2 e2 σ2 ∧ forN nx t b m i e2 h2 = some (fl, e', h'), ⟨n, φ1, e, h1, List.prefix_refl _, HK.refl _, rh1, re.mono p1 k1, eq⟩, ?_⟩
  rintro i m σ2 H2 ⟨φ2, e2, h2, p2, k2, rh2, re2, el⟩
  have ir2 := ir i φ2 h2 H2 p2 k2 rh2
  cases en : nx i h2 with
  | none => cases m <;> simp [forN, en] at el
  | some o =>
    cases o with
    | none =>
      have : Fl.nx = fl ∧ e2 = e' ∧ h2 = h' := by
        cases m with
        | zero => simp only [forN, en] at el; cases el; exact ⟨rfl, rfl, rfl⟩
        | succ m => simp only [forN, en] at el; cases el; exact ⟨rfl, rfl, rfl⟩
      obtain ⟨rfl, rfl, rfl⟩ := this
      exact .inl ⟨ir2.1 en, k φ2 σ2 H2 (p1.trans p2) (k1.trans k2) rh2 re2⟩
    | some d =>
      cases m with
      | zero => simp [forN, en] at el
      | succ m =>
        simp only [forN, en] at el
        obtain ⟨e3, ea, el⟩ := Option.bind_eq_some_iff.mp el
        obtain ⟨⟨f4, e4, h4⟩, eb, el⟩ := Option.bind_eq_some_iff.mp el
        obtain ⟨go, gy⟩ := ir2.2 d en
        refine .inr ⟨go, fun σ5 H5 => ∃ φ5 e5 h5, φ1 <+: φ5 ∧ HK H1 H5 ∧ RH K φ5 h5 H5 ∧ RE K φ5 H5 e5 σ5 ∧ forN nx t b m (i + 1) e5 h5 = some (fl, e', h'), fun σ5 H5 h => ⟨m, Nat.lt_succ_self m, h⟩, fun x H3 y => ?_⟩
        obtain ⟨k3, rh3, rv⟩ := gy x H3 y
        refine ⟨φ2, e2, e3, d, re2.mono (List.prefix_refl φ2) k3, rv, ea, fun σ3 re3 _ => ⟨φ2, e3, h2, f4, e4, h4, re3, rh3, eb, fun φ4 σ4 H4 p4 k4 rh4 => ?_⟩⟩
        dsimp only at el
        cases f4 with
        | nx => exact fun re4 => ⟨φ4, e4, h4, p2.trans p4, k2.trans (k3.trans k4), rh4, re4, el⟩
        | cnt => exact fun re4 => ⟨φ4, e4, h4, p2.trans p4, k2.trans (k3.trans k4), rh4, re4, el⟩
        | brk =>
          intro re4
          cases el
          exact k φ4 σ4 H4 (p1.trans (p2.trans p4)) (k1.trans (k2.trans (k3.trans k4))) rh4 re4
        | ret d =>
          cases el
          exact k φ4 σ4 H4 (p1.trans (p2.trans p4)) (k1.trans (k2.trans (k3.trans k4))) rh4
theorem ms_for {tg iter : Expr} {body : List Stmt} {s : Src} {t : Tg} (hp : PassesOwn (model X.prog X.w) X.A X.env X.xe) (hc : X.calm = true) (hi : PI X tg iter (tI X.K s)) (hg : PG X tg (tG X.K t)) (hb : PSs X body (tS X.K mb)) (hs : ∀ x, foldedSetIterable iter X.env x = pure x := by intro _; rfl) :
    PS X (.For tg iter body [] pos) (tS X.K (sFor s t mb)) := (ps_for hp hc hi hg hb hs).conseq fun _ _ _ q => tS_for q
def whN (c : MT) (b : MS) : Nat → En → Hq → Option (Fl × En × Hq)
  | 0, _, _ => none
  | m + 1, e, h => (c e h).bind fun t => if t.1 = true then (b e t.2).bind fun r => match r.1 with
      | .nx => whN c b m r.2.1 r.2.2
      | .cnt => whN c b m r.2.1 r.2.2
      | .brk => some (.nx, r.2.1, r.2.2)
      | .ret d => some (.ret d, r.2.1, r.2.2)
    else some (.nx, e, t.2)
/-- a while: some number of turns is enough -/
noncomputable def sWh (c : MT) (b : MS) : MS := fun e h => open Classical in if q : ∃ n r, whN c b n e h = some r then some q.choose_spec.choose else none
theorem sWh_some {c : MT} {b : MS} {e : En} {h : Hq} {r : Fl × En × Hq} (q : sWh c b e h = some r) : ∃ n, whN c b n e h = some r := by
  unfold sWh at q
  split at q
  · rename_i z
    cases q
    exact ⟨_, z.choose_spec.choose_spec⟩
  · cases q
theorem whN_mono {c : MT} {b : MS} : ∀ {n m : Nat} {e : En} {h : Hq} {r : Fl × En × Hq}, whN c b n e h = some r → n ≤ m → whN c b m e h = some r
  | 0, _, _, _, _, q, _ => by cases q
  | n + 1, 0, _, _, _, _, l => absurd l (by omega)
  | n + 1, m + 1, e, h, r, q, l => by
    unfold whN at q ⊢
    obtain ⟨t, e1, q⟩ := Option.bind_eq_some_iff.mp q
    refine Option.bind_eq_some_iff.mpr ⟨t, e1, ?_⟩
    split at q
    · rename_i ht
      rw [if_pos ht]
      obtain ⟨s, e2, q⟩ := Option.bind_eq_some_iff.mp q
      refine Option.bind_eq_some_iff.mpr ⟨s, e2, ?_⟩
      split at q
      · exact whN_mono q (by omega)
      · exact whN_mono q (by omega)
      · exact q
      · exact q
    · rename_i ht
      rw [if_neg ht]
      exact q
theorem sWh_of {c : MT} {b : MS} {n : Nat} {e : En} {h : Hq} {r : Fl × En × Hq} (q : whN c b n e h = some r) : sWh c b e h = some r := by
  have z : ∃ n r, whN c b n e h = some r := ⟨n, r, q⟩
  have : sWh c b e h = some z.choose_spec.choose := by unfold sWh; rw [dif_pos z]
  rw [this]
  have h1 := whN_mono z.choose_spec.choose_spec (Nat.le_max_left z.choose n)
  have h2 := whN_mono q (Nat.le_max_right z.choose n)
  rw [h1] at h2
  exact h2
theorem ms_while {c : Expr} {body : List Stmt} {t : MT} (hp : PassesOwn (model X.prog X.w) X.A X.env X.xe) (hc : PT X c (tT X.K t)) (hb : PSs X body (tS X.K mb)) : PS X (.While c body [] pos) (tS X.K (sWh t mb)) := by
  refine (ps_while hp hc hb).conseq ?_
  rintro D σ H ⟨φ, e, h, fl, e', h', re, rh, eq, k⟩
  obtain ⟨n, eq⟩ := sWh_some eq
  refine ⟨fun m σ2 H2 => ∃ φ2 e2 h2, φ <+: φ2 ∧ HK H H2 ∧ RH X.K φ2 h2 H2 ∧ RE X.K φ2 H2 e2 σ2 ∧ whN t mb m e2 h2 = some (fl, e', h'), ⟨n, φ, e, h, List.prefix_refl _, HK.refl _, rh, re, eq⟩, ?_⟩
  rintro m σ2 H2 ⟨φ2, e2, h2, p2, k2, rh2, re2, el⟩
  cases m with
  | zero => cases el
  | succ m =>
    unfold whN at el
    obtain ⟨⟨tb, h3⟩, e3, el⟩ := Option.bind_eq_some_iff.mp el
    refine ⟨φ2, e2, h2, tb, h3, re2, rh2, e3, fun φ3 H3 p3 k3 rh3 => ?_⟩
    dsimp only at el
    cases tb with
    | false =>
      rw [if_neg (by decide)] at el ⊢
      cases el
      exact k φ3 σ2 H3 (p2.trans p3) (k2.trans k3) rh3 (re2.mono p3 k3)
    | true =>
      rw [if_pos rfl] at el ⊢
      obtain ⟨⟨f4, e4, h4⟩, eb, el⟩ := Option.bind_eq_some_iff.mp el
      refine ⟨fun σ5 H5 => ∃ φ5 e5 h5, φ <+: φ5 ∧ HK H H5 ∧ RH X.K φ5 h5 H5 ∧ RE X.K φ5 H5 e5 σ5 ∧ whN t mb m e5 h5 = some (fl, e', h'), fun σ5 H5 h => ⟨m, Nat.lt_succ_self m, h⟩, ?_⟩
      refine ⟨φ3, e2, h3, f4, e4, h4, re2.mono p3 k3, rh3, eb, fun φ4 σ4 H4 p4 k4 rh4 => ?_⟩
      dsimp only at el
      cases f4 with
      | nx => exact fun re4 => ⟨φ4, e4, h4, p2.trans (p3.trans p4), k2.trans (k3.trans k4), rh4, re4, el⟩
      | cnt => exact fun re4 => ⟨φ4, e4, h4, p2.trans (p3.trans p4), k2.trans (k3.trans k4), rh4, re4, el⟩
      | brk =>
        intro re4
        cases el
        exact k φ4 σ4 H4 (p2.trans (p3.trans p4)) (k2.trans (k3.trans k4)) rh4 re4
      | ret d =>
        cases el
        exact k φ4 σ4 H4 (p2.trans (p3.trans p4)) (k2.trans (k3.trans k4)) rh4
end
/-! ### what a def hands back: what it made and left is forgotten -/
mutual
def mvB (k : Nat) : Mv → Bool
  | .loc n => decide (n < k)
  | .tl ds => mvsB k ds
  | _ => true
def mvsB (k : Nat) : List Mv → Bool
  | [] => true
  | d :: ds => mvB k d && mvsB k ds
end
def moB (k : Nat) : Mo → Bool
  | .lst ds => mvsB k ds
  | .dct _ kvs => kvs.all fun kv => mvB k kv.2
  | .ins _ fs => fs.all fun o => match o with
    | none => true
    | some d => mvB k d
section
variable {K : PySem.W.Frag} {φ φ' : List Addr} {H : Hp} {h h' : Hq}
mutual
theorem mvB_of : ∀ {d : Mv} {v : V}, RV K φ H d v → mvB φ.length d = true
  | _, _, .p _ => by simp [mvB]
  | _, _, .loc e => by
    simp only [mvB, decide_eq_true_iff]
    exact (List.getElem?_eq_some_iff.mp e).1
  | _, _, .tl _ r => by simp only [mvB]; exact mvsB_of r
  | _, _, .fl _ => by simp [mvB]
  | _, _, .ct _ => by simp [mvB]
theorem mvsB_of : ∀ {ds : List Mv} {vs : List V}, RVs K φ H ds vs → mvsB φ.length ds = true
  | _, _, .nil => by simp [mvsB]
  | _, _, .cons r s => by simp only [mvsB, mvB_of r, mvsB_of s, Bool.and_self]
end
theorem rkB_of {κ : Type} {f : Pd → Option κ} {kvs : List (Pd × Mv)} {ks : List (κ × V)} (r : RKv K φ H f kvs ks) : (kvs.all fun kv => mvB φ.length kv.2) = true := by
  induction r with
  | nil => rfl
  | cons _ rv _ ih => rw [List.all_cons, ih, mvB_of rv]; rfl
theorem rfB_of {fs : List (Option Mv)} {vs : List (Option V)} (r : RFs K φ H fs vs) : (fs.all fun o => match o with
    | none => true
    | some d => mvB φ.length d) = true := by
  induction r with
  | nil => rfl
  | skip _ ih => rw [List.all_cons, ih]; rfl
  | cons rv _ ih =>
    rw [List.all_cons, ih]
    show (mvB φ.length _ && true) = true
    rw [mvB_of rv]; rfl
theorem moB_of {a : Addr} : ∀ {o : Mo}, RO K φ H a o → moB φ.length o = true
  | .lst _, ⟨_, _, r⟩ => mvsB_of r
  | .dct false _, ⟨_, _, r⟩ => rkB_of r
  | .dct true _, ⟨_, _, r⟩ => rkB_of r
  | .ins _ _, ⟨_, _, _, r⟩ => rfB_of r
mutual
theorem RV.cutφ (q : φ <+: φ') : ∀ {d : Mv} {v : V}, RV K φ' H d v → mvB φ.length d = true → RV K φ H d v
  | _, _, .p r, _ => .p r
  | _, _, .loc e, b => by
    simp only [mvB, decide_eq_true_iff] at b
    obtain ⟨t, rfl⟩ := q
    rw [List.getElem?_append_left b] at e
    exact .loc e
  | _, _, .tl s r, b => .tl s (RVs.cutφ q r (by simpa [mvB] using b))
  | _, _, .fl s, _ => .fl s
  | _, _, .ct s, _ => .ct s
theorem RVs.cutφ (q : φ <+: φ') : ∀ {ds : List Mv} {vs : List V}, RVs K φ' H ds vs → mvsB φ.length ds = true → RVs K φ H ds vs
  | _, _, .nil, _ => .nil
  | _, _, .cons r s, b => by
    simp only [mvsB, Bool.and_eq_true] at b
    exact .cons (RV.cutφ q r b.1) (RVs.cutφ q s b.2)
end
theorem RKv.cutφ (q : φ <+: φ') {κ : Type} {f : Pd → Option κ} {kvs : List (Pd × Mv)} {ks : List (κ × V)} (r : RKv K φ' H f kvs ks) (b : (kvs.all fun kv => mvB φ.length kv.2) = true) : RKv K φ H f kvs ks := by
  induction r with
  | nil => exact .nil
  | cons e rv _ ih =>
    rw [List.all_cons, Bool.and_eq_true] at b
    exact .cons e (rv.cutφ q b.1) (ih b.2)
theorem RFs.cutφ (q : φ <+: φ') {fs : List (Option Mv)} {vs : List (Option V)} (r : RFs K φ' H fs vs) (b : (fs.all fun o => match o with
    | none => true
    | some d => mvB φ.length d) = true) : RFs K φ H fs vs := by
  induction r with
  | nil => exact .nil
  | skip _ ih =>
    rw [List.all_cons, Bool.and_eq_true] at b
    exact .skip (ih b.2)
  | cons rv _ ih =>
    rw [List.all_cons, Bool.and_eq_true] at b
    exact .cons (rv.cutφ q b.1) (ih b.2)
theorem RO.cutφ (q : φ <+: φ') {a : Addr} : ∀ {o : Mo}, RO K φ' H a o → moB φ.length o = true → RO K φ H a o
  | .lst _, ⟨vs, e, r⟩, b => ⟨vs, e, r.cutφ q b⟩
  | .dct false _, ⟨vs, e, r⟩, b => ⟨vs, e, r.cutφ q b⟩
  | .dct true _, ⟨vs, e, r⟩, b => ⟨vs, e, r.cutφ q b⟩
  | .ins _ _, ⟨dx, vs, e, r⟩, b => ⟨dx, vs, e, r.cutφ q b⟩
end
/-- what stood stands, or speaks of what stood -/
def OldOk (h h' : Hq) : Prop := ∀ (i : Nat) (o : Mo), i < h.length → h'[i]? = some o → h[i]? = some o ∨ moB h.length o = true
noncomputable def gc (h : Hq) (d : Mv) (h' : Hq) : Mv × Hq := open Classical in
  if OldOk h h' then match d with
    | .loc n => if n < h.length then (d, h'.take h.length) else match h'[n]? with
      | some o => if moB h.length o = true then (.loc h.length, h'.take h.length ++ [o]) else (d, h')
      | none => (d, h')
    | .tl ds => if mvsB h.length ds = true then (d, h'.take h.length) else (d, h')
    | _ => (d, h'.take h.length)
  else (d, h')
section
variable {K : PySem.W.Frag} {φ φ' : List Addr} {H H' : Hp} {h h' : Hq}
theorem pre_take (q : φ <+: φ') : φ'.take φ.length = φ := by
  obtain ⟨t, rfl⟩ := q
  simp
theorem RH.cut (r0 : RH K φ h H) (r : RH K φ' h' H') (q : φ <+: φ') (ok : OldOk h h') : RH K φ (h'.take h.length) H' := by
  have hl : φ.length ≤ φ'.length := q.length_le
  have l1 := r0.len
  have l2 := r.len
  refine ⟨r.tb, by rw [List.length_take]; omega, r0.nd, fun n o e => ?_⟩
  have hn : n < h.length := by
    by_cases z : n < h.length
    · exact z
    · rw [List.getElem?_take, if_neg z] at e
      cases e
  rw [List.getElem?_take, if_pos hn] at e
  obtain ⟨a, ea, ro⟩ := r.ob n o e
  have ea' : φ[n]? = some a := by
    obtain ⟨t, rfl⟩ := q
    rw [List.getElem?_append_left (by omega)] at ea
    exact ea
  refine ⟨a, ea', ro.cutφ q ?_⟩
  rcases ok n o hn e with z | z
  · obtain ⟨b, eb, rb⟩ := r0.ob n o z
    exact moB_of rb
  · rw [l1]; exact z
theorem gc_ok (r0 : RH K φ h H) (r : RH K φ' h' H') (q : φ <+: φ') {d : Mv} {v : V} (rv : RV K φ' H' d v) : ∃ φ'', φ <+: φ'' ∧ RH K φ'' (gc h d h').2 H' ∧ RV K φ'' H' (gc h d h').1 v := by
  unfold gc
  split
  · rename_i ok
    have rc := r0.cut r q ok
    have same : ∀ {x : Mv}, RV K φ' H' x v → mvB h.length x = true → ∃ φ'', φ <+: φ'' ∧ RH K φ'' (h'.take h.length) H' ∧ RV K φ'' H' x v := fun {x} rx b => ⟨φ, List.prefix_refl φ, rc, rx.cutφ q (by rw [r0.len]; exact b)⟩
    split
    · rename_i n
      split
      · rename_i hn
        exact same rv (by simp [mvB, hn])
      · split
        · rename_i o eo
          split
          · rename_i hb
            obtain ⟨a, rfl, ea⟩ := rv.loc_inv
            obtain ⟨b, eb, ro⟩ := r.ob n o eo
            rw [ea] at eb; cases eb
            have ro' : RO K φ H' a o := ro.cutφ q (by rw [r0.len]; exact hb)
            have na : a ∉ φ := fun hm => by
              obtain ⟨j, hj⟩ := List.getElem?_of_mem hm
              have hj' := pre_get q hj
              obtain ⟨h1, e1⟩ := List.getElem?_eq_some_iff.mp hj'
              obtain ⟨h2, e2⟩ := List.getElem?_eq_some_iff.mp ea
              have := (List.getElem_inj r.nd).mp (e1.trans e2.symm)
              have hjl : j < φ.length := (List.getElem?_eq_some_iff.mp hj).1
              rw [r0.len] at hjl
              omega
            refine ⟨φ ++ [a], List.prefix_append _ _, ⟨rc.tb, by rw [List.length_append, List.length_append, rc.len]; rfl, ?_, fun m u em => ?_⟩, ?_⟩
            · refine List.nodup_append.mpr ⟨r0.nd, by simp, fun x hx y hy => ?_⟩
              have : y = a := by simpa using hy
              subst this
              exact fun z => na (z ▸ hx)
            · have hlen : (h'.take h.length).length = φ.length := rc.len.symm
              by_cases hm : m < φ.length
              · rw [List.getElem?_append_left (by omega)] at em
                obtain ⟨b, eb, rb⟩ := rc.ob m u em
                exact ⟨b, pre_get (List.prefix_append _ _) eb, rb.mono (List.prefix_append _ _) (HK.refl _) rfl⟩
              · have hm' : m = φ.length := by
                  have := (List.getElem?_eq_some_iff.mp em).1
                  rw [List.length_append, hlen] at this
                  simp at this
                  omega
                subst hm'
                rw [List.getElem?_append_right (by omega), hlen] at em
                simp at em
                subst em
                exact ⟨a, by rw [List.getElem?_append_right (Nat.le_refl _)]; simp, ro'.mono (List.prefix_append _ _) (HK.refl _) rfl⟩
            · refine .loc ?_
              rw [← r0.len, List.getElem?_append_right (Nat.le_refl _)]
              simp
          · exact ⟨φ', q, r, rv⟩
        · exact ⟨φ', q, r, rv⟩
    · rename_i ds
      split
      · rename_i hb
        exact same rv (by simpa [mvB] using hb)
      · exact ⟨φ', q, r, rv⟩
    · rename_i n1 n2
      refine same rv ?_
      cases d with
      | loc n => exact absurd rfl (n1 n)
      | tl ds => exact absurd rfl (n2 ds)
      | _ => simp [mvB]
  · exact ⟨φ', q, r, rv⟩
end
/-- a def: its slots, its parameters, its body -/
noncomputable def runF (N np : Nat) (b : MS) : GA := fun ds h => if ds.length = np then match b (ds ++ List.replicate (N - np) .und) h with
    | some (.ret d, _, h') => some (gc h d h')
    | some (.nx, _, h') => some (gc h (.p .none) h')
    | _ => none
  else none
def FLen (F : GA) (np : Nat) : Prop := ∀ ds h r, F ds h = some r → ds.length = np
theorem runF_len (N np : Nat) (b : MS) : FLen (runF N np b) np := fun ds h r e => by
  unfold runF at e
  split at e
  · assumption
  · cases e
def spF (K : PySem.W.Frag) (F : GA) : Sp := fun vs H Q _ => rMA K F vs H Q
theorem re_start {K : PySem.W.Frag} {φ : List Addr} {H : Hp} {N : List Str} {ds : List Mv} {vs : List V} (r : RVs K φ H ds vs) : RE K φ H (ds ++ List.replicate (N.length - ds.length) .und) (L2.start N vs) := by
  have hl := r.length
  refine ⟨by simp [L2.start, hl], fun i d e => ?_⟩
  unfold L2.start
  by_cases hi : i < ds.length
  · rw [List.getElem?_append_left hi] at e
    obtain ⟨v, ev, rv⟩ := r.get e
    refine .inr ⟨v, ?_, rv⟩
    rw [List.getElem?_append_left (by simp; omega), List.getElem?_map, ev]
    rfl
  · rw [List.getElem?_append_right (by omega)] at e
    exact .inl (List.eq_of_mem_replicate (List.mem_of_getElem? e))
theorem fn_def {P : Program} {w : World} {K : PySem.W.Frag} {mg : Str → Option Value} {base : Heap} {x qual : Str} {params : Arguments} {body : List Stmt} {scope : Scope} {f : Addr} {fd : FuncData} {N ps : List Str} {k : Nat} {b : MS}
    (F : FunD K x qual params body scope [] [] f fd) (S : FnScope N ps scope)
    (hb : ∀ (cdv : Value) (A : Around) (outer : List Env) (s : Shared) (H : Hp) (E : XK), Room k (A.deeper (PyProof.Rows.envOfC qual scope s.heap.objs.size f cdv)) → PSs (cxOf CX0 P w K mg base N qual scope f cdv A outer s H E).nox body (tS K b)) :
    FnOk P w K mg base CX0 (k + 1) f fd ps (spF K (runF N.length ps.length b)) := by
  refine F.ok S (fun vs H Q E h => ?_) (fun cdv A outer s H vs Q E hr h => ⟨tS K b, PSs.nox (hb cdv A outer s H E hr), ?_⟩)
  · obtain ⟨φ, h, ds, d, h', rh, rv, eq, k⟩ := h
    rw [← rv.length]
    exact runF_len _ _ _ _ _ _ eq
  · obtain ⟨φ, h, ds, d, h', rh, rv, eq, k⟩ := h
    unfold runF at eq
    split at eq
    · rename_i hl
      have rs := re_start (N := N) rv
      rw [hl] at rs
      split at eq
      · rename_i d1 e1 h1 eb
        have eq := Option.some.inj eq
        refine ⟨φ, _, h, .ret d1, e1, h1, rs, rh, eb, fun φ1 σ1 H1 p1 k1 rh1 v rv1 => ?_⟩
        obtain ⟨φ2, p2, rh2, rv2⟩ := gc_ok rh rh1 p1 rv1
        rw [eq] at rh2 rv2
        exact k φ2 v H1 p2 k1 rh2 rv2
      · rename_i e1 h1 eb
        have eq := Option.some.inj eq
        refine ⟨φ, _, h, .nx, e1, h1, rs, rh, eb, fun φ1 σ1 H1 p1 k1 rh1 _ => ?_⟩
        obtain ⟨φ2, p2, rh2, rv2⟩ := gc_ok rh rh1 p1 (RV.p (K := K) (φ := φ1) (H := H1) RP.non)
        rw [eq] at rh2 rv2
        exact k φ2 .non H1 p2 k1 rh2 rv2
      · cases eq
    · cases eq
/-! ### a call of a def -/
section
variable {X : Cx} {a : Expr} {es : List Expr} {m : MA} {pos p : Pos}
theorem me_call {k j : Nat} {f : Addr} {fd : FuncData} {ps : List Str} {F : GA} {x : Str} (G : FnOk X.prog X.w X.K X.mg X.base CX0 k f fd ps (spF X.K F)) (hr : Room j X.A) (hm : X.mg x = some (.ref f)) (hk : PySem.W.keepIn X.K (.ref f) = true) (hb : Binds X.K fd ps []) (ha : PA X (a :: es) (tA X.K m))
    (hkj : k ≤ j := by decide) (hg : Gl X x := by rfl) (hdb : (x == ("__debug__" : Str)) = false := by decide) (he : starEach (a :: es) X.env = (false, eval a X.env) :: starEach es X.env := by rfl) (hpl : (backTo pos (starEach es X.env)).any (·.1) = false := by rfl) :
    PE X (.Call (.Name x p) (a :: es) [] pos) (tM X.K (mCall F m)) := by
  refine (pe_call G (hr.mono hkj) hg hm hk hb .nil pass0 ha hdb he hpl).conseq ?_
  intro σ H Q q
  obtain ⟨φ, e, h, d, h', re, rh, eq, k⟩ := q
  obtain ⟨⟨d1, h1⟩, e1, eq⟩ := Option.bind_eq_some_iff.mp eq
  refine ⟨φ, e, h, d1, h1, re, rh, e1, fun φ1 vs H1 p1 k1 rh1 rv1 => ?_⟩
  show rMA X.K F (vs ++ []) H1 Q
  rw [List.append_nil]
  exact ⟨φ1, h1, d1, d, h', rh1, rv1, eq, fun φ2 v H2 p2 k2 => k φ2 v H2 (p1.trans p2) (k1.trans k2)⟩
end
end MX
set_option Elab.async false
set_option linter.all false
set_option maxRecDepth 100000
set_option maxHeartbeats 1000000
set_option autoImplicit false
namespace MX
open PySem PySem.Spec L2
/-! ### isinstance -/
def tyP : Pd → Option String
  | .none => some "NoneType"
  | .bool _ => some "bool"
  | .int _ => some "int"
  | .str _ => some "str"
  | .tuple _ => some "tuple"
  | _ => none
def tyM (h : Hq) : Mv → Option String
  | .p x => tyP x
  | .tl _ => some "tuple"
  | .ct x => tyP x
  | .fl _ => some "list"
  | .loc n => match h[n]? with
    | some (.lst _) => some "list"
    | some (.dct _ _) => some "dict"
    | _ => none
  | .und => none
section
variable {K : PySem.W.Frag} {φ : List Addr} {H : Hp} {h : Hq}
theorem tyM_ok (rh : RH K φ h H) {d : Mv} {v : V} {t : String} (r : RV K φ H d v) (e : tyM h d = some t) : TyX K H v (.type t) := by
  cases r with
  | p r =>
    cases r with
    | non => cases e; exact .base .non
    | bl b => cases e; exact .base (.bl b)
    | int b => cases e; exact .base (.int b)
    | str b => cases e; exact .base (.str b)
    | tup s q => cases e; exact .base (.tup s)
  | tl s q => cases e; exact .base (.tup s)
  | fl s =>
    cases e
    rcases s with ⟨o, s⟩ | ⟨o, its, n, s, c, _⟩
    · exact .base (.frz s)
    · exact .kList s c
  | ct r =>
    cases r with
    | non => cases e; exact .base .non
    | bl b => cases e; exact .base (.bl b)
    | int b => cases e; exact .base (.int b)
    | str b => cases e; exact .base (.str b)
    | tup s q =>
      cases e
      obtain ⟨o, its, n, s, c, _⟩ := s
      exact .kTuple s c
  | @loc n a ea =>
    simp only [tyM] at e
    split at e
    · rename_i ds eo
      cases e
      obtain ⟨b, eb, ro⟩ := rh.ob _ _ eo
      rw [ea] at eb; cases eb
      obtain ⟨vs, ev, _⟩ := ro
      exact .base (.lst ev)
    · rename_i tt kvs eo
      cases e
      obtain ⟨b, eb, ro⟩ := rh.ob _ _ eo
      rw [ea] at eb; cases eb
      cases tt with
      | false =>
        obtain ⟨vs, ev, _⟩ := ro
        exact .base (.dK ev)
      | true =>
        obtain ⟨vs, ev, _⟩ := ro
        exact .base (.dT ev)
    · cases e
end
def mIsi (a : ME) (c : String) : ME := fun e h => (a e h).bind fun r => (tyM r.2 r.1).bind fun t => (kitB t c).map fun b => (.p (.bool b), r.2)
section
variable {X : Cx} {a b c tg : Expr} {es : List Expr} {ma mb mc : ME} {pos p p2 p3 : Pos} {m : MA}
theorem me_isi {x : Str} {C : String} (hm : X.mg "isinstance" = none) (hmc : X.mg x = none) (hv : bootBuiltins x = some (.type C)) (ha : PE X a (tM X.K ma)) (hg : Gl X "isinstance" := by rfl) (hgc : Gl X x := by rfl) (hn : x ≠ "__name__" := by decide) (hdb : (x == ("__debug__" : Str)) = false := by decide)
    (hs : starEach [a, .Name x p3] X.env = (false, eval a X.env) :: starEach [.Name x p3] X.env := by rfl) (hs2 : starEach [.Name x p3] X.env = (false, eval (.Name x p3) X.env) :: starEach [] X.env := by rfl) (hpl : (backTo pos (starEach [.Name x p3] X.env)).any (·.1) = false := by rfl) :
    PE X (.Call (.Name "isinstance" p) [a, .Name x p3] [] pos) (tM X.K (mIsi ma C)) := by
  refine (pe_callB (call_isi (X := X)) hg hm (by rfl) (pa_cons ha (pa_cons (pe_bltn (v := .ty C) hgc hmc hv rfl hn hdb) pa_nil hs2) hs) (by decide) (by decide) hs hpl).conseq ?_
  rintro σ H Q ⟨φ, e, h, d, h', re, rh, eq, k⟩
  obtain ⟨⟨d1, h1⟩, e1, eq⟩ := Option.bind_eq_some_iff.mp eq
  obtain ⟨t, e2, eq⟩ := Option.bind_eq_some_iff.mp eq
  obtain ⟨r, e3, eq⟩ := Option.map_eq_some_iff.mp eq
  cases eq
  refine ⟨φ, e, h, d1, _, re, rh, e1, fun φ1 v1 H1 p1 k1 rh1 rv1 => ?_⟩
  exact ⟨v1, .ty C, _, .type C, r, rfl, .ty C, tyM_ok rh1 rv1 e2, kit_ty e3, k φ1 _ H1 p1 k1 rh1 (.p (.bl _))⟩
/-! ### list(range(..)), tuple(range(..)) -/
def rgL (i j : Int) : List Int := (List.range (j - i).toNat).map fun k => i + (k : Nat)
theorem rgV_eq (i j : Int) : rgV i j = (rgL i j).map V.int := by unfold rgV rgL; rw [List.map_map]; rfl
def rgB (i j : Int) : Bool := decide (-(2 ^ 62) ≤ i ∧ i < 2 ^ 62 ∧ -(2 ^ 62) ≤ j ∧ j < 2 ^ 62 ∧ (j - i).toNat ≤ 2 ^ 24)
theorem rgB_ok {i j : Int} (h : rgB i j = true) : RgOk i j := by
  have q := of_decide_eq_true h
  exact q
def mLR1 (a : ME) : ME := fun e h => (a e h).bind fun r => match r.1 with
  | .p (.int n) => if rgB 0 n = true then some (.loc r.2.length, r.2 ++ [.lst ((rgL 0 n).map Mv.int)]) else none
  | _ => none
def int2 : Mv → Mv → Option (Int × Int)
  | .p (.int i), .p (.int j) => some (i, j)
  | _, _ => none
theorem int2_some {x y : Mv} {q : Int × Int} (h : int2 x y = some q) : x = .p (.int q.1) ∧ y = .p (.int q.2) := by
  unfold int2 at h
  split at h
  · cases h; exact ⟨rfl, rfl⟩
  · cases h
def mLR2 (a b : ME) : ME := fun e h => (a e h).bind fun r => (b e r.2).bind fun s => (int2 r.1 s.1).bind fun q => if rgB q.1 q.2 = true then some (.loc s.2.length, s.2 ++ [.lst ((rgL q.1 q.2).map Mv.int)]) else none
theorem me_lr1 (hc : X.calm = true) (hm : X.mg "list" = none) (hmr : X.mg "range" = none) (ha : PE X a (tM X.K ma)) (hg : Gl X "list" := by rfl) (hgr : Gl X "range" := by rfl)
    (na : starEach [a] X.env = (false, eval a X.env) :: starEach [] X.env := by rfl) (nb : starEach [.Call (.Name "range" p) [a] [] p2] X.env = (false, eval (.Call (.Name "range" p) [a] [] p2) X.env) :: starEach [] X.env := by rfl) :
    PE X (.Call (.Name "list" p3) [.Call (.Name "range" p) [a] [] p2] [] pos) (tM X.K (mLR1 ma)) := by
  refine (pe_listRg hc hg hm (prg_1 hgr hmr ha na) nb).conseq ?_
  rintro σ H Q ⟨φ, e, h, d, h', re, rh, eq, k⟩
  obtain ⟨⟨d1, h1⟩, e1, eq⟩ := Option.bind_eq_some_iff.mp eq
  dsimp only at eq
  split at eq
  · rename_i n
    split at eq
    · rename_i hb
      cases eq
      refine ⟨φ, e, h, _, _, re, rh, e1, fun φ1 v1 H1 p1 k1 rh1 rv1 => ⟨n, rv1.int_inv, rgB_ok hb, fun q hq => ?_⟩⟩
      rw [rgV_eq]
      obtain ⟨r1, r2⟩ := rh1.newL hq (rvs_ints (rgL 0 n))
      exact k _ _ _ (p1.trans (List.prefix_append _ _)) (k1.trans (HK.new hq)) r1 r2
    · cases eq
  · cases eq
theorem me_lr2 (hc : X.calm = true) (hm : X.mg "list" = none) (hmr : X.mg "range" = none) (ha : PE X a (tM X.K ma)) (hb : PE X b (tM X.K mb)) (hg : Gl X "list" := by rfl) (hgr : Gl X "range" := by rfl)
    (na : starEach [a, b] X.env = (false, eval a X.env) :: starEach [b] X.env := by rfl) (nc : starEach [b] X.env = (false, eval b X.env) :: starEach [] X.env := by rfl) (hp : (backTo p2 (starEach [b] X.env)).any (·.1) = false := by rfl) (nb : starEach [.Call (.Name "range" p) [a, b] [] p2] X.env = (false, eval (.Call (.Name "range" p) [a, b] [] p2) X.env) :: starEach [] X.env := by rfl) :
    PE X (.Call (.Name "list" p3) [.Call (.Name "range" p) [a, b] [] p2] [] pos) (tM X.K (mLR2 ma mb)) := by
  refine (pe_listRg hc hg hm (prg_2 hgr hmr ha hb na nc hp) nb).conseq ?_
  rintro σ H Q ⟨φ, e, h, d, h', re, rh, eq, k⟩
  obtain ⟨⟨d1, h1⟩, e1, eq⟩ := Option.bind_eq_some_iff.mp eq
  obtain ⟨⟨d2, h2⟩, e2, eq⟩ := Option.bind_eq_some_iff.mp eq
  obtain ⟨⟨i, j⟩, e3, eq⟩ := Option.bind_eq_some_iff.mp eq
  obtain ⟨ex, ey⟩ := int2_some e3
  dsimp only at eq ex ey
  split at eq
  · rename_i hb
    cases eq
    refine ⟨φ, e, h, _, _, re, rh, e1, fun φ1 v1 H1 p1 k1 rh1 rv1 => ⟨φ1, e, h1, _, _, re.mono p1 k1, rh1, e2, fun φ2 v2 H2 p2 k2 rh2 rv2 => ⟨i, j, (ex ▸ rv1).int_inv, (ey ▸ rv2).int_inv, rgB_ok hb, fun q hq => ?_⟩⟩⟩
    rw [rgV_eq]
    obtain ⟨r1, r2⟩ := rh2.newL hq (rvs_ints (rgL i j))
    exact k _ _ _ (p1.trans (p2.trans (List.prefix_append _ _))) (k1.trans (k2.trans (HK.new hq))) r1 r2
  · cases eq
end
end MX
set_option Elab.async false
set_option linter.all false
set_option maxRecDepth 100000
set_option maxHeartbeats 1000000
set_option autoImplicit false
/-! sorting tuples of which some are empty -/
namespace MX
open PySem PySem.Spec PySem.W PySem.Calls PyProof.Rows PySem.SeqAt
section
variable {prog : Program} {w : World} {A : Around} {E : Value → Shared → Prop} {s : Shared}
theorem call_tuple_lt {Q : Value → Shared → Prop} {l b : Addr} {items items2 : Array Value} {e r : Nat → Bool} (hl : s.heap.IsTuple l items) (hb : s.heap.IsTuple b items2)
    (he : ∀ j (h1 : j < items.size) (h2 : j < items2.size), EqAt A.in1 s items[j] items2[j] (e j)) (hr : ∀ j (h1 : j < items.size) (h2 : j < items2.size), e j = false → RcLt A.in1 s items[j] items2[j] (r j))
    (h : Q (.bool (firstLt e r (decide (items.size < items2.size)) (List.range (min items.size items2.size)))) s) : wpAny (model prog w) A (call (.builtin "tuple.__lt__") [.ref l, .ref b]) Q E s := by
  obtain ⟨⟨cls, dd, data, sl⟩, ho, hc, n, hd⟩ := id hl
  obtain ⟨⟨cls2, dd2, data2, sl2⟩, ho2, hc2, n2, hd2⟩ := id hb
  simp only at hc hd hc2 hd2
  subst hc hd hc2 hd2
  exact call_meets F.slot_tuple_lt ⟨_, ho, rfl⟩ F.entry_tuple_lt (F.args_tuple_lt_2 _ _) (tuple_ltAt l b items items2 n n2 dd dd2 sl sl2 e r) ⟨ho, ho2, he, hr, h⟩
theorem oneLt_tup {f : Bool} {xs ys : List PyData} {a b : Value} {as bs : List Addr} {Q : Bool → Shared → Prop} (ra : Reads s.heap a (.tuple xs) as) (rb : Reads s.heap b (.tuple ys) bs) (h : alike (.tuple xs) (.tuple ys) = true)
    (hu : A.units + min (PyData.tuple xs).depth (PyData.tuple ys).depth < cLine) (hq : Q (dataLt (.tuple xs) (.tuple ys)) s) : wpAny (model prog w) A (oneLt' f a b) Q E s := by
  cases f with
  | false => exact oneLt_alike (fun z => nomatch z) ra rb h (fun z => nomatch z) hu hq
  | true =>
    have hal : alikeAll xs ys = true := by simpa [alike] using h
    cases ra with
    | @tuple l o vs n _ as₁ h1 h2 h3 h4 =>
      cases rb with
      | @tuple l' o' vs' n' _ bs₁ k1 k2 k3 k4 =>
        have n1 : vs.size = xs.length := by simpa using ReadsAll.length _ _ _ h4
        have n2 : vs'.size = ys.length := by simpa using ReadsAll.length _ _ _ k4
        rw [dataLt_tuple, ← firstLt_toks xs ys hal, ← n1, ← n2] at hq
        rw [oneLt'_eq]
        simp only [if_true]
        refine wpAny_bind (wpAny_cRoomFor (room_here hu) ?_)
        refine wpAny_bind (wpAny_callSpecialIfBound?_slot (T := "tuple") ⟨_, h1, h2⟩ F.slot_tuple_lt (call_tuple_lt (e := pairEq xs ys) (r := fun j => dataLt (xs.getD j .none) (ys.getD j .none)) ⟨_, h1, h2, _, h3⟩ ⟨_, k1, k2, _, k3⟩ (fun j j1 j2 => ?_) (fun j j1 j2 hj => ?_) ?_))
        · have := eqAt_alikeAll xs ys A.in1 s vs.toList vs'.toList _ _ h4 k4 hal (room_in hu) j (by simpa using j1) (by simpa using j2)
          simpa using this
        · have := rcLt_alikeAll xs ys A.in1 s vs.toList vs'.toList _ _ h4 k4 hal (room_in hu) j (by simpa using j1) (by simpa using j2) hj
          simpa using this
        · exact wpAny_truthy_bool hq
def TupAt (h : Heap) (v : Value) (xs : Array Value) : Prop := ∃ a o n, v = Value.ref a ∧ h.get? a = some o ∧ o.cls = .type "tuple" ∧ o.data = .seq xs n
theorem TupAt.uniq {h : Heap} {v : Value} {xs ys : Array Value} (p : TupAt h v xs) (q : TupAt h v ys) : xs = ys := by
  obtain ⟨a, o, n, rfl, ho, _, hd⟩ := p
  obtain ⟨b, o', n', e, ho', _, hd'⟩ := q
  cases e
  rw [ho] at ho'
  cases ho'
  rw [hd] at hd'
  cases hd'
  rfl
/-- the first items -/
theorem firsts_any : ∀ (vs : List Value) {Q : List (Option Value) → Shared → Prop}, (∀ v ∈ vs, ∃ xs, TupAt s.heap v xs) →
    (∀ fs, EachIs (fun v f => ∃ xs, TupAt s.heap v xs ∧ f = xs[0]?) vs fs → Q fs s) → wpAny (model prog w) A (vs.mapM firstOfTuple') Q E s
  | [], _, _, h => by rw [List.mapM_nil]; exact wpAny_pure (h [] .nil)
  | v :: vs, Q, t, h => by
    obtain ⟨xs, a, o, n, rfl, ho, hc, hd⟩ := t v List.mem_cons_self
    rw [List.mapM_cons]
    refine wpAny_bind ?_
    rw [kas_first_eq]
    refine wpAny_bind (Looks.here (show Looks _ s.heap (typeOf (.ref a)) o.cls from (Looks.ld ho).andThen .now) ?_)
    rw [hc, if_neg (by first | decide | simp)]
    refine wpAny_bind (listItems_at ho hd (wpAny_pure ?_))
    exact wpAny_bind (firsts_any vs (Q := fun bs s' => wpAny _ A (pure (xs[0]? :: bs)) Q E s') (fun u hu => t u (List.mem_cons_of_mem _ hu)) fun fs hfs => wpAny_pure (h _ (.cons ⟨xs, ⟨a, o, n, rfl, ho, hc, hd⟩, rfl⟩ hfs)))
theorem each_none {h : Heap} : ∀ {vs : List Value} {fs : List (Option Value)}, EachIs (fun v f => ∃ xs, TupAt h v xs ∧ f = xs[0]?) vs fs → (∃ v ∈ vs, TupAt h v #[]) → none ∈ fs
  | _, _, .nil, ⟨v, hv, _⟩ => by cases hv
  | _, _, .cons ⟨xs, t, e⟩ r, ⟨v, hv, hE⟩ => by
    rcases List.mem_cons.mp hv with z | z
    · subst z
      have := t.uniq hE
      subst this
      subst e
      exact List.mem_cons_self
    · exact List.mem_cons_of_mem _ (each_none r ⟨v, z, hE⟩)
theorem kind_emp {vs : List Value} {Q : SortKind → Shared → Prop} {kd : SortKind} (t : ∀ v ∈ vs, ∃ xs, TupAt s.heap v xs) (he : ∃ v ∈ vs, TupAt s.heap v #[])
    (hk : (kd = oneType' ∧ ∃ v r, vs = v :: r ∧ TupAt s.heap v #[]) ∨ (kd = general' ∧ ∃ v r x xs, vs = v :: r ∧ TupAt s.heap v xs ∧ xs[0]? = some x)) (h : Q kd s) : wpAny (model prog w) A (keyKind' vs.toArray) Q E s := by
  rw [kat_kind_eq, List.mapM_toArray, map_eq_pure_bind]
  refine wpAny_bind (wpAny_bind (firsts_any vs t fun fs hfs => wpAny_pure ?_))
  have hn := each_none hfs he
  have hall : (fs.toArray.all fun x => x.isSome) = false := by
    rw [Bool.eq_false_iff]
    intro z
    have z2 : (fs.all fun x => x.isSome) = true := by simpa using z
    have := List.all_eq_true.mp z2 none hn
    cases this
  rw [if_neg (by rw [hall]; exact Bool.false_ne_true)]
  rcases hk with ⟨rfl, v, r, rfl, hE⟩ | ⟨rfl, v, r, x, xs, rfl, hE, hx⟩
  · cases hfs with
    | @cons _ f _ fr q1 q2 =>
      obtain ⟨xs, q1, rfl⟩ := q1
      have := q1.uniq hE
      subst this
      rw [if_neg (by simp)]
      rw [oneTypeOnly'_eq, List.mapM_toArray, map_eq_pure_bind]
      refine wpAny_bind (wpAny_bind (wpAny_bind (kas_mapM (r := Value.type "tuple") _ (fun u hu Q' hq => ?_) (wpAny_pure ?_))))
      · obtain ⟨xs, a, o, n, rfl, ho, hc, hd⟩ := t u hu
        exact Looks.here (show Looks _ s.heap (typeOf (.ref a)) (.type "tuple") from hc ▸ (Looks.ld ho).andThen .now) hq
      · have hall2 : ((List.map (fun _ => Value.type "tuple") (v :: r)).toArray.all fun x => x == Value.type "tuple") = true := by
          simp only [List.all_toArray, List.all_map, List.all_eq_true]
          intro _ _
          exact beq_self_eq_true _
        have h0 : (List.map (fun _ => Value.type "tuple") (v :: r)).toArray[0]? = some (Value.type "tuple") := by simp
        rw [h0]
        simp only [hall2, if_true]
        exact wpAny_pure (wpAny_pure h)
  · cases hfs with
    | @cons _ f _ fr q1 q2 =>
      obtain ⟨ys, q1, rfl⟩ := q1
      have := q1.uniq hE
      subst this
      rw [if_pos (by simp [hx])]
      exact wpAny_pure h
/-- tuples of alike data can be sorted, if one of them is empty, too -/
theorem SortsAt.tups {vs : List Value} {ds : List PyData} (e : EachIs (fun v d => ∃ as, Reads s.heap v d as) vs ds) (hal : AllAlike ds) (ht : ∀ d ∈ ds, ∃ xs, d = .tuple xs) (hu : ∀ d, d ∈ ds → A.units + d.depth < cLine) : SortsAt prog w A s (dataKind s.heap ds) vs := by
  by_cases hemp : PyData.tuple [] ∈ ds
  · have room : ∀ {d d' : PyData}, d ∈ ds → A.units + min d.depth d'.depth < cLine := fun {d d'} hd => Nat.lt_of_le_of_lt (Nat.add_le_add_left (Nat.min_le_left _ _) _) (hu d hd)
    have lt1 : ∀ f (x y : Value) (a b : List (Int ⊕ List Nat)) (E : Value → Shared → Prop) (Q : Bool → Shared → Prop), (dataKind s.heap ds).keyOf x = some a → (dataKind s.heap ds).keyOf y = some b → Q ((dataKind s.heap ds).blt a b) s → wpAny (model prog w) A (oneLt' f x y) Q E s := by
      intro f x y a b E Q ha hb hq
      obtain ⟨d, as, hd, ra, rfl⟩ := dataKind_inv ha
      obtain ⟨d', as', hd', rb, rfl⟩ := dataKind_inv hb
      obtain ⟨xs, rfl⟩ := ht d hd
      obtain ⟨ys, rfl⟩ := ht d' hd'
      exact oneLt_tup ra rb (hal _ hd _ hd') (room hd) hq
    have tt : ∀ v ∈ vs, ∃ xs, TupAt s.heap v xs := by
      intro v hv
      obtain ⟨d, hd, as, r⟩ := e.left v hv
      obtain ⟨xs, rfl⟩ := ht d hd
      cases r with
      | @tuple a o ws n _ _ ho hc hdd hr => exact ⟨ws, a, o, n, rfl, ho, hc, hdd⟩
    have te : ∃ v ∈ vs, TupAt s.heap v #[] := by
      have : ∀ {vs : List Value} {ds : List PyData}, EachIs (fun v d => ∃ as, Reads s.heap v d as) vs ds → PyData.tuple [] ∈ ds → ∃ v ∈ vs, TupAt s.heap v #[] := by
        intro vs ds e
        induction e with
        | nil => intro h; cases h
        | @cons a b as bs r t ih =>
          intro h
          rcases List.mem_cons.mp h with z | z
          · cases z
            obtain ⟨as', r⟩ := r
            cases r with
            | @tuple a o ws n _ _ ho hc hdd hr =>
              refine ⟨_, List.mem_cons_self, a, o, n, rfl, ho, hc, ?_⟩
              have : ws.toList = [] := by
                cases q : ws.toList with
                | nil => rfl
                | cons x xs => rw [q] at hr; cases hr
              rw [hdd]
              congr 1
              exact Array.toList_eq_nil_iff.mp this
          · obtain ⟨v, hv, he⟩ := ih z
            exact ⟨v, List.mem_cons_of_mem _ hv, he⟩
      exact this e hemp
    refine ⟨fun v hv => ?_, ?_⟩
    · obtain ⟨d, hd, as, r⟩ := e.left v hv
      exact ⟨_, dataKind_some hal hd r⟩
    · have gl : ∀ x y, keyLt' general' x y = oneLt' false x y := fun x y => rfl
      cases vs with
      | nil => exact ⟨general', fun E x y a b Q ha hb hq => by rw [gl]; exact lt1 false x y a b E Q ha hb hq, fun h2 => absurd h2 (by simp)⟩
      | cons v r =>
        obtain ⟨xs, hx⟩ := tt v List.mem_cons_self
        cases hh : xs[0]? with
        | none =>
          have : xs = #[] := by
            have hz : xs.size ≤ 0 := Array.getElem?_eq_none_iff.mp hh
            exact Array.eq_empty_of_size_eq_zero (by omega)
          subst this
          exact ⟨oneType', fun E x y a b Q ha hb hq => by rw [keyLt'_oneType]; exact lt1 true x y a b E Q ha hb hq, fun h2 E Q hq => kind_emp tt te (.inl ⟨rfl, v, r, rfl, hx⟩) hq⟩
        | some x0 =>
          exact ⟨general', fun E x y a b Q ha hb hq => by rw [gl]; exact lt1 false x y a b E Q ha hb hq, fun h2 E Q hq => kind_emp tt te (.inr ⟨rfl, v, r, x0, xs, rfl, hx, hh⟩) hq⟩
  · refine SortsAt.data e hal (.inl fun d hd => ?_) hu
    obtain ⟨xs, rfl⟩ := ht d hd
    cases xs with
    | nil => exact absurd hd hemp
    | cons x r => exact ⟨x, r, rfl⟩
end
end MX
set_option Elab.async false
set_option linter.all false
set_option maxRecDepth 100000
set_option maxHeartbeats 1000000
set_option autoImplicit false
/-! sorted -/
namespace MX
open PySem PySem.Spec L2
open PySem.W (EachIs AllAlike Sortable SortsAt dataLe sortVals)
theorem _root_.MX.RP.reads {X : Cx} {pins : List (Addr × Obj)} {σ : L2.St} {H : Hp} {s : Shared} (I : Inv X pins σ H s) {d : Pd} {v : V} {u : Value} (r : RP X.K H d v) (rv : RelV v u) : ∃ as, Reads s.heap u d as := Dp.reads I d v u r.dp rv
section
variable {X : Cx} {pins : List (Addr × Obj)} {σ : L2.St} {H : Hp} {s : Shared} {β : Type} {enc : β → Pd}
abbrev RU (K : PySem.W.Frag) (H : Hp) (enc : β → Pd) : Value → β → Prop := fun u b => ∃ x, RP K H (enc b) x ∧ RelV x u
theorem each_of {K : PySem.W.Frag} : ∀ {bs : List β} {vs : List V} {us : List Value}, RPs K H (bs.map enc) vs → Vals vs us → EachIs (RU K H enc) us bs
  | [], _, _, .nil, .nil => .nil
  | _ :: _, _, _, .cons r rs, .cons q qs => .cons ⟨_, r, q⟩ (each_of rs qs)
theorem of_each {K : PySem.W.Frag} : ∀ {bs : List β} {us : List Value}, EachIs (RU K H enc) us bs → ∃ vs, RPs K H (bs.map enc) vs ∧ Vals vs us
  | _, _, .nil => ⟨[], .nil, .nil⟩
  | _, _, .cons ⟨x, r, q⟩ t => by
    obtain ⟨vs, r1, q1⟩ := of_each t
    exact ⟨x :: vs, .cons r r1, .cons q q1⟩
theorem sort_gen {bs : List β} {vs : List V} {p : Addr} {Q : VK} (I : Inv X pins σ H s) (sq : SqL X.K H p vs) (r : RPs X.K H (bs.map enc) vs) (hal : AllAlike (bs.map enc)) (hk : Sortable (bs.map enc) ∨ ∀ d ∈ bs.map enc, ∃ xs, d = .tuple xs)
    (hu : ∀ b ∈ bs, X.A.units + 2 + (enc b).depth < cLine) (q : ∀ vs' a, RPs X.K H ((bs.mergeSort (dataLe false enc)).map enc) vs' → H a = none → Q (.ref a) (upd H a (.lst vs'))) :
    wpAny (model X.prog X.w) X.A (call (.builtin "sorted") [.ref p]) (EP X pins σ Q) X.xe s := by
  obtain ⟨its, rv, hl, hz⟩ := I.list sq
  have e := each_of r rv
  have er : EachIs (fun v b => ∃ as, Reads s.heap v (enc b) as) its bs := e.mono fun u b ⟨x, rx, ru⟩ => rx.reads I ru
  have er' : EachIs (fun v b => ∃ as, Reads (PySem.W.sortingHeap (PySem.W.copyHeap s.heap its) (s.heap.objs.size + 1) its) v (enc b) as) its bs := er.mono fun _ _ ⟨as, r⟩ => ⟨as, PyProof.Rows.Reads.keeps (fun _ _ => PySem.W.sorting_copy_old) r⟩
  have em := PySem.W.each_map (R := fun v d => ∃ as, Reads (PySem.W.sortingHeap (PySem.W.copyHeap s.heap its) (s.heap.objs.size + 1) its) v d as) enc er'
  have hlen : its.length = bs.length := e.length
  have S : SortsAt X.prog X.w X.A.in1.in1 { s with heap := PySem.W.sortingHeap (PySem.W.copyHeap s.heap its) (s.heap.objs.size + 1) its } (PySem.W.dataKind (PySem.W.sortingHeap (PySem.W.copyHeap s.heap its) (s.heap.objs.size + 1) its) (bs.map enc)) its := by
    rcases hk with hk | hk
    · exact SortsAt.data (s := { s with heap := PySem.W.sortingHeap (PySem.W.copyHeap s.heap its) (s.heap.objs.size + 1) its }) em hal hk (PySem.W.bound_map hu)
    · exact SortsAt.tups (s := { s with heap := PySem.W.sortingHeap (PySem.W.copyHeap s.heap its) (s.heap.objs.size + 1) its }) em hal hk (PySem.W.bound_map hu)
  refine PySem.W.sorted_vals hl.isList S (by rw [rv.length] at hz; exact hz) ?_
  have eo := PySem.W.sortVals_data false e er' hal
  obtain ⟨vs', r1, q1⟩ := of_each eo
  obtain ⟨ep, he'⟩ := PyProof.Rows.sortedAll_at s.heap its (sortVals (PySem.W.dataKind (PySem.W.sortingHeap (PySem.W.copyHeap s.heap its) (s.heap.objs.size + 1) its) (bs.map enc)) false its its).toArray
  have hlv : vs'.length ≤ sizeLine := by
    have h1 := r1.length
    rw [List.length_map, List.length_mergeSort] at h1
    have h2 := rv.length
    omega
  refine ⟨.ref _, upd H (s.heap.objs.size + 1) (.lst vs'), I.laid (t' := s.toks) (fun _ _ => PyProof.Rows.sortedAll_old) (Nat.le_succ _) ⟨hlv, _, ep, q1, ?_⟩, rfl, q _ _ r1 (I.hok.fresh (Nat.le_succ _))⟩
  simpa using he'
end
/-- tuples of ints -/
def tupI (k : List Int) : Mv := .p (.tuple (k.map PyData.int))
def intT : Mv → Option (List Int)
  | .p (.tuple ds) => intsD ds
  | _ => none
def intTs : List Mv → Option (List (List Int))
  | [] => some []
  | x :: r => match intT x, intTs r with
    | some k, some ks => some (k :: ks)
    | _, _ => none
theorem intT_ok {x : Mv} {k : List Int} (h : intT x = some k) : x = tupI k := by
  unfold intT at h
  split at h
  · rw [intsD_ok h]; rfl
  · cases h
theorem intTs_ok : ∀ {xs : List Mv} {ks : List (List Int)}, intTs xs = some ks → xs = ks.map tupI
  | [], ks, h => by cases h; rfl
  | x :: r, ks, h => by
    unfold intTs at h
    split at h
    · rename_i k ks' e1 e2
      cases h
      rw [intT_ok e1, intTs_ok e2]; rfl
    · cases h
@[simp] theorem intT_tup (k : List Int) : intT (tupI k) = some k := by simp [intT, tupI]
@[simp] theorem intTs_map (ks : List (List Int)) : intTs (ks.map tupI) = some ks := by
  induction ks with
  | nil => rfl
  | cons k ks ih => simp [intTs, ih]
abbrev leI : Int → Int → Bool := fun a b => decide (a ≤ b)
abbrev leT : List Int → List Int → Bool := fun a b => decide (a ≤ b)
def gSorted : GA := fun ds h => match ds with
  | [d] => (lstOf h d).bind fun xs => match intsM xs with
    | some ns => some (.loc h.length, h ++ [.lst ((ns.mergeSort leI).map Mv.int)])
    | none => (intTs xs).map fun ks => (.loc h.length, h ++ [.lst ((ks.mergeSort leT).map tupI)])
  | _ => none
theorem dataLe_tups : dataLe false (fun k : List Int => PyData.tuple (k.map PyData.int)) = leT := by
  funext a b
  rw [PySem.W.dataLe_eq]
  simp only [Bool.false_eq_true, cond_false]
  rw [PySem.W.dataLt_tuple]
  have := PySem.W.dataLt_ints b a
  unfold PySem.W.rowLt at this
  rw [this]
  show (!decide (b < a)) = decide (a ≤ b)
  rw [Bool.eq_iff_iff]
  simp [List.not_lt]
theorem depthI (k : List Int) : (PyData.tuple (k.map PyData.int)).depth = 1 := by
  simp [PyData.depth, PySem.W.depth_ints]
section
variable {X : Cx}
theorem c_sorted (hu : X.A.units + 64 < cLine) : CallR X (.builtin "sorted") (rMA X.K gSorted) := by
  intro pins s σ H vs us Q I r h
  obtain ⟨φ, h, ds, d, h', rh, rx, eq, k⟩ := h
  unfold gSorted at eq
  split at eq
  · obtain ⟨xs, e1, eq⟩ := Option.bind_eq_some_iff.mp eq
    obtain ⟨v, rfl, r1⟩ := rvs1 rx
    obtain ⟨p, zs, rfl, sq, q⟩ := lstOf_ok rh r1 e1
    rw [Vals.ref1 r]
    split at eq
    · rename_i ns en
      cases eq
      rw [intsM_ok en] at q
      have q' : RPs X.K H (ns.map PyData.int) zs := RVs.of_p (ds := ns.map PyData.int) (by rw [List.map_map]; exact q)
      refine sort_gen (enc := PyData.int) I sq q' (AllAlike.of fun b b' => by simp [PySem.W.alike]) (.inl (Sortable.others fun b => ⟨(fun z => nomatch z), fun xs z => nomatch z⟩)) (fun b _ => by simp [PyData.depth]; omega) fun vs' a rv' ha => ?_
      rw [PySem.W.dataLe_int] at rv'
      have := rh.newL ha (φ := φ) (rv'.vs (φ := φ))
      rw [List.map_map] at this
      exact k _ _ _ (List.prefix_append _ _) (HK.new ha) this.1 this.2
    · obtain ⟨ks, ek, eq⟩ := Option.map_eq_some_iff.mp eq
      cases eq
      rw [intTs_ok ek] at q
      have q' : RPs X.K H (ks.map fun k => PyData.tuple (k.map PyData.int)) zs := RVs.of_p (ds := ks.map fun k => PyData.tuple (k.map PyData.int)) (by rw [List.map_map]; exact q)
      refine sort_gen (enc := fun k : List Int => PyData.tuple (k.map PyData.int)) I sq q' (AllAlike.of fun b b' => by simp [PySem.W.alike, PySem.W.alike_ints]) (.inr fun d hd => ?_) (fun b _ => by rw [depthI]; omega) fun vs' a rv' ha => ?_
      · obtain ⟨k, _, rfl⟩ := List.mem_map.mp hd
        exact ⟨_, rfl⟩
      · rw [dataLe_tups] at rv'
        have := rh.newL ha (φ := φ) (rv'.vs (φ := φ))
        rw [List.map_map] at this
        exact k _ _ _ (List.prefix_append _ _) (HK.new ha) this.1 this.2
  · cases eq
end
end MX
set_option Elab.async false
set_option linter.all false
set_option maxRecDepth 100000
set_option maxHeartbeats 1000000
set_option autoImplicit false
/-! sorted(set(..)) of tuples of ints -/
namespace MX
open PySem PySem.Spec L2 PyProof.Rows
open PySem.W (EachIs AllAlike Sortable SortsAt dataLe sortVals list_sort_vals)
section
variable {P : Program} {w : World} {A : Around} {E : Value → Shared → Prop} {s : Shared}
abbrev encQ : Addr × List Int → Pd := fun q => .tuple (q.2.map PyData.int)
theorem sorted_setG {a : Addr} {L : List (Addr × List Int)} {es : Array (Int × Value)} {ep : Nat} {t : SetTable} {Q : Value → Shared → Prop} (R : SetTR P w s.heap a L es ep t) (hh : A.handled = none) (hu : A.units + 3 < cLine)
    (hQ : ∀ s' p (out : Array Value) (c : Nat) (L' : List (Addr × List Int)), (∀ b o, s.heap.get? b = some o → s'.heap.get? b = some o) → s'.gens = s.gens → s'.os = s.os → s.heap.objs.size ≤ p →
      s'.heap.get? p = some (PyProof.Rows.seqObj "list" out c) → out.toList = L'.map (fun q => Value.ref q.1) → L'.Perm L → L'.Pairwise (fun q r => q.2 ≤ r.2) → Q (.ref p) s') :
    wpAny (model P w) A (call (.builtin "sorted") [.ref a]) Q E s := by
  obtain ⟨o, ho, hex, hd⟩ := R.ob
  have hsz := R.size
  have hfew := R.few
  refine Calls.call_function_entry PyProof.Rows.kind_sorted PyProof.Rows.plain_sorted PyProof.Rows.entry_sorted (PyProof.Rows.args_sorted1 _) ?_
  unfold Builtin.«sorted»
  refine wpAny_bind (m := checkCount "sorted" 1 1 _) (wpAny_pure ?_)
  refine wpAny_bind (collect_set (A := A.in1) hh ⟨o, ho, hex.1, hd⟩ R.fits (by unfold scanBound; omega) R.tab.ris R.led fun s1 vs k1 hz g1 o1 pm => ?_)
  have hes : es.toList.map (·.2) = L.map fun q => Value.ref q.1 := by
    rw [R.rows]
    unfold rowsOf
    rw [List.map_map] <;> rfl
  rw [hes] at pm
  have ord : ∀ vs : List Value, (∀ v ∈ vs, ∃ q ∈ L, v = Value.ref q.1) → ∃ L1 : List (Addr × List Int), vs = L1.map (fun q => Value.ref q.1) ∧ ∀ q ∈ L1, q ∈ L := by
    intro vs
    induction vs with
    | nil => intro _; exact ⟨[], rfl, fun q hq => (by cases hq)⟩
    | cons v vs ih =>
      intro hv
      obtain ⟨q, hq, e⟩ := hv v List.mem_cons_self
      obtain ⟨L1, e1, hs⟩ := ih fun u hu => hv u (List.mem_cons_of_mem _ hu)
      refine ⟨q :: L1, by rw [List.map_cons, e, e1], fun r hr => ?_⟩
      rcases List.mem_cons.mp hr with z | z
      · rw [z]; exact hq
      · exact hs r z
  have one : ∀ q ∈ L, ∀ r ∈ L, q.1 = r.1 → q = r := fun q hq r hr e => by
    have a1 := R.tup q hq
    have a2 := R.tup r hr
    rw [e] at a1
    have e2 : q.2 = r.2 := a1.inj a2
    exact Prod.ext e e2
  have perm_of : ∀ L1 : List (Addr × List Int), (∀ q ∈ L1, q ∈ L) → (L1.map (fun q => Value.ref q.1)).Perm (L.map fun q => Value.ref q.1) → L1.Perm L := by
    intro L1 hs pm1
    have nL : L.Nodup := nodup_of_map R.nd
    have nref : (L.map fun q => Value.ref q.1).Nodup := by
      refine List.pairwise_map.mpr (List.Pairwise.imp_of_mem (fun {q r} hq hr hne e => ?_) nL)
      injection e with e
      exact hne (one q hq r hr e)
    have n1 : L1.Nodup := nodup_of_map (pm1.nodup_iff.mpr nref)
    refine (List.perm_ext_iff_of_nodup n1 nL).mpr fun q => ⟨hs q, fun hq => ?_⟩
    have hm : Value.ref q.1 ∈ L1.map (fun q => Value.ref q.1) := pm1.mem_iff.mpr (List.mem_map.mpr ⟨q, hq, rfl⟩)
    obtain ⟨r, hr, e⟩ := List.mem_map.mp hm
    injection e with e
    rw [← one r (hs r hr) q hq e]
    exact hr
  obtain ⟨L1, eL1, hs1⟩ := ord vs fun v hv => by
    obtain ⟨q, hq, e⟩ := List.mem_map.mp (pm.mem_iff.mp hv)
    exact ⟨q, hq, e.symm⟩
  have p1 : L1.Perm L := perm_of L1 hs1 (by rw [← eL1]; exact pm)
  have hvl : vs.length < 64 := by rw [pm.length_eq, List.length_map]; exact hfew
  refine wpAny_bind (wpAny_newList ?_ (by rw [sizeLine_eq]; omega))
  have hoL : (s1.heap.push (PyProof.Rows.seqObj "list" vs.toArray 0)).get? s1.heap.objs.size = some (PyProof.Rows.seqObj "list" vs.toArray 0) := Heap.get?_push_size _ rfl
  generalize hh2 : s1.heap.push (PyProof.Rows.seqObj "list" vs.toArray 0) = h2 at hoL ⊢
  have keep2 : ∀ b o, s.heap.get? b = some o → b ≠ s1.heap.objs.size ∧ h2.get? b = some o := fun b o e => by
    have q := k1 b o e
    refine ⟨Nat.ne_of_lt (Heap.lt_size q), ?_⟩
    rw [← hh2]
    exact Heap.get?_push_of_some _ q
  have tk : ∀ q ∈ L, TS.TupInts (PySem.W.sortingHeap h2 s1.heap.objs.size vs) (.ref q.1) q.2 := fun q hq => tupInts_of (P := P) (w := w) (isT_keep (R.tup q hq) fun b u e => PySem.W.sortingHeap_old (keep2 b u e).1 (keep2 b u e).2)
  have e : EachIs (fun (v : Value) (q : Addr × List Int) => v = .ref q.1) vs L1 := by
    rw [eL1]
    clear eL1 p1 hs1 pm perm_of ord
    induction L1 with
    | nil => exact .nil
    | cons q r ih => exact .cons rfl ih
  have er : EachIs (fun v q => ∃ as, Reads (PySem.W.sortingHeap h2 s1.heap.objs.size vs) v (encQ q) as) vs L1 := by
    rw [eL1]
    have hm : ∀ q ∈ L1, TS.TupInts (PySem.W.sortingHeap h2 s1.heap.objs.size (L1.map fun q => Value.ref q.1)) (.ref q.1) q.2 := by
      rw [← eL1]
      exact fun q hq => tk q (hs1 q hq)
    generalize PySem.W.sortingHeap h2 s1.heap.objs.size (L1.map fun q => Value.ref q.1) = h3 at hm ⊢
    clear e eL1 p1 hs1 pm perm_of ord tk
    induction L1 with
    | nil => exact .nil
    | cons q r ih =>
      refine .cons ?_ (ih fun q hq => hm q (List.mem_cons_of_mem _ hq))
      obtain ⟨b, items, eb, ⟨o', ho', hc', n', hd'⟩, hi⟩ := hm q List.mem_cons_self
      cases eb
      have : ∀ {vs : List Value} {ns : List Int}, PyProof.Rows.IntsAre vs ns → ∃ as, ReadsAll h3 vs (ns.map PyData.int) as := by
        intro vs ns hi
        induction hi with
        | nil => exact ⟨_, .nil⟩
        | cons n t _ ih =>
          obtain ⟨as, r⟩ := ih
          exact ⟨_, .cons (.int n t) r⟩
      obtain ⟨as, ra⟩ := this hi
      exact ⟨as, .tuple ho' hc' hd' ra⟩
  have hal : AllAlike (L1.map encQ) := AllAlike.of fun b b' => by simp [encQ, PySem.W.alike, PySem.W.alike_ints]
  have em := PySem.W.each_map (R := fun v d => ∃ as, Reads (PySem.W.sortingHeap h2 s1.heap.objs.size vs) v d as) encQ er
  have S : SortsAt P w A.in1.in1 { s1 with heap := PySem.W.sortingHeap h2 s1.heap.objs.size vs } (PySem.W.dataKind (PySem.W.sortingHeap h2 s1.heap.objs.size vs) (L1.map encQ)) vs :=
    SortsAt.tups (s := { s1 with heap := PySem.W.sortingHeap h2 s1.heap.objs.size vs }) em hal (fun d hd => by
      obtain ⟨q, _, rfl⟩ := List.mem_map.mp hd
      exact ⟨_, rfl⟩) (PySem.W.bound_map fun b _ => by
        show A.units + 1 + 1 + (encQ b).depth < cLine
        rw [show (encQ b).depth = 1 from depthI b.2]
        omega)
  have eo := PySem.W.sortVals_data false e er hal
  have hlen : vs.length ≤ sizeLine := by rw [sizeLine_eq]; omega
  generalize hout : sortVals (PySem.W.dataKind (PySem.W.sortingHeap h2 s1.heap.objs.size vs) (L1.map encQ)) false vs vs = out at eo
  refine wpAny_bind (wpAny_holding (wpAny_call_entry PyProof.Rows.slot_list_sort ⟨_, hoL, rfl⟩ PyProof.Rows.entry_list_sort (list_sort_vals (s := { s1 with heap := h2 }) hoL S hlen ?_) (PyProof.Rows.args_list_sort _)))
  rw [hout]
  obtain ⟨c, hc⟩ := sortedHeap_at (vs := vs) (out := out.toArray) hoL
  have e' : out = (L1.mergeSort (dataLe false encQ)).map fun q => Value.ref q.1 := by
    have : ∀ {us : List Value} {L2 : List (Addr × List Int)}, EachIs (fun (v : Value) (q : Addr × List Int) => v = .ref q.1) us L2 → us = L2.map fun q => Value.ref q.1 := by
      intro us L2 h
      induction h with
      | nil => rfl
      | cons r _ ih => rw [List.map_cons, r, ih]
    exact this eo
  have le_eq : dataLe false encQ = fun p q : Addr × List Int => leT p.2 q.2 := by
    funext a b
    have := congrFun (congrFun dataLe_tups a.2) b.2
    exact this
  have pw : (L1.mergeSort (dataLe false encQ)).Pairwise (fun q r => q.2 ≤ r.2) := by
    rw [le_eq]
    have := List.pairwise_mergeSort (le := fun p q : Addr × List Int => leT p.2 q.2) (fun a b c h1 h2 => by
      simp only [leT, decide_eq_true_iff] at h1 h2 ⊢
      exact List.le_trans h1 h2) (fun a b => by
      simp only [leT, Bool.or_eq_true, decide_eq_true_iff]
      exact List.le_total _ _) L1
    exact this.imp fun h => of_decide_eq_true h
  refine ⟨_, rfl, wpAny_pure ⟨_, rfl, hQ _ s1.heap.objs.size out.toArray c (L1.mergeSort (dataLe false encQ)) (fun b u e => ?_) g1 o1 hz hc (by simpa using e') ((List.mergeSort_perm _ _).trans p1) pw⟩⟩
  have q := keep2 b u e
  show (PyProof.Rows.sortedHeap h2 s1.heap.objs.size vs out.toArray).get? b = some u
  have hlt := Heap.lt_size (k1 b u e)
  rw [PyProof.Rows.sortedHeap_old q.1 (by rw [← hh2, size_push']; exact Nat.lt_succ_of_lt hlt)]
  exact q.2
end
end MX
set_option Elab.async false
set_option linter.all false
set_option maxRecDepth 100000
set_option maxHeartbeats 1000000
set_option autoImplicit false
namespace MX
open PySem PySem.Spec L2
/-! ### sorted(set(xs)) -/
def ded {α : Type} [DecidableEq α] : List α → List α
  | [] => []
  | x :: r => if x ∈ r then ded r else x :: ded r
theorem mem_ded {α : Type} [DecidableEq α] {x : α} : ∀ {xs : List α}, x ∈ ded xs ↔ x ∈ xs
  | [] => Iff.rfl
  | y :: r => by
    unfold ded
    split
    · rename_i hy
      rw [mem_ded, List.mem_cons]
      exact ⟨.inr, fun h => h.elim (fun e => e ▸ hy) id⟩
    · rw [List.mem_cons, List.mem_cons, mem_ded]
theorem ded_nodup {α : Type} [DecidableEq α] : ∀ {xs : List α}, (ded xs).Nodup
  | [] => List.nodup_nil
  | y :: r => by
    unfold ded
    split
    · exact ded_nodup
    · rename_i hy
      exact List.nodup_cons.mpr ⟨fun h => hy (mem_ded.mp h), ded_nodup⟩
def srtU (ks : List (List Int)) : List (List Int) := (ded ks).mergeSort leT
theorem srt_unique : ∀ {xs ys : List (List Int)}, xs.Perm ys → xs.Pairwise (· ≤ ·) → ys.Pairwise (· ≤ ·) → xs = ys
  | [], ys, p, _, _ => by rw [List.nil_perm.mp p]
  | x :: xs, [], p, _, _ => by have := p.length_eq; simp at this
  | x :: xs, y :: ys, p, hx, hy => by
    rw [List.pairwise_cons] at hx hy
    have e : x = y := by
      rcases List.mem_cons.mp (p.mem_iff.mp List.mem_cons_self) with z | z
      · exact z
      · rcases List.mem_cons.mp (p.mem_iff.mpr (List.mem_cons_self : y ∈ y :: ys)) with w | w
        · exact w.symm
        · exact List.le_antisymm (hx.1 _ w) (hy.1 _ z)
    subst e
    rw [srt_unique (List.Perm.cons_inv p) hx.2 hy.2]
theorem srtU_sorted (ks : List (List Int)) : (srtU ks).Pairwise (· ≤ ·) := by
  have := List.pairwise_mergeSort (le := leT) (fun a b c h1 h2 => by
    simp only [leT, decide_eq_true_iff] at h1 h2 ⊢
    exact List.le_trans h1 h2) (fun a b => by
    simp only [leT, Bool.or_eq_true, decide_eq_true_iff]
    exact List.le_total _ _) (ded ks)
  exact this.imp fun h => of_decide_eq_true h
theorem srtU_nodup (ks : List (List Int)) : (srtU ks).Nodup := (List.mergeSort_perm _ _).nodup_iff.mpr ded_nodup
theorem mem_srtU {ks : List (List Int)} {k : List Int} : k ∈ srtU ks ↔ k ∈ ks := by
  unfold srtU
  rw [List.mem_mergeSort, mem_ded]
theorem srtU_eq {ks xs : List (List Int)} (h1 : xs.Pairwise (· ≤ ·)) (h2 : xs.Nodup) (h3 : ∀ k, k ∈ xs ↔ k ∈ ks) : xs = srtU ks :=
  srt_unique ((List.perm_ext_iff_of_nodup h2 (srtU_nodup ks)).mpr fun k => by rw [h3, mem_srtU]) h1 (srtU_sorted ks)
def rSortS (K : PySem.W.Frag) (P : Program) (w : World) : List V → Hp → VK → Prop := fun vs H Q => ∃ (a : Addr) (L : List (Addr × List Int)), vs = [V.ref a] ∧ H a = some (SetTO P w a L) ∧ (∀ p ∈ L, SqT K H p.1 (p.2.map V.int)) ∧
  ∀ (L' : List (Addr × List Int)) (p : Addr), L'.Perm L → (L'.map (·.2)).Nodup → L'.Pairwise (fun q r => q.2 ≤ r.2) → H p = none → Q (.ref p) (upd H p (.lst (L'.map fun q => V.ref q.1)))
section
variable {X : Cx} {a : Expr} {ma : ME} {pos p p2 p3 : Pos}
theorem cr_sortS (hc : X.calm = true) (hu : X.A.units + 64 < cLine) : CallR X (.builtin "sorted") (rSortS X.K X.prog X.w) := by
  intro pins s σ H vs us Q I r h
  obtain ⟨a, L, rfl, ha, hk, q⟩ := h
  have R0 : SetT0 X.prog X.w s.heap a L := (I.hok a _ ha).1
  obtain ⟨es, ep, t, R⟩ := R0.full fun p hp => I.isT (hk p hp)
  rw [Vals.ref1 r]
  refine sorted_setG R (I.ok.hd hc) (by omega) fun s' p out c L' k g o hp hg hout pm pw => ?_
  have hfew : L'.length < 64 := by rw [pm.length_eq]; exact R.few
  have hlen : (L'.map fun q => V.ref q.1).length ≤ sizeLine := by rw [List.length_map, sizeLine_eq]; omega
  have hn : H p = none := I.hok.fresh hp
  have hv : Vals (L'.map fun q => V.ref q.1) out.toList := by rw [hout]; exact vals_of_refs L'
  have J : Inv X pins σ (upd H p (.lst (L'.map fun q => V.ref q.1))) { s with heap := s'.heap, gens := s'.gens, drawn := s'.drawn, toks := s'.toks } :=
    I.call (ch := []) (Un.laid k hp hn) (I.hok.laid k hp ⟨hlen, out.toList, c, hv, hg⟩) (by rw [g]; exact I.bare) (fun _ z => nomatch z)
  have e : s' = { s with heap := s'.heap, gens := s'.gens, drawn := s'.drawn, toks := s'.toks } := by
    cases s'
    cases s
    cases o
    rfl
  rw [e]
  exact ⟨.ref p, _, J, rfl, q L' p pm ((pm.map (·.2)).nodup_iff.mpr R.nd) pw hn⟩
def mSortSet (a : ME) : ME := fun e h => (a e h).bind fun r => (lstOf r.2 r.1).bind fun xs => (intTs xs).bind fun ks => if ks.length < 64 then some (.loc r.2.length, r.2 ++ [.lst ((srtU ks).map tupI)]) else none
theorem tups_split {K : PySem.W.Frag} {φ : List Addr} {H : Hp} : ∀ {ks : List (List Int)} {vs : List V}, RVs K φ H (ks.map tupI) vs → ∃ L : List (Addr × List Int), vs = L.map (fun q => V.ref q.1) ∧ L.map (·.2) = ks ∧ ∀ q ∈ L, H q.1 = some (.tup (q.2.map V.int))
  | [], _, .nil => ⟨[], rfl, rfl, fun q hq => by cases hq⟩
  | k :: ks, _, .cons r t => by
    obtain ⟨L, e1, e2, e3⟩ := tups_split t
    obtain ⟨b, xs, rfl, s, q⟩ := r.tup_inv
    have := q.ints
    subst this
    refine ⟨(b, k) :: L, by rw [e1]; rfl, by rw [List.map_cons, e2], fun q hq => ?_⟩
    rcases List.mem_cons.mp hq with rfl | hq
    · exact s
    · exact e3 q hq
theorem me_sortset (hc : X.calm = true) (hu : X.A.units + 64 < cLine) (hm : X.mg "sorted" = none) (hms : X.mg "set" = none) (ha : PE X a (tM X.K ma)) (hg : Gl X "sorted" := by rfl) (hgs : Gl X "set" := by rfl)
    (na : starEach [a] X.env = (false, eval a X.env) :: starEach [] X.env := by rfl) (nb : starEach [.Call (.Name "set" p) [a] [] p2] X.env = (false, eval (.Call (.Name "set" p) [a] [] p2) X.env) :: starEach [] X.env := by rfl) :
    PE X (.Call (.Name "sorted" p3) [.Call (.Name "set" p) [a] [] p2] [] pos) (tM X.K (mSortSet ma)) := by
  refine (pe_callB (cr_sortS hc hu) hg hm (by rfl) (pa_cons (pe_callTy (cr_setOfT hc hu) hgs hms (by rfl) (pa_cons ha pa_nil na) (by decide) (by decide) na (by rfl)) pa_nil nb) (by decide) (by decide) nb (by rfl)).conseq ?_
  rintro σ H Q ⟨φ, e, h, d, h', re, rh, eq, k⟩
  obtain ⟨⟨d1, h1⟩, e1, eq⟩ := Option.bind_eq_some_iff.mp eq
  obtain ⟨xs, e2, eq⟩ := Option.bind_eq_some_iff.mp eq
  obtain ⟨ks, e3, eq⟩ := Option.bind_eq_some_iff.mp eq
  split at eq
  · rename_i hlt
    cases eq
    refine ⟨φ, e, h, d1, h1, re, rh, e1, fun φ1 v1 H1 p1 k1 rh1 rv1 => ?_⟩
    obtain ⟨l, zs, rfl, sq, q⟩ := lstOf_ok rh1 rv1 e2
    rw [intTs_ok e3] at q
    obtain ⟨L, e4, e5, e6⟩ := tups_split q
    refine ⟨l, L, rfl, by rw [← e4]; exact sq, fun p hp => SqT.of (e6 p hp), by rw [← List.length_map (f := (·.2)), e5]; exact hlt, fun b M hb hM1 hM2 => ?_⟩
    have kb : HK H1 (upd H1 b (SetTO X.prog X.w b M)) := HK.new hb
    refine ⟨b, M, rfl, upd_same, fun p hp => kb.seqT (SqT.of (e6 p (hM1 p hp))), fun M' c pm nd pw hcn => ?_⟩
    have hall : M'.map (·.2) = srtU ks := srtU_eq (List.pairwise_map.mpr pw) nd fun z => by
      constructor
      · intro hz
        obtain ⟨q, hq, rfl⟩ := List.mem_map.mp hz
        rw [← e5]
        exact List.mem_map.mpr ⟨q, hM1 q (pm.mem_iff.mp hq), rfl⟩
      · intro hz
        rw [← e5] at hz
        obtain ⟨q, hq, rfl⟩ := List.mem_map.mp hz
        have := hM2 q hq
        exact (pm.map (·.2)).mem_iff.mpr this
    have rv : RVs X.K φ1 (upd H1 b (SetTO X.prog X.w b M)) ((srtU ks).map tupI) (M'.map fun q => V.ref q.1) := by
      rw [← hall, List.map_map]
      have hm : ∀ q ∈ M', H1 q.1 = some (.tup (q.2.map V.int)) := fun q hq => e6 q (hM1 q (pm.mem_iff.mp hq))
      clear hall pm nd pw
      induction M' with
      | nil => exact .nil
      | cons q r ih =>
        refine .cons (.p (.tup (kb _ _ trivial (hm q List.mem_cons_self)) ?_)) (ih fun q hq => hm q (List.mem_cons_of_mem _ hq))
        have : ∀ ns : List Int, RPs X.K (upd H1 b (SetTO X.prog X.w b M)) (ns.map PyData.int) (ns.map V.int) := by
          intro ns
          induction ns with
          | nil => exact .nil
          | cons n ns ih => exact .cons (.int n) ih
        exact this q.2
    obtain ⟨r1, r2⟩ := (rh1.side hb (o := SetTO X.prog X.w b M)).newL hcn rv
    exact k _ _ _ (p1.trans (List.prefix_append _ _)) (k1.trans (kb.trans (HK.new hcn))) r1 r2
  · cases eq
end
end MX
set_option Elab.async false
set_option linter.all false
set_option maxRecDepth 100000
set_option maxHeartbeats 1000000
set_option autoImplicit false
namespace MX
open PySem PySem.Spec L2 PyProof.Rows
/-! ### len(set(xs)) of ints -/
theorem firstMet_ok (ns : List Int) : ∀ i, i ≤ ns.length → (firstMet (fun i => ns.getD i 0) i).Nodup ∧ ∀ x, x ∈ firstMet (fun i => ns.getD i 0) i ↔ x ∈ ns.take i
  | 0, _ => ⟨List.nodup_nil, fun x => Iff.rfl⟩
  | i + 1, hi => by
    have hlt : i < ns.length := hi
    obtain ⟨h1, h2⟩ := firstMet_ok ns i (Nat.le_of_lt hlt)
    have e : ns.getD i 0 = ns[i] := by rw [List.getD_eq_getElem?_getD, List.getElem?_eq_getElem hlt] <;> rfl
    rw [firstMet_succ, List.take_succ, List.getElem?_eq_getElem hlt]
    unfold step_dedup
    rw [e]
    split
    · rename_i hy
      obtain ⟨x, hx, e2⟩ := List.any_eq_true.mp hy
      have ex : x = ns[i] := beq_iff_eq.mp e2
      refine ⟨h1, fun x' => ?_⟩
      rw [h2, List.mem_append]
      refine ⟨.inl, fun h => h.elim id fun h => ?_⟩
      have : x' = ns[i] := by simpa using h
      rw [this, ← ex]
      exact (h2 x).mp hx
    · rename_i hy
      refine ⟨?_, fun x' => ?_⟩
      · refine List.nodup_append.mpr ⟨h1, by simp, fun a ha b hb hab => hy ?_⟩
        have : b = ns[i] := by simpa using hb
        exact List.any_eq_true.mpr ⟨a, ha, by rw [hab, this]; exact beq_self_eq_true _⟩
      · rw [List.mem_append, List.mem_append, h2]
        simp
theorem firstMet_len (ns : List Int) : (firstMet (fun i => ns.getD i 0) ns.length).length = (ded ns).length := by
  obtain ⟨h1, h2⟩ := firstMet_ok ns ns.length (Nat.le_refl _)
  refine (List.Perm.length_eq ((List.perm_ext_iff_of_nodup h1 ded_nodup).mpr fun x => ?_))
  rw [h2, List.take_length, mem_ded]
section
variable {X : Cx} {a : Expr} {ma : ME} {pos p p2 q : Pos}
def tLenSetA (K : PySem.W.Frag) (ta : TE) : TE := fun σ H Q => ta σ H fun x H1 => ∃ (l : Addr) (ns : List Int), x = V.ref l ∧ SqL K H1 l (ns.map V.int) ∧ ns.length < 4000 ∧ Q (.int (ded ns).length) H1
theorem pe_lenSetA {ta : TE} (hc : X.calm = true) (hg : Gl X "len") (hm : X.mg "len" = none) (hg2 : Gl X "set") (hm2 : X.mg "set" = none) (ha : PE X a ta)
    (na : starEach [a] X.env = (false, eval a X.env) :: starEach [] X.env := by rfl) : PE X (.Call (.Name "len" p) [.Call (.Name "set" p2) [a] [] q] [] pos) (tLenSetA X.K ta) := by
  refine ⟨fun pins s σ H Q I h => ?_⟩
  refine Call_ (ld_blt I hg hm PySem.boot_len ?_)
  refine PyProof.Rows.callWith_builtin1 (PyProof.Rows.args_cons ?_ rfl) rfl rfl
  refine Call_ (ld_blt I hg2 hm2 PyProof.Rows.boot_set ?_)
  refine PyProof.Rows.callWith_type1 (PyProof.Rows.args_cons (thn (ha.run pins s σ H _ I h) fun v s1 ⟨x, H1, I1, r1, q1⟩ => PyProof.Rows.args_nil ?_) na) na rfl
  obtain ⟨l, ns, rfl, hq, h1, q1⟩ := q1
  cases r1
  obtain ⟨its, r, pl, hz⟩ := I1.list hq
  have hl : its.toArray.size = ns.length := by rw [List.size_toArray, ← r.length, List.length_map]
  refine call_set_list (I1.ok.hd hc) pl.isList (ns := ns) (by simpa using r.ints) (by unfold scanBound; omega) fun h' tk hS hk => ?_
  rw [hl] at hS
  refine PyProof.Rows.args_nil ?_
  obtain ⟨o, es, ep, t, ho, hex, hd, _, _, _, hf, hn⟩ := hS
  have I2 : Inv X pins σ H1 { s1 with heap := h', toks := tk } := I1.kept fun b o e => hk b o (Heap.lt_size e) e
  have hle : (firstMet (fun i => ns.getD i 0) ns.length).length ≤ ns.length := by
    rw [firstMet_len]
    have : ∀ l : List Int, (ded l).length ≤ l.length := by
      intro l
      induction l with
      | nil => exact Nat.le_refl _
      | cons x r ih =>
        unfold ded
        split
        · exact Nat.le_succ_of_le ih
        · exact Nat.succ_le_succ ih
    exact this ns
  refine call_len_set ho hex hd hf (by rw [hn] <;> omega) ⟨.int (ded ns).length, H1, I2.tok _, ⟨_, by rw [hn, firstMet_len]⟩, q1⟩
def mLenSet (a : ME) : ME := fun e h => (a e h).bind fun r => (lstOf r.2 r.1).bind fun xs => (intsM xs).bind fun ns => if ns.length < 4000 then some (.p (.int (ded ns).length), r.2) else none
theorem me_lenset (hc : X.calm = true) (hm : X.mg "len" = none) (hms : X.mg "set" = none) (ha : PE X a (tM X.K ma)) (hg : Gl X "len" := by rfl) (hgs : Gl X "set" := by rfl)
    (na : starEach [a] X.env = (false, eval a X.env) :: starEach [] X.env := by rfl) : PE X (.Call (.Name "len" p) [.Call (.Name "set" p2) [a] [] q] [] pos) (tM X.K (mLenSet ma)) := by
  refine (pe_lenSetA hc hg hm hgs hms ha na).conseq ?_
  rintro σ H Q ⟨φ, e, h, d, h', re, rh, eq, k⟩
  obtain ⟨⟨d1, h1⟩, e1, eq⟩ := Option.bind_eq_some_iff.mp eq
  obtain ⟨xs, e2, eq⟩ := Option.bind_eq_some_iff.mp eq
  obtain ⟨ns, e3, eq⟩ := Option.bind_eq_some_iff.mp eq
  split at eq
  · rename_i hlt
    cases eq
    refine ⟨φ, e, h, d1, _, re, rh, e1, fun φ1 v1 H1 p1 k1 rh1 rv1 => ?_⟩
    obtain ⟨l, zs, rfl, sq, q⟩ := lstOf_ok rh1 rv1 e2
    rw [intsM_ok e3] at q
    exact ⟨l, ns, rfl, by rw [← q.ints]; exact sq, hlt, k φ1 _ H1 p1 k1 rh1 (.p (.int _))⟩
  · cases eq
end
end MX
set_option Elab.async false
set_option linter.all false
set_option maxRecDepth 100000
set_option maxHeartbeats 1000000
set_option autoImplicit false
namespace MX
open PySem PySem.Spec L2
/-! ### min, max of data -/
def notNone : Pd → Bool
  | .none => false
  | _ => true
def alikeB (ys : List Pd) : Bool := ys.all fun x => notNone x && ys.all fun y => PySem.W.alike x y
theorem alikeB_ok {ys : List Pd} (h : alikeB ys = true) : PySem.W.AlikeAll ys := by
  have h1 := List.all_eq_true.mp h
  refine ⟨fun x hx y hy => ?_, fun x hx e => ?_⟩
  · have := h1 x hx
    rw [Bool.and_eq_true] at this
    exact List.all_eq_true.mp this.2 y hy
  · have := h1 x hx
    subst e
    cases this
theorem fold_mem {α : Type} (f : α → α → α) (hf : ∀ a y, f a y = a ∨ f a y = y) : ∀ (xs : List α) (x : α), xs.foldl f x ∈ x :: xs
  | [], x => List.mem_cons_self
  | y :: r, x => by
    rw [List.foldl_cons]
    rcases List.mem_cons.mp (fold_mem f hf r (f x y)) with h | h
    · rw [h]
      rcases hf x y with e | e
      · rw [e]; exact List.mem_cons_self
      · rw [e]; exact List.mem_cons_of_mem _ List.mem_cons_self
    · exact List.mem_cons_of_mem _ (List.mem_cons_of_mem _ h)
theorem minD_mem (x : Pd) (xs : List Pd) : PySem.W.minD x xs ∈ x :: xs := fold_mem _ (fun a y => by split <;> simp) xs x
theorem maxD_mem (x : Pd) (xs : List Pd) : PySem.W.maxD x xs ∈ x :: xs := fold_mem _ (fun a y => by split <;> simp) xs x
def gExt (f : List Int → Int) (g : Pd → List Pd → Pd) : GA := fun ds h => match ds with
  | [d] => (lstOf h d).bind fun xs => match intsM xs with
    | some ns => if ns = [] then none else some (.p (.int (f ns)), h)
    | none => (allP xs).bind fun ys => match ys with
      | [] => none
      | y :: r => if alikeB (y :: r) = true ∧ PyData.depthAll (y :: r) ≤ 60 then some (.p (g y r), h) else none
  | _ => none
abbrev gMin1X : GA := gExt minL PySem.W.minD
abbrev gMax1X : GA := gExt maxL PySem.W.maxD
section
variable {X : Cx}
theorem ext_gen {pins : List (Addr × Obj)} {s : Shared} {σ : L2.St} {H : Hp} {id : String} {Q : VK} {y : Pd} {r : List Pd} {vs : List V} {p : Addr} (g : Pd → List Pd → Pd) (hm : ∀ x xs, g x xs ∈ x :: xs)
    (rule : ∀ {l : Addr} {us : Array Value} {x : PyData} {xs : List PyData} {as : List Addr} {Q : Value → Shared → Prop} (_ : X.A.handled = none) (_ : s.heap.IsList l us) (_ : ReadsAll s.heap us.toList (x :: xs) as) (_ : PySem.W.AlikeAll (x :: xs)) (_ : X.A.units + 1 + PyData.depthAll (x :: xs) < cLine)
      (_ : ∀ (i : Nat) v h' tk bs, us[i]? = some v → Reads h' v (g x xs) bs → (∀ b o, s.heap.get? b = some o → h'.get? b = some o) → Q v { s with heap := h', toks := tk }), wpAny (model X.prog X.w) X.A (call (.builtin id) [.ref l]) Q X.xe s)
    (hc : X.calm = true) (hu : X.A.units + 64 < cLine) (I : Inv X pins σ H s) (sq : SqL X.K H p vs) (rv : RPs X.K H (y :: r) vs) (ha : alikeB (y :: r) = true) (hd : PyData.depthAll (y :: r) ≤ 60) (q : ∀ v, RP X.K H (g y r) v → Q v H) :
    wpAny (model X.prog X.w) X.A (call (.builtin id) [.ref p]) (EP X pins σ Q) X.xe s := by
  obtain ⟨its, rl, hl, hz⟩ := I.list sq
  obtain ⟨as, ra⟩ := Dp.readsAll I (y :: r) vs its rv.dp rl
  have al := alikeB_ok ha
  refine rule (us := its.toArray) (I.ok.hd hc) hl.isList (by simpa using ra) al (by omega) fun i v h' tk bs hv hr hk => ?_
  have hi : its[i]? = some v := by simpa using hv
  obtain ⟨hil, ei⟩ := List.getElem?_eq_some_iff.mp hi
  have hlv : i < (y :: r).length := by rw [rv.length, rl.length]; exact hil
  obtain ⟨w, hw, rw'⟩ := rv.get (List.getElem?_eq_getElem hlv)
  have rel : RelV w v := by
    have : ∀ {xs : List V} {us : List Value}, Vals xs us → ∀ {i : Nat} {w : V} {v : Value}, xs[i]? = some w → us[i]? = some v → RelV w v := by
      intro xs us h
      induction h with
      | nil => intro i w v h1 h2; simp at h1
      | cons a b ih =>
        intro i w v h1 h2
        cases i with
        | zero => simp at h1 h2; subst h1 h2; exact a
        | succ i => simp at h1 h2; exact ih h1 h2
    exact this rl hw hi
  have I' : Inv X pins σ H { s with heap := h', toks := tk } := I.kept hk
  obtain ⟨as', ra'⟩ := rw'.reads I' rel
  have e := PySem.W.alike_unique _ _ _ _ _ (al.1 _ (List.getElem_mem hlv) _ (hm y r)) ra' hr
  rw [e] at rw'
  exact ⟨w, H, I', rel, q w rw'⟩
theorem c_min1X (hc : X.calm = true) (hu : X.A.units + 64 < cLine) : CallR X (.builtin "min") (rMA X.K gMin1X) := by
  intro pins s σ H xs us Q I rr hh
  obtain ⟨φ, h, ds, d, h', rh, rx, eq, k⟩ := hh
  unfold gMin1X gExt at eq
  split at eq
  · rename_i d0
    obtain ⟨ys, e1, eq⟩ := Option.bind_eq_some_iff.mp eq
    split at eq
    · rename_i ns e2
      split at eq
      · cases eq
      · rename_i hne
        cases eq
        exact c_min1 hc pins s σ H xs us Q I rr ⟨φ, h, _, _, h, rh, rx, by simp only [gMin1, gInts, e1, e2, Option.bind_some, if_neg hne, Option.map_some], k⟩
    · obtain ⟨zs, e3, eq⟩ := Option.bind_eq_some_iff.mp eq
      split at eq
      · cases eq
      · split at eq
        · rename_i y r ha
          cases eq
          obtain ⟨v, rfl, r1⟩ := rvs1 rx
          obtain ⟨p, ws, rfl, s1, q⟩ := lstOf_ok rh r1 e1
          rw [allP_ok e3] at q
          rw [Vals.ref1 rr]
          exact ext_gen (id := "min") PySem.W.minD minD_mem (fun a b c d e f => PySem.W.min_list_data a b c d e f) hc hu I s1 q.of_p ha.1 ha.2 fun v rv => k φ v H (List.prefix_refl φ) (HK.refl H) rh (.p rv)
        · cases eq
  · cases eq
theorem c_max1X (hc : X.calm = true) (hu : X.A.units + 64 < cLine) : CallR X (.builtin "max") (rMA X.K gMax1X) := by
  intro pins s σ H xs us Q I rr hh
  obtain ⟨φ, h, ds, d, h', rh, rx, eq, k⟩ := hh
  unfold gMax1X gExt at eq
  split at eq
  · rename_i d0
    obtain ⟨ys, e1, eq⟩ := Option.bind_eq_some_iff.mp eq
    split at eq
    · rename_i ns e2
      split at eq
      · cases eq
      · rename_i hne
        cases eq
        exact c_max1 hc pins s σ H xs us Q I rr ⟨φ, h, _, _, h, rh, rx, by simp only [gMax1, gInts, e1, e2, Option.bind_some, if_neg hne, Option.map_some], k⟩
    · obtain ⟨zs, e3, eq⟩ := Option.bind_eq_some_iff.mp eq
      split at eq
      · cases eq
      · split at eq
        · rename_i y r ha
          cases eq
          obtain ⟨v, rfl, r1⟩ := rvs1 rx
          obtain ⟨p, ws, rfl, s1, q⟩ := lstOf_ok rh r1 e1
          rw [allP_ok e3] at q
          rw [Vals.ref1 rr]
          exact ext_gen (id := "max") PySem.W.maxD maxD_mem (fun a b c d e f => PySem.W.max_list_data a b c d e f) hc hu I s1 q.of_p ha.1 ha.2 fun v rv => k φ v H (List.prefix_refl φ) (HK.refl H) rh (.p rv)
        · cases eq
  · cases eq
end
/-! ### dict comprehensions, keys ints or texts -/
def putC (n0 : Nat) (k d : Mv) (h : Hq) : Option Hq := match h[n0]? with
  | some (.dct false kvs) => match k with
    | .p x => if (kOf x).isSome = true ∧ kvs.length < sizeLine then some (h.set n0 (.dct false (putD kvs x d))) else none
    | _ => none
  | _ => none
def dcN (nx : Nxt) (t : Tg) (tt : MT) (tk tv : ME) (e0 : En) (n0 : Nat) : Nat → Nat → Hq → Option Hq
  | 0, i, h => match nx i h with
    | some none => some h
    | _ => none
  | m + 1, i, h => match nx i h with
    | some none => some h
    | some (some d) => (asg t d e0).bind fun e1 => (tt e1 h).bind fun b => if b.1 = true then (tk e1 b.2).bind fun y => (tv e1 y.2).bind fun z => (putC n0 y.1 z.1 z.2).bind fun h3 => dcN nx t tt tk tv e0 n0 m (i + 1) h3
      else dcN nx t tt tk tv e0 n0 m (i + 1) b.2
    | none => none
def mDc (s : Src) (t : Tg) (tt : MT) (tk tv : ME) (vs : List Nat) : ME := fun e h => (s e h).bind fun r =>
  (dcN r.1.2 t tt tk tv (wipeE e vs) r.2.length r.1.1 0 (r.2 ++ [.dct false []])).map fun h' => (.loc r.2.length, h')
theorem putC_ok {K : PySem.W.Frag} {φ : List Addr} {h h' : Hq} {H : Hp} {n0 : Nat} {D : Addr} {k d : Mv} {y v : V} (rh : RH K φ h H) (hD : φ[n0]? = some D) (rk : RV K φ H k y) (rv : RV K φ H d v) (e : putC n0 k d h = some h') :
    ∃ kvs q, y = kV q ∧ H D = some (.dK kvs) ∧ kvs.length < sizeLine ∧ HK H (upd H D (.dK (putK kvs q v))) ∧ RH K φ h' (upd H D (.dK (putK kvs q v))) := by
  unfold putC at e
  split at e
  · rename_i kvs eo
    split at e
    · rename_i x
      split at e
      · rename_i hz
        cases e
        obtain ⟨b, eb, ro⟩ := rh.ob n0 _ eo
        rw [hD] at eb; cases eb
        obtain ⟨ks, ev, q⟩ := ro
        obtain ⟨key, ek⟩ := Option.isSome_iff_exists.mp hz.1
        have kp := HK.put (o := .dK (putK ks key v)) ev (fun z => z)
        exact ⟨ks, key, kOf_v ek rk.p_inv, ev, by rw [← rk_len q]; exact hz.2, kp, rh.write hD ev (fun z => z) ⟨_, upd_same, (putD_rk ek rv q (fun p hp r er => keyEq_k ek er)).mono (List.prefix_refl φ) kp⟩⟩
      · cases e
    · cases e
  · cases e
section
variable {X : Cx}
theorem tDc_of {K : PySem.W.Frag} {s : Src} {t : Tg} {tt : MT} {tk tv : ME} {vs : List Nat} (hsl : ∀ i ∈ t.sl, i ∈ vs) {σ : L2.St} {H : Hp} {Q : VK} (q : tM K (mDc s t tt tk tv vs) σ H Q) : tDc (tI K s) (tG K t) (tT K tt) (tM K tk) (tM K tv) vs σ H Q := by
  obtain ⟨φ, e, h, d, h', re, rh, eq, k⟩ := q
  obtain ⟨⟨⟨n, nx⟩, h1⟩, e1, eq⟩ := Option.bind_eq_some_iff.mp eq
  obtain ⟨h2, e2, eq⟩ := Option.map_eq_some_iff.mp eq
  obtain ⟨rfl, rfl⟩ := Prod.mk.inj eq
  refine ⟨φ, e, h, n, nx, h1, re, rh, e1, fun φ1 H1 J p1 k1 rh1 ir D hD => ?_⟩
  have hDn : (φ1 ++ [D])[h1.length]? = some D := by rw [← rh1.len, List.getElem?_append_right (Nat.le_refl _)]; simp
  have rh2 : RH K (φ1 ++ [D]) (h1 ++ [.dct false []]) (upd H1 D (.dK [])) := rh1.grow hD ⟨[], upd_same, .nil⟩
  refine ⟨fun i m H2 => ∃ φ2 h3, (φ1 ++ [D]) <+: φ2 ∧ HK H1 H2 ∧ RH K φ2 h3 H2 ∧ dcN nx t tt tk tv (wipeE e vs) h1.length m i h3 = some h2, ⟨n, φ1 ++ [D], h1 ++ [.dct false []], List.prefix_refl _, HK.new hD, rh2, e2⟩, ?_⟩
  rintro i m H2 ⟨φ2, h3, p2, k2, rh3, el⟩
  have pp : φ1 <+: φ2 := (List.prefix_append φ1 [D]).trans p2
  have ir2 := ir i φ2 h3 H2 pp k2 rh3
  have hD2 : φ2[h1.length]? = some D := pre_get p2 hDn
  have fin : ∀ {m}, nx i h3 = some none → dcN nx t tt tk tv (wipeE e vs) h1.length m i h3 = some h2 → J.stop i H2 ∧ Q (.ref D) H2 := by
    intro m en el
    have : h3 = h2 := by
      cases m with
      | zero => simp only [dcN, en] at el; exact Option.some.inj el
      | succ m => simp only [dcN, en] at el; exact Option.some.inj el
    subst this
    exact ⟨ir2.1 en, k φ2 _ H2 (p1.trans pp) (k1.trans k2) rh3 (.loc hD2)⟩
  cases en : nx i h3 with
  | none => cases m <;> simp [dcN, en] at el
  | some o =>
    cases o with
    | none => exact .inl (fin en el)
    | some d =>
      cases m with
      | zero => simp [dcN, en] at el
      | succ m =>
        simp only [dcN, en] at el
        obtain ⟨e3, ea, el⟩ := Option.bind_eq_some_iff.mp el
        obtain ⟨⟨b, h4⟩, et, el⟩ := Option.bind_eq_some_iff.mp el
        obtain ⟨go, gy⟩ := ir2.2 d en
        refine .inr ⟨go, fun H5 => ∃ φ5 h5, (φ1 ++ [D]) <+: φ5 ∧ HK H1 H5 ∧ RH K φ5 h5 H5 ∧ dcN nx t tt tk tv (wipeE e vs) h1.length m (i + 1) h5 = some h2, fun H5 h => ⟨m, Nat.lt_succ_self m, h⟩, fun x H3 y => ?_⟩
        obtain ⟨k3, rh4, rv⟩ := gy x H3 y
        have re3 : RE K φ2 H3 e σ := re.mono (p1.trans pp) (k1.trans (k2.trans k3))
        refine ⟨φ2, wipeE e vs, e3, d, re3.wipe vs, rv, ea, fun σ2 re4 bt => ⟨bt.wiped hsl, φ2, e3, h3, b, h4, re4, rh4, et, fun φ4 H4 p4 k4 rh5 => ?_⟩⟩
        dsimp only at el
        cases b with
        | false =>
          rw [if_neg (by decide)] at el ⊢
          exact ⟨φ4, h4, p2.trans p4, k2.trans (k3.trans k4), rh5, el⟩
        | true =>
          rw [if_pos rfl] at el ⊢
          obtain ⟨⟨y1, h5⟩, ey, el⟩ := Option.bind_eq_some_iff.mp el
          obtain ⟨⟨z1, h6⟩, ez, el⟩ := Option.bind_eq_some_iff.mp el
          obtain ⟨h7, ep, el⟩ := Option.bind_eq_some_iff.mp el
          refine ⟨φ4, e3, h4, y1, h5, re4.mono p4 k4, rh5, ey, fun φ5 v5 H5 p5 k5 rh6 rv5 => ⟨φ5, e3, h5, z1, h6, (re4.mono p4 k4).mono p5 k5, rh6, ez, fun φ6 v6 H6 p6 k6 rh7 rv6 => ?_⟩⟩
          obtain ⟨kvs, key, ekey, ha, hz, kp, rh8⟩ := putC_ok rh7 (pre_get (p4.trans (p5.trans p6)) hD2) (rv5.mono p6 k6) rv6 ep
          exact ⟨kvs, key, ekey, ha, hz, φ6, h7, p2.trans (p4.trans (p5.trans p6)), k2.trans (k3.trans (k4.trans (k5.trans (k6.trans kp)))), rh8, el⟩
theorem me_dc {kx vx tg iter : Expr} {ifs : List Expr} {scope : Scope} {own : List (Str × Nat)} {pos : Pos} {s : Src} {t : Tg} {tt : MT} {tk tv : ME} (hc : X.calm = true) (hN : X.N.Nodup) (hi : PI X tg iter (tI X.K s)) (ok : blkC X.N X.env.scope scope own = true)
    (hg : ∀ (s : Shared) (H : Hp) (C : Addr) (cl : List (Str × Addr)) (fp : List Addr), PG (X.blk s H scope (compEnvC scope cl C X.env) fp) tg (tG X.K t)) (ht : ∀ (s : Shared) (H : Hp) (C : Addr) (cl : List (Str × Addr)) (fp : List Addr), PTs (X.blk s H scope (compEnvC scope cl C X.env) fp) ifs (tT X.K tt))
    (hk : ∀ (s : Shared) (H : Hp) (C : Addr) (cl : List (Str × Addr)) (fp : List Addr), PE (X.blk s H scope (compEnvC scope cl C X.env) fp) kx (tM X.K tk))
    (he : ∀ (s : Shared) (H : Hp) (C : Addr) (cl : List (Str × Addr)) (fp : List Addr), PE (X.blk s H scope (compEnvC scope cl C X.env) fp) vx (tM X.K tv)) (hsl : t.sl.all (fun i => (own.map (·.2)).contains i) = true := by rfl) (hs : ∀ x, foldedSetIterable iter X.env x = pure x := by intro _; rfl) :
    PE X (.DictComp kx vx [⟨tg, iter, ifs, 0⟩] scope pos) (tM X.K (mDc s t tt tk tv (own.map (·.2)))) :=
  (pe_dc hc hN hi (blkOk_by ok) hg ht hk he hs).conseq fun _ _ _ q => tDc_of (by simpa using hsl) q
end
end MX
set_option Elab.async false
set_option linter.all false
set_option maxRecDepth 100000
set_option maxHeartbeats 1000000
set_option autoImplicit false
namespace MX
open PySem PySem.Spec L2
theorem tupOf_mkT (ds : List Mv) : tupOf (mkT ds) = some ds := by
  unfold mkT
  split
  · rename_i xs ex
    rw [allP_ok ex]; rfl
  · rfl
/-- o[i], q[j] = a, b -/
def sSwap (m : MA) (o1 i1 o2 i2 : ME) : MS := fun e h => (m e h).bind fun v => match v.1 with
  | [d1, d2] => (o1 e v.2).bind fun q => (i1 e q.2).bind fun r => (gSet q.1 r.1 d1 r.2).bind fun h1 => (o2 e h1).bind fun q2 => (i2 e q2.2).bind fun r2 => (gSet q2.1 r2.1 d2 r2.2).map fun h' => (.nx, e, h')
  | _ => none
section
variable {X : Cx} {pos p1 p2 pt pt2 : Pos} {m : MA} {mo1 mi1 mo2 mi2 : ME} {o1 i1 o2 i2 a b : Expr} {kt k2 : Nat}
theorem ms_swap (hc : X.calm = true) (hu : X.A.units + 1 < cLine) (hm : PA X [a, b] (tA X.K m)) (ho1 : PE X o1 (tM X.K mo1)) (hi1 : PE X i1 (tM X.K mi1)) (ho2 : PE X o2 (tM X.K mo2)) (hi2 : PE X i2 (tM X.K mi2))
    (hh1 : ∀ v, assign (.Subscript o1 i1 p1) X.env v = (do
      let ov ← holding [v] (eval o1 X.env)
      let iv ← holding [v, ov] (eval i1 X.env)
      standAt p1
      holding [v, ov, iv] (setItem ov iv v)
      release [v, ov, iv] []) := by intro _; rfl)
    (hh2 : ∀ v, assign (.Subscript o2 i2 p2) X.env v = (do
      let ov ← holding [v] (eval o2 X.env)
      let iv ← holding [v, ov] (eval i2 X.env)
      standAt p2
      holding [v, ov, iv] (setItem ov iv v)
      release [v, ov, iv] []) := by intro _; rfl)
    (hs1 : (assignEach [.Subscript o1 i1 p1, .Subscript o2 i2 p2] X.env).map (·.2) = assign (.Subscript o1 i1 p1) X.env :: (assignEach [.Subscript o2 i2 p2] X.env).map (·.2) := by rfl)
    (hs2 : (assignEach [.Subscript o2 i2 p2] X.env).map (·.2) = assign (.Subscript o2 i2 p2) X.env :: (assignEach [] X.env).map (·.2) := by rfl)
    (hn : (assignEach [.Subscript o1 i1 p1, .Subscript o2 i2 p2] X.env).length = 2 := by rfl) (hst : (assignEach [.Subscript o1 i1 p1, .Subscript o2 i2 p2] X.env).findIdx? (·.1) = none := by rfl)
    (hs : swapsWithSole [.Tuple [.Subscript o1 i1 p1, .Subscript o2 i2 p2] kt pt] (.Tuple [a, b] k2 pt2) pos.line X.env = pure false := by rfl) (hw : swappedStores [.Tuple [.Subscript o1 i1 p1, .Subscript o2 i2 p2] kt pt] (.Tuple [a, b] k2 pt2) X.env = pure none := by rfl)
    (h1 : (assignEach [.Tuple [.Subscript o1 i1 p1, .Subscript o2 i2 p2] kt pt] X.env).map (·.2) = [assign (.Tuple [.Subscript o1 i1 p1, .Subscript o2 i2 p2] kt pt) X.env] := by rfl) :
    PS X (.Assign [.Tuple [.Subscript o1 i1 p1, .Subscript o2 i2 p2] kt pt] (.Tuple [a, b] k2 pt2) pos) (tS X.K (sSwap m mo1 mi1 mo2 mi2)) := by
  refine (ps_asg (me_tup (k := k2) (pos := pt2) hm) (pg_tup hc (pgs_cons (pg_sub ho1 hi1 (s_set hu) hh1) (pgs_cons (pg_sub ho2 hi2 (s_set hu) hh2) pgs_nil hs2) hs1) hn hst) hs hw h1).conseq ?_
  rintro D σ H ⟨φ, e, h, fl, e', h', re, rh, eq, k⟩
  obtain ⟨⟨ds, h1⟩, q1, eq⟩ := Option.bind_eq_some_iff.mp eq
  dsimp only at eq
  split at eq
  · rename_i d1 d2
    obtain ⟨⟨x1, g1⟩, q2, eq⟩ := Option.bind_eq_some_iff.mp eq
    obtain ⟨⟨x2, g2⟩, q3, eq⟩ := Option.bind_eq_some_iff.mp eq
    obtain ⟨g3, q4, eq⟩ := Option.bind_eq_some_iff.mp eq
    obtain ⟨⟨x4, g4⟩, q5, eq⟩ := Option.bind_eq_some_iff.mp eq
    obtain ⟨⟨x5, g5⟩, q6, eq⟩ := Option.bind_eq_some_iff.mp eq
    obtain ⟨g6, q7, eq⟩ := Option.map_eq_some_iff.mp eq
    cases eq
    refine ⟨φ, e, h, mkT [d1, d2], h1, re, rh, ?_, fun φ1 v1 H1 p1 k1 rh1 rv1 => ?_⟩
    · unfold mTup
      rw [q1]
      simp only [Option.bind_some]
      rw [if_pos (by show 2 ≤ sizeLine; rw [sizeLine_eq]; decide)]
    · obtain ⟨a', xs, rfl, sq, q⟩ := tupOf_ok rv1 (tupOf_mkT _)
      obtain ⟨w1, w2, rfl, r1, r2⟩ := rvs2 q
      refine ⟨a', _, rfl, sq, rfl, ?_⟩
      refine ⟨w1, _, rfl, φ1, e, h1, x1, g1, re.mono p1 k1, rh1, q2, fun φ2 v2 H2 p2 k2 rh2 rv2 => ⟨φ2, e, g1, x2, g2, (re.mono p1 k1).mono p2 k2, rh2, q3, fun φ3 v3 H3 p3 k3 rh3 rv3 =>
        ⟨φ3, g2, x1, x2, d1, g3, rh3, rv2.mono p3 k3, rv3, (r1.mono p2 k2).mono p3 k3, q4, fun φ4 H4 p4 k4 rh4 => ?_⟩⟩⟩
      have re4 := ((re.mono p1 k1).mono p2 k2).mono (p3.trans p4) (k3.trans k4)
      refine ⟨w2, _, rfl, φ4, e, g3, x4, g4, re4, rh4, q5, fun φ5 v5 H5 p5 k5 rh5 rv5 => ⟨φ5, e, g4, x5, g5, re4.mono p5 k5, rh5, q6, fun φ6 v6 H6 p6 k6 rh6 rv6 =>
        ⟨φ6, g5, x4, x5, d2, _, rh6, rv5.mono p6 k6, rv6, r2.mono (p2.trans (p3.trans (p4.trans (p5.trans p6)))) (k2.trans (k3.trans (k4.trans (k5.trans k6)))), q7, fun φ7 H7 p7 k7 rh7 => ⟨rfl, ?_⟩⟩⟩⟩
      exact k φ7 σ H7 (p1.trans (p2.trans (p3.trans (p4.trans (p5.trans (p6.trans p7)))))) (k1.trans (k2.trans (k3.trans (k4.trans (k5.trans (k6.trans k7)))))) rh7 (re4.mono (p5.trans (p6.trans p7)) (k5.trans (k6.trans k7)))
  · cases eq
end
end MX
set_option Elab.async false
set_option linter.all false
set_option maxRecDepth 100000
set_option maxHeartbeats 1000000
set_option autoImplicit false
namespace MX
open PySem PySem.Spec L2
section
variable {X : Cx} {a o : Expr} {es : List Expr} {mo : ME} {m : MA} {pos : Pos}
theorem me_gint {x : Str} {i : Int} (h : ∃ t, X.mg x = some (.int i t)) (hg : Gl X x := by rfl) (hd : (x == ("__debug__" : Str)) = false := by decide) : PE X (.Name x pos) (tM X.K (mC (.int i))) :=
  me_glob (v := .int i) hg h.choose_spec ⟨_, rfl⟩ (fun _ => .int i) hd
theorem me_gstr {x z : Str} (h : ∃ t, X.mg x = some (.str z t)) (hg : Gl X x := by rfl) (hd : (x == ("__debug__" : Str)) = false := by decide) : PE X (.Name x pos) (tM X.K (mC (.str z))) :=
  me_glob (v := .str z) hg h.choose_spec ⟨_, rfl⟩ (fun _ => .str z) hd
def mNever : ME := fun _ _ => none
theorem me_never {e : Expr} : PE X e (tM X.K mNever) := ⟨fun pins s σ H Q I q => by
  obtain ⟨φ, e, h, d, h', re, rh, eq, k⟩ := q
  cases eq⟩
def srcNever : Src := fun _ _ => none
theorem ni_never {tg e : Expr} : PI X tg e (tI X.K srcNever) := ⟨fun pins s σ H R I q => by
  obtain ⟨φ, e, h, n, nx, h', re, rh, eq, k⟩ := q
  cases eq⟩
theorem me_append {apos : Pos} (ho : PE X o (tM X.K mo)) (ha : PA X [a] (tA X.K m)) (hbase : attributeBase o "append" X.env (eval o X.env) = eval o X.env := by rfl)
    (hfew : ((backTo pos (starEach [a] X.env)).all (fun x => !x.1) && (backToKw pos (keywordEach [] X.env)).all (fun x => x.1.isSome) && decide ([a].length + ([] : List Keyword).length + (if ([] : List Keyword).isEmpty then 0 else 1) < 30)) = true := by rfl)
    (hline : (apos.endLine == pos.line) = true := by rfl) (hs : starEach [a] X.env = (false, eval a X.env) :: starEach [] X.env := by rfl) :
    PE X (.Call (.Attribute o "append" apos) [a] [] pos) (tM X.K (mMet gAppend mo m)) :=
  me_met PySem.F.slot_list_append PySem.F.type_list_append t_append ho ha hbase hfew hline hs rfl
theorem me_extend {apos : Pos} (ho : PE X o (tM X.K mo)) (ha : PA X [a] (tA X.K m)) (hbase : attributeBase o "extend" X.env (eval o X.env) = eval o X.env := by rfl)
    (hfew : ((backTo pos (starEach [a] X.env)).all (fun x => !x.1) && (backToKw pos (keywordEach [] X.env)).all (fun x => x.1.isSome) && decide ([a].length + ([] : List Keyword).length + (if ([] : List Keyword).isEmpty then 0 else 1) < 30)) = true := by rfl)
    (hline : (apos.endLine == pos.line) = true := by rfl) (hs : starEach [a] X.env = (false, eval a X.env) :: starEach [] X.env := by rfl) :
    PE X (.Call (.Attribute o "extend" apos) [a] [] pos) (tM X.K (mMet gExtend mo m)) :=
  me_met PySem.F.slot_list_extend PySem.F.type_list_extend t_extend ho ha hbase hfew hline hs rfl
theorem me_pop {apos : Pos} (ho : PE X o (tM X.K mo)) (hbase : attributeBase o "pop" X.env (eval o X.env) = eval o X.env := by rfl) (hline : (apos.endLine == pos.line) = true := by rfl) :
    PE X (.Call (.Attribute o "pop" apos) [] [] pos) (tM X.K (mMet0 gPop mo)) :=
  me_met0 PySem.F.slot_list_pop PySem.F.type_list_pop t_pop ho hbase hline
theorem me_popAt {apos : Pos} (ho : PE X o (tM X.K mo)) (ha : PA X [a] (tA X.K m)) (hbase : attributeBase o "pop" X.env (eval o X.env) = eval o X.env := by rfl)
    (hfew : ((backTo pos (starEach [a] X.env)).all (fun x => !x.1) && (backToKw pos (keywordEach [] X.env)).all (fun x => x.1.isSome) && decide ([a].length + ([] : List Keyword).length + (if ([] : List Keyword).isEmpty then 0 else 1) < 30)) = true := by rfl)
    (hline : (apos.endLine == pos.line) = true := by rfl) (hs : starEach [a] X.env = (false, eval a X.env) :: starEach [] X.env := by rfl) :
    PE X (.Call (.Attribute o "pop" apos) [a] [] pos) (tM X.K (mMet gPopAt mo m)) :=
  me_met PySem.F.slot_list_pop PySem.F.type_list_pop t_popAt ho ha hbase hfew hline hs rfl
theorem room65 {k : Nat} {A : Around} (hr : Room k A) : A.units + 65 < cLine := by have := hr.un; omega
end
/-- a def of the top that keeps its reading -/
structure FnR (P : Program) (w : World) (K : PySem.W.Frag) (mg : Str → Option Value) (base : Heap) (k : Nat) (x : Str) (ps : List Str) (F : GA) (fd : FuncData) : Prop where
  ok : FnOk P w K mg base CX0 k (He.ga K x) fd ps (spF K F)
  bd : Binds K fd ps []
  kp : PySem.W.keepIn K (.ref (He.ga K x)) = true
  mg : mg x = some (.ref (He.ga K x))
  lk : ∃ (oc : Value) (od : Option Addr) (osl : Array (Option Value)), K.lookup (He.ga K x) = some ⟨oc, od, .func fd, osl⟩
theorem funD_lk {K : PySem.W.Frag} {x qual : Str} {params : Arguments} {body : List Stmt} {scope : Scope} {f : Addr} {fd : FuncData} (F : FunD K x qual params body scope [] [] f fd) : ∃ (oc : Value) (od : Option Addr) (osl : Array (Option Value)), K.lookup f = some ⟨oc, od, .func fd, osl⟩ := by
  obtain ⟨oc, od, dV, kV, doc, pm, an, cdv, ct, osl, _, lk, _⟩ := F.ex
  exact ⟨oc, od, osl, lk⟩
theorem lk_uniq {K : PySem.W.Frag} {f : Addr} {fd fd2 : FuncData} (h : ∃ (oc : Value) (od : Option Addr) (osl : Array (Option Value)), K.lookup f = some ⟨oc, od, .func fd, osl⟩) (h2 : ∃ (oc : Value) (od : Option Addr) (osl : Array (Option Value)), K.lookup f = some ⟨oc, od, .func fd2, osl⟩) : fd = fd2 := by
  obtain ⟨_, _, _, e⟩ := h
  obtain ⟨_, _, _, e2⟩ := h2
  rw [e] at e2
  have := congrArg Obj.data (Option.some.inj e2)
  exact Data.func.inj this
theorem fnR {P : Program} {w : World} {K : PySem.W.Frag} {mg : Str → Option Value} {base : Heap} {x : Str} {params : Arguments} {body : List Stmt} {scope : Scope} {fd : FuncData} {N ps : List Str} {k : Nat} {b : MS}
    (F : FunD K x x params body scope [] [] (He.ga K x) fd) (hm : mg x = some (.ref (He.ga K x))) (S : C8.scC N ps scope = true)
    (hbind : ∀ (kV doc pm : Value) (an : Option Addr) (cdv ct : Value) (us : List Value), us.length = ps.length → bindArgs (PySem.W.fnOf x x params body scope .none kV doc pm an cdv ct) ⟨us, []⟩ = pure (ps.zip us))
    (hb : ∀ (cdv : Value) (A : Around) (outer : List Env) (s : Shared) (H : Hp) (E : XK), Room k (A.deeper (PyProof.Rows.envOfC x scope s.heap.objs.size (He.ga K x) cdv)) → PSs (cxOf CX0 P w K mg base N x scope (He.ga K x) cdv A outer s H E).nox body (tS K b)) :
    FnR P w K mg base (k + 1) x ps (runF N.length ps.length b) fd :=
  ⟨fn_def F (C8.fnScope_by S) hb, F.bindsN hbind, F.kp, hm, funD_lk F⟩
section
variable {X : Cx} {a : Expr} {es : List Expr} {m : MA} {pos p : Pos}
theorem me_fn {k j : Nat} {fd : FuncData} {ps : List Str} {F : GA} {x : Str} (G : FnR X.prog X.w X.K X.mg X.base k x ps F fd) (hr : Room j X.A) (ha : PA X (a :: es) (tA X.K m))
    (hkj : k ≤ j := by decide) (hg : Gl X x := by rfl) (hdb : (x == ("__debug__" : Str)) = false := by decide) (he : starEach (a :: es) X.env = (false, eval a X.env) :: starEach es X.env := by rfl) (hpl : (backTo pos (starEach es X.env)).any (·.1) = false := by rfl) :
    PE X (.Call (.Name x p) (a :: es) [] pos) (tM X.K (mCall F m)) := me_call G.ok hr G.mg G.kp G.bd ha hkj hg hdb he hpl
end
end MX
set_option Elab.async false
set_option linter.all false
set_option maxRecDepth 100000
set_option maxHeartbeats 1000000
set_option autoImplicit false
namespace MX
open PySem PySem.Spec L2 PyProof.Rows
section
variable {X : Cx}
/-- name = {..} on one line, the name a local -/
theorem ps_setDc {i : Nat} {y : Str} {py : Pos} {kx vx tg iter : Expr} {ifs : List Expr} {scope : Scope} {own : List (Str × Nat)} {pos spos : Pos} {wi : TI} {g : TG} {tt : TT} {tk tv : TE} (hc : X.calm = true) (hN : X.N.Nodup) (hy : X.N[i]? = some y) (hyl : X.env.scope.names.lookup y = some .local)
    (hsw : swapsWith (.DictComp kx vx [⟨tg, iter, ifs, 0⟩] scope pos) (some (.Name y py)) spos.line X.env = pure true) (hi : PI X tg iter wi) (ok : BlkOk X.N X.env.scope scope own)
    (hg : ∀ (s : Shared) (H : Hp) (C : Addr) (cl : List (Str × Addr)) (fp : List Addr), PG (X.blk s H scope (compEnvC scope cl C X.env) fp) tg g) (ht : ∀ (s : Shared) (H : Hp) (C : Addr) (cl : List (Str × Addr)) (fp : List Addr), PTs (X.blk s H scope (compEnvC scope cl C X.env) fp) ifs tt)
    (hk : ∀ (s : Shared) (H : Hp) (C : Addr) (cl : List (Str × Addr)) (fp : List Addr), PE (X.blk s H scope (compEnvC scope cl C X.env) fp) kx tk)
    (he : ∀ (s : Shared) (H : Hp) (C : Addr) (cl : List (Str × Addr)) (fp : List Addr), PE (X.blk s H scope (compEnvC scope cl C X.env) fp) vx tv) (hs : ∀ x, foldedSetIterable iter X.env x = pure x := by intro _; rfl) :
    PS X (.Assign [.Name y py] (.DictComp kx vx [⟨tg, iter, ifs, 0⟩] scope pos) spos) (tAsg (tDc wi g tt tk tv (own.map (·.2))) (gName i)) := by
  refine ⟨fun pins s σ H D I h => ?_⟩
  rw [exec_Assign_Name_used _ _ _ _ hsw]
  refine wpAny_bind (wpAny_standAt (wpAny_bind ?_))
  show wpAny _ X.A (do let _ ← comprehension (.DictComp kx vx [⟨tg, iter, ifs, 0⟩] scope pos) scope X.env (firstIterPos [⟨tg, iter, ifs, 0⟩] pos) newDict false (eval iter X.env) (some (assign (.Name y py) X.env))) _ _ s
  have h : tDc wi g tt tk tv (own.map (·.2)) σ H (fun x H1 => gName i x σ H1 D.nx) := h
  refine wpAny_bind (thn (dc_core (Qf := fun _ s' => SP X pins D .next s') hc hN I hi ok hg ht hk he hs h fun L C s' m H' I' q hn f => ?_) fun _ s' hq => wpAny_pure (wpAny_pure hq))
  show wpAny _ _ (assign (.Name y py) X.env (.ref L)) _ _ _
  refine wpAny_assign_Name (store_ok2 (v := V.ref L) I' hN hy (.inl hyl) rfl (fun s2 I2 ⟨a, sb, ha⟩ => ?_) (.inr hyl))
  obtain ⟨f0, f1, f2, f3, f4, f5⟩ := f
  have haC : C ≠ a := by
    rcases ha with z | z
    · rw [z]; exact f1
    · exact fun e => f4 y a z e.symm
  refine ⟨m, hn.sameBut sb haC, fun h3 sb3 => ?_⟩
  exact ⟨_, H', I2.turned (t' := s2.toks) (fun b o hb e => (sb3.2 b hb).trans e) f0 f1 f3 f4 f5, q⟩
theorem sw_trueD {kx vx : Expr} {gs : List Comprehension} {scope : Scope} {pos py : Pos} {y : Str} {l : Nat} {env : Env} (hk : env.scope.kind = .function) (hy : env.scope.names.lookup y = some .local) (hl : (py.line == pos.line) = true)
    (ha : (scope.names.any fun (n, k) => n == y && (k == .local || k == .cell)) = false) : swapsWith (.DictComp kx vx gs scope pos) (some (.Name y py)) l env = pure true := by
  have ky : env.kindOf y = some .local := hy
  have hb : env.blockKind = .function := by unfold Env.blockKind; rw [hk]; rfl
  unfold swapsWith
  simp only [hb, ky, ha, Expr.pos, hl]
  rfl
theorem ms_setDc {i : Nat} {y : Str} {py : Pos} {kx vx tg iter : Expr} {ifs : List Expr} {scope : Scope} {own : List (Str × Nat)} {pos spos : Pos} {s : Src} {t : Tg} {tt : MT} {tk tv : ME} (hc : X.calm = true) (hN : X.N.Nodup)
    (hi : PI X tg iter (tI X.K s)) (ok : blkC X.N X.env.scope scope own = true)
    (hg : ∀ (s : Shared) (H : Hp) (C : Addr) (cl : List (Str × Addr)) (fp : List Addr), PG (X.blk s H scope (compEnvC scope cl C X.env) fp) tg (tG X.K t)) (ht : ∀ (s : Shared) (H : Hp) (C : Addr) (cl : List (Str × Addr)) (fp : List Addr), PTs (X.blk s H scope (compEnvC scope cl C X.env) fp) ifs (tT X.K tt))
    (hk : ∀ (s : Shared) (H : Hp) (C : Addr) (cl : List (Str × Addr)) (fp : List Addr), PE (X.blk s H scope (compEnvC scope cl C X.env) fp) kx (tM X.K tk))
    (he : ∀ (s : Shared) (H : Hp) (C : Addr) (cl : List (Str × Addr)) (fp : List Addr), PE (X.blk s H scope (compEnvC scope cl C X.env) fp) vx (tM X.K tv))
    (hsw : swapsWith (.DictComp kx vx [⟨tg, iter, ifs, 0⟩] scope pos) (some (.Name y py)) spos.line X.env = pure true) (hy : X.N[i]? = some y := by rfl) (hyl : X.env.scope.names.lookup y = some .local := by rfl) (hsl : t.sl.all (fun i => (own.map (·.2)).contains i) = true := by rfl) (hs : ∀ x, foldedSetIterable iter X.env x = pure x := by intro _; rfl) :
    PS X (.Assign [.Name y py] (.DictComp kx vx [⟨tg, iter, ifs, 0⟩] scope pos) spos) (tAsg (tM X.K (mDc s t tt tk tv (own.map (·.2)))) (gName i)) := by
  refine L2.PS.conseq (ps_setDc hc hN hy hyl hsw hi (blkOk_by ok) hg ht hk he hs) ?_
  intro D σ H q
  exact tDc_of (by simpa using hsl) q
end
end MX
set_option Elab.async false
set_option linter.all false
set_option maxRecDepth 100000
set_option maxHeartbeats 1000000
set_option autoImplicit false
/-! sorted(range(n), key=lambda x: body) -/
namespace MX
open PySem PySem.Spec L2 PyProof.Rows LamX NdefX
open PySem.W (EachIs AllAlike Sortable SortsAt dataLe sortVals)
/-- one of ours that stood untracked is tracked from now on -/
theorem inv_track {X : Cx} {pins : List (Addr × Obj)} {σ : L2.St} {H : Hp} {s : Shared} {a : Addr} {o : HO} (I : Inv X pins σ H s) (hf : FpOk X pins H a) (new : ObjOk X.prog X.w (upd H a o) s.heap a o) : Inv X pins σ (upd H a o) s := by
  have hn : H a = none := hf.1
  refine I.step (h' := s.heap) (t' := s.toks) (g' := s.gens) (d' := s.drawn) (ch := [a]) (fun b hb => ?_) (fun b o _ _ hc e _ => e) (fun b o _ _ hc e _ => ⟨o.slots, e⟩)
    (fun b o hc e n => ?_) (fun b o hc e => ⟨o, e⟩) (fun b xs e => ?_) (fun b o u e => ?_) (fun b ps e => ⟨#[], ?_⟩) (fun m hm => hm) (fun b u e => ?_) I.bare
  · have : b = a := by simpa using hb
    subst this
    exact ⟨hf.2.2.2.1, hf.2.1, hf.2.2.2.2.1, hf.2.2.2.2.2⟩
  · rw [upd_ne (fun z => hc (by simp [z]))]; exact n
  · rw [upd_ne (ne_of_none e hn)]; exact e
  · rw [upd_ne (ne_of_none e hn)]; exact e
  · rw [upd_ne (ne_of_none e hn), e]; simp
  · by_cases hb : b = a
    · subst hb
      rw [upd_same] at e
      cases e
      exact new
    · rw [upd_ne hb] at e
      exact (I.hok b u e).stay (fun c v hc q => q) (fun c q => by rw [upd_ne (ne_of_none q hn)]; exact q) fun c xs q => by rw [upd_ne (ne_of_none q hn)]; exact q
/-- the slots of the lambda's body -/
def lamE (e : En) (js : List Nat) (n : Nat) (x : Int) : En := .p (.int x) :: (js.map fun j => e.getD j .und) ++ List.replicate n .und
theorem re_lam {K : PySem.W.Frag} {φ : List Addr} {H : Hp} {e : En} {σ : L2.St} (re : RE K φ H e σ) (js : List Nat) (N : List Str) (n : Nat) (hn : N.length = 1 + js.length + n) (x : Int) : RE K φ H (lamE e js n x) (startF N [V.int x] (js.map (NdefX.slotAt σ))) := by
  have key : startF N [V.int x] (js.map (NdefX.slotAt σ)) = some (V.int x) :: ((js.map (NdefX.slotAt σ)) ++ List.replicate n none) := by
    unfold startF
    have : N.length - [V.int x].length - (js.map (NdefX.slotAt σ)).length = n := by rw [List.length_map, hn]; simp; omega
    rw [this]
    rfl
  rw [key]
  refine ⟨by simp [lamE], fun i d hd => ?_⟩
  unfold lamE at hd
  cases i with
  | zero =>
    simp at hd
    subst hd
    exact .inr ⟨_, rfl, .p (.int x)⟩
  | succ i =>
    simp only [List.cons_append, List.getElem?_cons_succ] at hd ⊢
    by_cases hi : i < js.length
    · rw [List.getElem?_append_left (by simpa using hi), List.getElem?_map, List.getElem?_eq_getElem hi] at hd
      rw [List.getElem?_append_left (by simpa using hi), List.getElem?_map, List.getElem?_eq_getElem hi]
      simp only [Option.map_some, Option.some.injEq] at hd ⊢
      cases q : e[js[i]]? with
      | none =>
        rw [List.getD_eq_getElem?_getD, q] at hd
        exact .inl hd.symm
      | some d' =>
        rw [List.getD_eq_getElem?_getD, q] at hd
        simp at hd
        subst hd
        rcases re.2 _ _ q with z | ⟨v, hv, rv⟩
        · exact .inl z
        · exact .inr ⟨v, by rw [slotAt_of hv], rv⟩
    · rw [List.getElem?_append_right (by simpa using hi)] at hd
      exact .inl (List.eq_of_mem_replicate (List.mem_of_getElem? hd))
/-- the keys -/
noncomputable def keysOf (b : ME) (e : En) (js : List Nat) (n : Nat) (h : Hq) : List Int → Option (List Pd)
  | [] => some []
  | x :: r => match b (lamE e js n x) h with
    | some (.p k, h') => open Classical in if h' = h then (keysOf b e js n h r).map (k :: ·) else none
    | _ => none
def tup1 : Pd → Bool
  | .tuple (_ :: _) => true
  | _ => false
noncomputable def mSortKey (a : ME) (b : ME) (js : List Nat) (n : Nat) : ME := fun e h => (a e h).bind fun r => match r.1 with
  | .p (.int m) => if rgB 0 m = true then (keysOf b e js n r.2 (rgL 0 m)).bind fun ks => if alikeB ks = true ∧ ks.all tup1 = true ∧ PyData.depthAll ks ≤ 60 then
      some (.loc r.2.length, r.2 ++ [.lst ((((rgL 0 m).zip ks).mergeSort (dataLe false (·.2))).map fun q => Mv.int q.1)]) else none
    else none
  | _ => none
theorem keysOf_len {b : ME} {e : En} {js : List Nat} {n : Nat} {h : Hq} : ∀ {xs : List Int} {ks : List Pd}, keysOf b e js n h xs = some ks → ks.length = xs.length
  | [], _, q => by cases q; rfl
  | x :: r, ks, q => by
    unfold keysOf at q
    split at q
    · split at q
      · obtain ⟨ks', e1, rfl⟩ := Option.map_eq_some_iff.mp q
        simp [keysOf_len e1]
      · cases q
    · cases q
theorem keysOf_at {b : ME} {e : En} {js : List Nat} {n : Nat} {h : Hq} : ∀ {xs : List Int} {ks : List Pd}, keysOf b e js n h xs = some ks → ∀ {i : Nat} {x : Int} {k : Pd}, xs[i]? = some x → ks[i]? = some k → b (lamE e js n x) h = some (.p k, h)
  | [], _, q, i, x, k, h1, _ => by simp at h1
  | x :: r, ks, q, i, y, k, h1, h2 => by
    unfold keysOf at q
    split at q
    · rename_i k' h' eb
      split at q
      · rename_i hh
        subst hh
        obtain ⟨ks', e1, rfl⟩ := Option.map_eq_some_iff.mp q
        cases i with
        | zero => simp at h1 h2; subst h1 h2; exact eb
        | succ i => simp at h1 h2; exact keysOf_at e1 h1 h2
      · cases q
    · cases q
theorem hk_ext {H H1 : Hp} (e : ExtN H H1) : HK H H1 := fun b o i h => e b o h fun ps z => by subst z; exact i
theorem imm_code (c : Addr) (q : Str) : Imm (CodeO c q) := ⟨c, q, rfl⟩
theorem rh_ext {K : PySem.W.Frag} {φ : List Addr} {h : Hq} {H H1 : Hp} (r : RH K φ h H) (e : ExtN H H1) (t : Tabs (tabsOf K) H1) : RH K φ h H1 :=
  ⟨t, r.len, r.nd, fun n o eo => by
    obtain ⟨a, ea, ro⟩ := r.ob n o eo
    refine ⟨a, ea, ro.mono (List.prefix_refl φ) (hk_ext e) ?_⟩
    have nt : ∃ u, H a = some u ∧ ∀ ps, u ≠ .tbl ps := by
      cases o with
      | lst ds => obtain ⟨vs, e, _⟩ := ro; exact ⟨_, e, fun ps z => nomatch z⟩
      | dct t kvs =>
        cases t with
        | false => obtain ⟨vs, e, _⟩ := ro; exact ⟨_, e, fun ps z => nomatch z⟩
        | true => obtain ⟨vs, e, _⟩ := ro; exact ⟨_, e, fun ps z => nomatch z⟩
      | ins C fs =>
        obtain ⟨dx, vs, ⟨h1, h2, h3⟩, _⟩ := ro
        rcases h3 with h3 | ⟨_, h3⟩
        · exact ⟨_, h3, fun ps z => nomatch z⟩
        · exact ⟨_, h3, fun ps z => nomatch z⟩
    obtain ⟨u, eu, n⟩ := nt
    rw [eu, e a u eu n]⟩
theorem itemsOf_vals {acc : Array Value} {m : Int} (h : ItemsOf (fun i v => ∃ t, v = .int (0 + i * 1) t) acc (m - 0).toNat) : acc.toList.length = (rgL 0 m).length ∧ ∀ (i : Nat) (v : Value), acc.toList[i]? = some v → ∃ x t, (rgL 0 m)[i]? = some x ∧ v = .int x t := by
  have hl : acc.toList.length = (rgL 0 m).length := by
    rw [Array.length_toList, h.1]
    simp [rgL]
  refine ⟨hl, fun i v hv => ?_⟩
  obtain ⟨t, rfl⟩ := h.2 i v (by rw [← hv, Array.getElem?_toList])
  have hi : i < (rgL 0 m).length := by rw [← hl]; exact (List.getElem?_eq_some_iff.mp hv).1
  refine ⟨_, t, List.getElem?_eq_getElem hi, ?_⟩
  have : (rgL 0 m)[i] = 0 + (i : Int) * 1 := by simp [rgL]
  rw [this]
section
variable {X : Cx} {pins : List (Addr × Obj)} {σ : L2.St} {H : Hp} {s : Shared}
/-- one call of the lambda -/
theorem lam_turn {params : Arguments} {body : Expr} {scope : Scope} {pm ctv : Value} {f c' : Addr} {px : Str} {N fr : List Str} {js : List Nat} {k n : Nat} {b : ME} {φ : List Addr} {h : Hq} {e : En} {x : Int} {t : Tok} {kd : Pd} {R : Value → Shared → Prop}
    (I : Inv X pins σ H s) (hf : s.heap.get? f = some (PySem.W.kla_obj "<lambda>" (X.env.qual ++ "<lambda>") params body scope (cloFrom X.env.cells scope.names []) pm c' ctv)) (hco : H c' = some (CodeO c' (X.env.qual ++ "<lambda>")))
    (S : NdefX.NScope N [px] fr scope) (cp : NdefX.Caps X (cloFrom X.env.cells scope.names []) fr js) (hr : Room (k + 3) X.A) (hbind : ∀ (q : Str) (cl : List (Str × Addr)) (pm cv ctv v : Value), bindArgs (PySem.W.kla_fn "<lambda>" q params body scope cl pm cv ctv) ⟨[v], []⟩ = pure [(px, v)])
    (hN : N.length = 1 + js.length + n) (hbody : ∀ (A : Around) (outer : List Env) (s : Shared) (H : Hp) (E : XK), Room k (A.deeper (NdefX.envF ⟨"<lambda>", X.env.qual ++ "<lambda>", params, [], scope, cloFrom X.env.cells scope.names [], c'⟩ f s.heap.objs.size)) →
      PE (NdefX.ncx CX0 X.prog X.w X.K X.mg X.base N ⟨"<lambda>", X.env.qual ++ "<lambda>", params, [], scope, cloFrom X.env.cells scope.names [], c'⟩ f A outer s H E).nox body (tM X.K b))
    (re : RE X.K φ H e σ) (rh : RH X.K φ h H) (eb : b (lamE e js n x) h = some (.p kd, h))
    (hR : ∀ v s' H' φ', Inv X pins σ H' s' → Un (frs X.stack) [] H H' s.heap s'.heap → φ <+: φ' → HK H H' → RH X.K φ' h H' → (∃ w, RP X.K H' kd w ∧ RelV w v) → R v s') :
    wpAny (model X.prog X.w) X.A.in1.in1 (call (.ref f) [.int x t]) R (fun _ _ => False) s := by
  have C := NdefX.cells_of I cp
  have hr2 : Room (k + 1) X.A.in1.in1 := hr.in1.in1
  obtain ⟨⟨oc, vs, tq, hoc, hdc, hvc⟩, _, _⟩ := I.hok c' _ hco
  have lim := I.nolimit
  have rc : codeAny (model X.prog X.w) X.A.in1.in1 (.call (.ref f) ⟨[.int x t], []⟩) (fun r s' => match r with
      | .ok (.ret u) => CE X.stack X.prog X.w H s (fun v H' => ∃ φ', φ <+: φ' ∧ HK H H' ∧ RH X.K φ' h H' ∧ RP X.K H' kd v) u s'
      | _ => False) s := by
    refine PySem.W.kla_callFunE hr2.depth hf rfl S.co S.gen rfl ⟨c', oc, vs, tq, rfl, hoc, hdc, hvc⟩ ?_
    rw [hbind]
    refine wpAny_pure (wpAny_newFunctionEnv S.nocell (fun y hy => ?_) (fun h₁ hns hsb => ⟨lim.fresh _ hsb, ?_⟩) S.kind)
    · have : y = (px, Value.int x t) := by simpa using hy
      subst this
      exact S.par px (by simp)
    · have kp : ∀ b o, s.heap.get? b = some o → h₁.get? b = some o := fun b o e => hsb.extBut b o (Nat.ne_of_lt (Heap.lt_size e)) (Heap.get?_push_of_some _ e)
      have J : Inv (NdefX.ncx CX0 X.prog X.w X.K X.mg X.base N ⟨"<lambda>", X.env.qual ++ "<lambda>", params, [], scope, cloFrom X.env.cells scope.names [], c'⟩ f X.A.in1.in1 X.stack s H (fun _ _ _ => False)) [] (NdefX.startF N [V.int x] (js.map (NdefX.slotAt σ))) H { s with heap := h₁, toks := s.toks + ([(px, Value.int x t)] : List (Str × Value)).length } :=
        NdefX.inv_startN (ps := [px]) (us := [.int x t]) S hr2.hd I.env0.in1.in1 rfl (.cons ⟨t, rfl⟩ .nil) C hns kp
      have hq := (hbody X.A.in1.in1 X.stack s H (fun _ _ _ => False) (hr2.deeper _)).run [] _ _ H (fun v H' => ∃ φ', φ <+: φ' ∧ HK H H' ∧ RH X.K φ' h H' ∧ RP X.K H' kd v) (J.wish _)
        ⟨φ, lamE e js n x, h, .p kd, h, re_lam re js N n hN x, rh, eb, fun φ' v H' p1 k1 rh1 rv1 => ⟨φ', p1, k1, rh1, rv1.p_inv⟩⟩
      exact PySem.W.kla_codeExpr (wpAny_mono hq (fun v s' hq => by
        obtain ⟨w', H', J', rv, q⟩ := hq
        exact ⟨w', H', J'.os, J'.bare, J'.base, J'.hok, rv, q⟩) fun e s' hq => hq.elim)
  refine wpAny_call (codeAny_mono rc fun r s' hq => ?_)
  cases r with
  | error e => exact hq.elim
  | ok fl =>
    cases fl with
    | ret u =>
      obtain ⟨w', H', os, bare, un, hok, rv, φ', p1, k1, rh1, rp⟩ := hq
      exact hR u s' H' φ' (I.call' (ch := []) os un hok bare (fun b z => absurd z (by simp))) un p1 k1 rh1 ⟨w', rp, rv⟩
    | next => exact hq.elim
    | brk => exact hq.elim
    | cont => exact hq.elim
end
end MX
set_option Elab.async false
set_option linter.all false
set_option maxRecDepth 100000
set_option maxHeartbeats 1000000
set_option autoImplicit false
namespace MX
open PySem PySem.Spec L2 PyProof.Rows LamX
open PySem.W (EachIs AllAlike Sortable SortsAt dataLe sortVals)
section
variable {X : Cx} {pins : List (Addr × Obj)} {σ : L2.St} {H : Hp} {s : Shared}
theorem nofr_of (I : Inv X pins σ H s) {b : Addr} (hb : s.heap.objs.size ≤ b) : b ∉ frs X.stack := fun z => by
  rcases List.mem_cons.mp (I.stkSub _ z) with e | e
  · have h1 := I.lt
    rw [← e] at h1
    exact Nat.lt_irrefl _ (Nat.lt_of_lt_of_le h1 hb)
  · exact I.nofs hb e
theorem fpOk_mono {H' : Hp} {b : Addr} (f : FpOk X pins H b) (hn : H' b = none) : FpOk X pins H' b := ⟨hn, f.2⟩
theorem ru_mono {K : PySem.W.Frag} {H H' : Hp} (k : HK H H') {u : Value} {d : Pd} (q : RU K H id u d) : RU K H' id u d := by
  obtain ⟨x, r, rv⟩ := q
  exact ⟨x, r.mono k, rv⟩
theorem each_snoc' {α β : Type} {R : α → β → Prop} {a : α} {b : β} (h : R a b) : ∀ {as : List α} {bs : List β}, EachIs R as bs → EachIs R (as ++ [a]) (bs ++ [b])
  | _, _, .nil => .cons h .nil
  | _, _, .cons r t => .cons r (each_snoc' h t)
theorem tup1_ok {d : Pd} (h : tup1 d = true) : ∃ x r, d = .tuple (x :: r) := by
  unfold tup1 at h
  split at h
  · exact ⟨_, _, rfl⟩
  · cases h
theorem depthAll_le : ∀ {ks : List Pd} {d : Pd}, d ∈ ks → d.depth ≤ PyData.depthAll ks
  | k :: ks, d, h => by
    rw [PyData.depthAll]
    rcases List.mem_cons.mp h with rfl | h
    · exact Nat.le_max_left _ _
    · exact Nat.le_trans (depthAll_le h) (Nat.le_max_right _ _)
theorem sortkey_core {params : Arguments} {body : Expr} {scope : Scope} {pm ctv : Value} {f c' r : Addr} {px : Str} {N fr : List Str} {js : List Nat} {k n : Nat} {b : ME} {φ : List Addr} {h : Hq} {e : En} {ks : List Pd} {Q : VK} {m : Int} {t1 t2 t3 : Tok}
    (hc : X.calm = true) (I : Inv X pins σ H s) (hra : IsRange s.heap r 0 m 1 t1 t2 t3) (hm : rgB 0 m = true)
    (hf : s.heap.get? f = some (PySem.W.kla_obj "<lambda>" (X.env.qual ++ "<lambda>") params body scope (cloFrom X.env.cells scope.names []) pm c' ctv)) (hfn : H f = none) (hfr : f ∉ frs X.stack) (hco : H c' = some (CodeO c' (X.env.qual ++ "<lambda>")))
    (S : NdefX.NScope N [px] fr scope) (cp : NdefX.Caps X (cloFrom X.env.cells scope.names []) fr js) (hr : Room (k + 3) X.A) (hbind : ∀ (q : Str) (cl : List (Str × Addr)) (pm cv ctv v : Value), bindArgs (PySem.W.kla_fn "<lambda>" q params body scope cl pm cv ctv) ⟨[v], []⟩ = pure [(px, v)])
    (hN : N.length = 1 + js.length + n) (hbody : ∀ (A : Around) (outer : List Env) (s : Shared) (H : Hp) (E : XK), Room k (A.deeper (NdefX.envF ⟨"<lambda>", X.env.qual ++ "<lambda>", params, [], scope, cloFrom X.env.cells scope.names [], c'⟩ f s.heap.objs.size)) →
      PE (NdefX.ncx CX0 X.prog X.w X.K X.mg X.base N ⟨"<lambda>", X.env.qual ++ "<lambda>", params, [], scope, cloFrom X.env.cells scope.names [], c'⟩ f A outer s H E).nox body (tM X.K b))
    (re : RE X.K φ H e σ) (rh : RH X.K φ h H) (ek : keysOf b e js n h (rgL 0 m) = some ks) (ha : alikeB ks = true) (ht : ks.all tup1 = true) (hd : PyData.depthAll ks ≤ 60)
    (hQ : ∀ a φ' H', φ <+: φ' → HK H H' → RH X.K φ' h H' → H' a = none → a ∉ φ' → Q (.ref a) (upd H' a (.lst ((((rgL 0 m).zip ks).mergeSort (dataLe false (·.2))).map fun q => V.int q.1)))) :
    wpAny (model X.prog X.w) X.A (call (.builtin "sorted") [.ref r] [(Str.ofString "key", .ref f)]) (EP X pins σ Q) X.xe s := by
  have hb := rgB_ok hm
  obtain ⟨b1, b2, b3, b4, b5⟩ := hb
  have hh := I.ok.hd hc
  refine call_function_entry_kw kind_sorted plain_sorted entry_sorted (ksk_s1 _ _) ?_
  unfold Builtin.«sorted»
  refine wpAny_bind (m := checkCount "sorted" 1 1 _) (wpAny_pure ?_)
  refine wpAny_bind (collect_range (A := X.A.in1) (n := (m - 0).toNat) hh hra (small_one b1 b2 b3 b4) (rangeSize_nat 0 m) b5 fun h' tk acc hk hi => ?_)
  obtain ⟨hal, hat⟩ := itemsOf_vals hi
  have hlr : (rgL 0 m).length = (m - 0).toNat := by simp [rgL]
  have hlen : acc.toList.length ≤ sizeLine := by rw [hal, hlr, sizeLine_eq]; omega
  have I1 : Inv X pins σ H { s with heap := h', toks := tk } := I.kept hk
  refine wpAny_bind (wpAny_newList ?_ hlen)
  have hoL : (h'.push (seqObj "list" acc.toList.toArray 0)).get? h'.objs.size = some (seqObj "list" acc.toList.toArray 0) := Heap.get?_push_size _ rfl
  generalize hvs : acc.toList = vs at hoL hlen hal hat ⊢
  generalize ea : h'.objs.size = a at hoL ⊢
  generalize eh2 : h'.push (seqObj "list" vs.toArray 0) = h2 at hoL ⊢
  have sz2 : h2.objs.size = a + 1 := by rw [← eh2, size_push', ea]
  have k2 : ∀ b o, h'.get? b = some o → h2.get? b = some o := fun b o e => by rw [← eh2]; exact Heap.get?_push_of_some _ e
  have fpA : FpOk X pins H a := I1.fpOk (Nat.le_of_eq ea) (I1.hok.fresh (Nat.le_of_eq ea))
  have frA : a ∉ frs X.stack := nofr_of I1 (Nat.le_of_eq ea)
  refine wpAny_bind (wpAny_holding (wpAny_call_entry_kw slot_list_sort ⟨_, hoL, rfl⟩ entry_list_sort ?body (ksk_l1 _ _)))
  case body =>
    rw [ksk_t1]
    unfold ksk_tree
    obtain ⟨e1, ho1⟩ : ∃ e1, (h2.update a (Obj.mapSeq fun _ => (#[] : Array Value))).get? a = some (seqObj "list" #[] e1) := ⟨_, get?_update_seq hoL fun _ => #[]⟩
    refine wpAny_bind (listItems_at hoL rfl ?_)
    refine wpAny_bind (listUpdate_at hoL rfl ?_ (by rw [List.size_toArray]; exact hlen) (Nat.zero_le _))
    refine wpAny_bind (seqEpoch_at ho1 rfl ?_)
    refine wpAny_bind (wpAny_newTuple ?_ (by show vs.length ≤ _; exact hlen))
    refine wpAny_bind (wpAny_newList ?_ (Nat.zero_le _))
    refine wpAny_holding ?_
    generalize eh3 : ((h2.update a (Obj.mapSeq fun _ => (#[] : Array Value))).push (seqObj "tuple" vs.toArray 0)).push (seqObj "list" #[] 0) = h3
    generalize ekS : ((h2.update a (Obj.mapSeq fun _ => (#[] : Array Value))).push (seqObj "tuple" vs.toArray 0)).objs.size = kS
    have skS : kS = a + 2 := by rw [← ekS, size_push', Heap.size_update, sz2]
    have hka : kS ≠ a := by omega
    have k3 : ∀ b o, b ≠ a → h2.get? b = some o → h3.get? b = some o := fun b o hb e => by
      rw [← eh3]
      exact Heap.get?_push_of_some _ (Heap.get?_push_of_some _ ((Heap.get?_update_ne _ _ _ _ hb).trans e))
    have kk : ∀ b o, s.heap.get? b = some o → h3.get? b = some o := fun b o e => k3 b o (by
      have := Heap.lt_size (hk b o e)
      rw [ea] at this
      exact Nat.ne_of_lt this) (k2 b o (hk b o e))
    have I3 : Inv X pins σ H { s with heap := h3, toks := tk } := I.kept kk
    have fpK : FpOk X pins H kS := I1.fpOk (by show h'.objs.size ≤ kS; rw [ea, skS]; exact Nat.le_add_right _ _) (I1.hok.fresh (by show h'.objs.size ≤ kS; rw [ea, skS]; exact Nat.le_add_right _ _))
    have frK : kS ∉ frs X.stack := nofr_of I1 (by show h'.objs.size ≤ kS; rw [ea, skS]; exact Nat.le_add_right _ _)
    have nk3 : h3.get? kS = some (seqObj "list" #[] 0) := by rw [← eh3, ← ekS]; exact Heap.get?_push_size _ rfl
    have na3 : h3.get? a = some (seqObj "list" #[] e1) := by rw [← eh3]; exact Heap.get?_push_of_some _ (Heap.get?_push_of_some _ ho1)
    have hkl := keysOf_len ek
    show wpAny (model X.prog X.w) X.A.in1.in1 (ksk_rest a (.ref f) false vs.toArray e1 (.ref kS)) _ _ { s with heap := h3, toks := tk }
    unfold ksk_rest
    refine wpAny_bind (wpAny_rule ?_)
    first
      | rw [List.forIn_toArray]
      | (rw [← Array.forIn_toList]; simp only [List.toList_toArray])
      | rw [← Array.forIn_toList]
    refine wpAny_bind (ksk_fold (fun i s' => ∃ (H' : Hp) (kA : Array Value) (ep : Nat) (φ' : List Addr), Inv X pins σ H' s' ∧ φ <+: φ' ∧ HK H H' ∧ RH X.K φ' h H' ∧ s'.heap.get? kS = some (seqObj "list" kA ep) ∧ H' kS = none ∧ s'.heap.get? a = some (seqObj "list" #[] e1) ∧ H' a = none ∧
        s'.heap.get? f = some (PySem.W.kla_obj "<lambda>" (X.env.qual ++ "<lambda>") params body scope (cloFrom X.env.cells scope.names []) pm c' ctv) ∧ H' f = none ∧ EachIs (RU X.K H' id) kA.toList (ks.take i)) vs 0 _
      ⟨H, #[], 0, φ, I3, List.prefix_refl φ, HK.refl H, rh, nk3, fpK.1, na3, fpA.1, kk _ _ hf, hfn, by rw [List.take_zero]; exact EachIs.nil⟩ ?step ?done)
    case step =>
      rintro j x s' hx ⟨H', kA, ep, φ', I', p', kp', rh', nk', nk0, na', na0, hf', hf0, hE⟩
      simp only [Nat.zero_add] at hE ⊢
      obtain ⟨z, t, ez, rfl⟩ := hat j x hx
      have hj : j < ks.length := by rw [hkl]; exact (List.getElem?_eq_some_iff.mp ez).1
      have ekj : ks[j]? = some ks[j] := List.getElem?_eq_getElem hj
      have eb := keysOf_at ek ez ekj
      have hz : kA.size ≤ sizeLine := by
        have h1 := hE.length
        rw [Array.length_toList, List.length_take] at h1
        rw [sizeLine_eq]
        omega
      refine wpAny_bind (wpAny_attempt (wpAny_mono (lam_turn (R := fun v s'' => ∃ H'' φ'', Inv X pins σ H'' s'' ∧ Un (frs X.stack) [] H' H'' s'.heap s''.heap ∧ φ' <+: φ'' ∧ HK H' H'' ∧ RH X.K φ'' h H'' ∧ ∃ w, RP X.K H'' ks[j] w ∧ RelV w v) (t := t) I' hf' (kp' c' _ (imm_code _ _) hco) S cp hr hbind hN hbody (re.mono p' kp') rh' eb
        fun v s'' H'' φ'' I'' un p'' k'' rh'' rv => ⟨H'', φ'', I'', un, p'', k'', rh'', rv⟩) (fun v s'' he => ?_) fun _ _ hF => hF.elim))
      obtain ⟨H'', φ'', I'', un, p'', k'', rh'', rv⟩ := he
      have nk2 := un.keep _ _ nk' nk0 frK (by simp)
      have na2 := un.keep _ _ na' na0 frA (by simp)
      have hf2 := un.keep _ _ hf' hf0 hfr (by simp)
      have nk02 := un.free _ _ nk' nk0 (by simp)
      have na02 := un.free _ _ na' na0 (by simp)
      have hf02 := un.free _ _ hf' hf0 (by simp)
      have sB := Heap.SameBut.update s''.heap kS (Obj.mapSeq (·.push v))
      obtain ⟨c2, hc2⟩ : ∃ c2, (s''.heap.update kS (Obj.mapSeq (·.push v))).get? kS = some (seqObj "list" (kA.push v) c2) := ⟨_, get?_update_seq nk2 (·.push v)⟩
      have fne : f ≠ kS := fun z => by
        rw [z, nk2] at hf2
        have := congrArg Obj.data (Option.some.inj hf2)
        cases this
      refine wpAny_bind (listUpdate_at nk2 rfl ?_ hz (by rw [Array.size_push]; exact Nat.succ_le_succ hz))
      have fpK2 : FpOk X pins H'' kS := fpOk_mono fpK nk02
      refine wpAny_pure ⟨rfl, H'', kA.push v, c2, φ'', I''.turned (it := kS) (fun b o hb e => (sB.2 b hb).trans e) nk02 fpK2.2.1 fpK2.2.2.2.1 (fun x c e => fpK2.2.2.2.2.1 x c e) fpK2.2.2.2.2.2, p'.trans p'', kp'.trans k'', rh'', hc2, nk02, (sB.2 a hka.symm).trans na2, na02, (sB.2 f fne).trans hf2, hf02, ?_⟩
      rw [Array.toList_push, List.take_add_one, ekj]
      exact each_snoc' rv (hE.mono fun u d q => ru_mono k'' q)
    case done =>
      rintro s' ⟨H', kA, ep, φ', I', p', kp', rh', nk', nk0, na', na0, hf', hf0, hE⟩
      have e3 : ks.take (0 + vs.length) = ks := List.take_of_length_le (by omega)
      rw [e3] at hE
      have hsz : kA.size = vs.length := by
        have h1 := hE.length
        rw [Array.length_toList] at h1
        omega
      refine wpAny_bind (listItems_at nk' rfl ?_)
      obtain ⟨G, g1, g2⟩ := restrict s'.heap fun b => decide (b ≠ kS)
      have kpG : PySem.W.KeepsBut a G s'.heap := fun b o hb e => by
        by_cases z : b = kS
        · rw [g2 b (by simp [z])] at e
          cases e
        · rw [← g1 b (by simp [z])]
          exact e
      have hER : EachIs (fun v d => ∃ as, Reads s'.heap v d as) kA.toList ks := hE.mono fun u d ⟨w', r, rv⟩ => r.reads I' rv
      have al := alikeB_ok ha
      have hall : AllAlike ks := fun d hd d' hd' => al.1 d hd d' hd'
      have S' : SortsAt X.prog X.w X.A.in1.in1 s' (PySem.W.dataKind s'.heap ks) kA.toList := SortsAt.data hER hall (.inl fun d hd => tup1_ok (List.all_eq_true.mp ht d hd)) fun d hd' => by
        have h1 := depthAll_le hd'
        have h2 := hr.un
        show X.A.units + 1 + 1 + d.depth < cLine
        omega
      refine PySem.W.keyH_end (κ := PySem.W.dataKind s'.heap ks) (h₁ := G) kpG (g2 kS (by simp)) nk' na' hka S' hsz hlen fun h4 tk4 c4 k4 n4 => ?_
      refine ⟨_, rfl, wpAny_pure ⟨_, rfl, ?_⟩⟩
      have keep4 : ∀ b o, b ∉ [a, kS] → s'.heap.get? b = some o → h4.get? b = some o := fun b o hb e => by
        have h1 : b ≠ a := fun z => hb (by simp [z])
        have h2 : b ≠ kS := fun z => hb (by simp [z])
        exact k4 b o h1 (by rw [g1 b (by simp [h2])]; exact e)
      have fpA' := fpOk_mono fpA na0
      have fpK' := fpOk_mono fpK nk0
      have I4 : Inv X pins σ H' { s' with heap := h4, toks := tk4 } := I'.turnedL keep4 fun b hb => by
        rcases List.mem_cons.mp hb with z | z
        · rw [z]; exact fpA'
        · rw [List.mem_singleton.mp z]; exact fpK'
      have eV : EachIs (fun (v : Value) (q : Int × Pd) => ∃ t, v = .int q.1 t) vs ((rgL 0 m).zip ks) := by
        have : ∀ {vs : List Value} {xs : List Int} {ks : List Pd}, vs.length = xs.length → ks.length = xs.length → (∀ (i : Nat) (v : Value), vs[i]? = some v → ∃ x t, xs[i]? = some x ∧ v = .int x t) → EachIs (fun (v : Value) (q : Int × Pd) => ∃ t, v = .int q.1 t) vs (xs.zip ks) := by
          intro vs
          induction vs with
          | nil =>
            intro xs ks h1 h2 _
            cases xs with
            | nil => exact .nil
            | cons _ _ => simp at h1
          | cons v vs ih =>
            intro xs ks h1 h2 h3
            cases xs with
            | nil => simp at h1
            | cons x xs =>
              cases ks with
              | nil => simp at h2
              | cons k ks =>
                obtain ⟨x', t, ex, ev⟩ := h3 0 v rfl
                simp at ex
                subst ex
                exact .cons ⟨t, ev⟩ (ih (by simpa using h1) (by simpa using h2) fun i u hu => h3 (i + 1) u (by simpa using hu))
        exact this hal hkl hat
      have ezip : ((rgL 0 m).zip ks).map (·.2) = ks := by
        have : ∀ {xs : List Int} {ks : List Pd}, ks.length = xs.length → (xs.zip ks).map (·.2) = ks := by
          intro xs
          induction xs with
          | nil => intro ks h; cases ks with
            | nil => rfl
            | cons _ _ => simp at h
          | cons x xs ih => intro ks h; cases ks with
            | nil => simp at h
            | cons k ks => simp only [List.zip_cons_cons, List.map_cons]; rw [ih (by simpa using h)]
        exact this hkl
      have kO : PySem.W.KeyedOut false (((rgL 0 m).zip ks).map (·.2)) vs (sortVals (PySem.W.dataKind s'.heap ks) false kA.toList vs) := by
        rw [ezip]
        exact ⟨s'.heap, kA.toList, hall, rfl, hER⟩
      have eo := PySem.W.keyedOut_each (β := Int × Pd) (·.2) kO eV
      have hv : Vals ((((rgL 0 m).zip ks).mergeSort (dataLe false (·.2))).map fun q => V.int q.1) (sortVals (PySem.W.dataKind s'.heap ks) false kA.toList vs) := by
        have : ∀ {us : List Value} {L : List (Int × Pd)}, EachIs (fun (v : Value) (q : Int × Pd) => ∃ t, v = .int q.1 t) us L → Vals (L.map fun q => V.int q.1) us := by
          intro us L h
          induction h with
          | nil => exact .nil
          | cons r _ ih => exact .cons r ih
        exact this eo
      have hnA : H' a = none := na0
      have I5 := inv_track (a := a) (o := .lst ((((rgL 0 m).zip ks).mergeSort (dataLe false (·.2))).map fun q => V.int q.1)) I4 fpA' ⟨by
        rw [List.length_map, List.length_mergeSort, List.length_zip, hlr, sizeLine_eq]; omega, _, c4, hv, n4⟩
      exact ⟨.ref a, _, I5, rfl, hQ a φ' H' p' kp' rh' hnA (rh'.fresh hnA)⟩
end
end MX
set_option Elab.async false
set_option linter.all false
set_option maxRecDepth 100000
set_option maxHeartbeats 1000000
set_option autoImplicit false
namespace MX
open PySem PySem.Spec L2 PyProof.Rows LamX
section
variable {X : Cx} {a : Expr} {ma : ME} {pos p p2 p3 lpos kpos : Pos}
theorem range_new {pins : List (Addr × Obj)} {s : Shared} {σ : L2.St} {H : Hp} {Q : Int → Hp → Prop} {te : TE} (hg : Gl X "range") (hm : X.mg "range" = none) (ha : PE X a te) (na : starEach [a] X.env = (false, eval a X.env) :: starEach [] X.env) (I : Inv X pins σ H s)
    (h : te σ H fun x H1 => ∃ n, x = .int n ∧ Q n H1) : wpAny (model X.prog X.w) X.A (eval (.Call (.Name "range" p2) [a] [] p3) X.env) (fun x s' => ∃ r n t u v H', x = .ref r ∧ IsRange s'.heap r 0 n 1 t u v ∧ Inv X pins σ H' s' ∧ FpOk X pins H' r ∧ Q n H') X.xe s := by
  refine Call_ (ld_blt I hg hm boot_range (PyProof.Rows.callWith_type1 (one_arg ha I h (fun v s2 x H2 I2 r q => ?_) na) na))
  obtain ⟨n, rfl, q⟩ := q
  obtain ⟨t, rfl⟩ := r
  exact call_range_1 ⟨_, n, _, _, _, H2, rfl, IsRange.new _ _ _ _ _ _ _, I2.kept fun b u e => Heap.get?_push_of_some _ e, I2.fpOk (Nat.le_refl _) (I2.hok.fresh (Nat.le_refl _)), q⟩
theorem me_sortkey {params : Arguments} {body : Expr} {scope : Scope} {px : Str} {N fr : List Str} {js : List Nat} {k n : Nat} {b : ME} {c P : Addr}
    (hc : X.calm = true) (hm : X.mg "sorted" = none) (hmr : X.mg "range" = none) (ha : PE X a (tM X.K ma))
    (TB : TabB X.base X.mg c P) (hcode : X.env.code = .ref c) (hmT : (P, X.env.qual ++ "<lambda>") ∈ tabsOf X.K) (hu : ∀ p ∈ tabsOf X.K, p.1 = P → p.2 = X.env.qual ++ "<lambda>")
    (S : NdefX.NScope N [px] fr scope) (nd : NdefX.ndefB X.env.scope scope fr = true) (hjs : js.map (fun j => X.N[j]?) = fr.map some) (hr : Room (k + 3) X.A) (hdef : defaultsOf params X.env = ([], []))
    (hbind : ∀ (q : Str) (cl : List (Str × Addr)) (pm cv ctv v : Value), bindArgs (PySem.W.kla_fn "<lambda>" q params body scope cl pm cv ctv) ⟨[v], []⟩ = pure [(px, v)]) (hN : N.length = 1 + js.length + n)
    (hbody : ∀ (f c' : Addr) (A : Around) (outer : List Env) (s : Shared) (H : Hp) (E : XK), Room k (A.deeper (NdefX.envF ⟨"<lambda>", X.env.qual ++ "<lambda>", params, [], scope, cloFrom X.env.cells scope.names [], c'⟩ f s.heap.objs.size)) →
      PE (NdefX.ncx CX0 X.prog X.w X.K X.mg X.base N ⟨"<lambda>", X.env.qual ++ "<lambda>", params, [], scope, cloFrom X.env.cells scope.names [], c'⟩ f A outer s H E).nox body (tM X.K b))
    (hg : Gl X "sorted" := by rfl) (hgr : Gl X "range" := by rfl) (na : starEach [a] X.env = (false, eval a X.env) :: starEach [] X.env := by rfl)
    (nb : starEach [.Call (.Name "range" p2) [a] [] p3] X.env = (false, eval (.Call (.Name "range" p2) [a] [] p3) X.env) :: starEach [] X.env := by rfl)
    (he : backTo pos (starEach [.Call (.Name "range" p2) [a] [] p3] X.env) = (false, eval (.Call (.Name "range" p2) [a] [] p3) X.env) :: backTo pos (starEach [] X.env) := by rfl) (hpl : (backTo pos (starEach [.Call (.Name "range" p2) [a] [] p3] X.env)).any (·.1) = false := by rfl)
    (hall : (backToKw pos (keywordEach [⟨some "key", .Lambda params body scope lpos, kpos⟩] X.env)).all (·.1.isSome) = true := by rfl) (hnone : (backToKw pos (keywordEach [⟨some "key", .Lambda params body scope lpos, kpos⟩] X.env)).any (·.1.isNone) = false := by rfl)
    (hks : (backToKw pos (keywordEach [⟨some "key", .Lambda params body scope lpos, kpos⟩] X.env)).filterMap (·.1) = [Str.ofString "key"] := by rfl) :
    PE X (.Call (.Name "sorted" p) [.Call (.Name "range" p2) [a] [] p3] [⟨some "key", .Lambda params body scope lpos, kpos⟩] pos) (tM X.K (mSortKey ma b js n)) := by
  refine ⟨fun pins s σ H Q I q => ?_⟩
  obtain ⟨φ, e, h, d, h', re, rh, eq, kk⟩ := q
  obtain ⟨⟨d1, h1⟩, e1, eq⟩ := Option.bind_eq_some_iff.mp eq
  dsimp only at eq
  split at eq
  · rename_i m
    split at eq
    · rename_i hrg
      obtain ⟨ks, ek, eq⟩ := Option.bind_eq_some_iff.mp eq
      split at eq
      · rename_i hks2
        cases eq
        obtain ⟨k1, k2, k3⟩ := hks2
        refine wpAny_Call_Name_kw (ld_blt I hg hm (u := .builtin "sorted") (by rfl) ?_ (by decide) (by decide))
        refine PyProof.Rows.callWith_kw ?_ he hpl hall hnone
        show wpAny _ _ (spliced (backTo pos (starEach [.Call (.Name "range" p2) [a] [] p3] X.env))) _ _ s
        refine PyProof.Rows.args_cons (thn (range_new (Q := fun m' H1 => m' = m ∧ ∃ φ', φ <+: φ' ∧ HK H H1 ∧ RH X.K φ' h1 H1) hgr hmr ha na I ⟨φ, e, h, _, _, re, rh, e1, fun φ' v H' p1 kp rh1 rv1 => ⟨m, rv1.int_inv, rfl, φ', p1, kp, rh1⟩⟩) fun x s1 ⟨r, m', t, u, v, H1, ex, hra, I1, fp, em, φ1, p1, kp1, rh1⟩ => PyProof.Rows.args_nil ?_) nb
        subst ex em
        show wpAny _ _ (evalAll ((do let v ← eval (.Lambda params body scope lpos) X.env; standAt pos; pure v) :: [])) _ _ s1
        have hra' := hra
        unfold IsRange at hra'
        have Ip : Inv X (pins ++ pinsAt [r] s1.heap) σ H1 s1 := I1.pinned (fun b hb => by rw [List.mem_singleton.mp hb]; exact fp) fun b hb => by
          rw [List.mem_singleton.mp hb]
          exact ⟨_, hra', fun v z => nomatch z⟩
        have L : ∀ y ∈ scope.names, y.2 = .free → ∃ c, X.env.cells.lookup y.1 = some c := fun y hy e => (NdefX.ndef_free nd y hy e).elim (fun z => I.ok.has _ (.inl z)) fun z => I.ok.has _ (.inr z)
        refine wpAny_evalAll_cons (wpAny_bind (lam_make2 Ip TB hcode hmT hu rh1.tb hdef L fun f c' pm ctv H2 s2 I2 eN T2 hf hfn hfr hco => wpAny_bind (wpAny_standAt (wpAny_pure ?_))))
        refine wpAny_evalAll_nil ?_
        have hr2 : IsRange s2.heap r 0 m' 1 t u v := (I2.pin (r, _) (List.mem_append_right _ (List.mem_append_right _ (mem_pinsAt (List.mem_singleton.mpr rfl) hra')))).1
        have I3 : Inv X pins σ H2 s2 := I2.unpinned
        have hk2 := hk_ext eN
        have rh2 := rh_ext rh1 eN T2
        rw [hks]
        show wpAny _ _ (call (.builtin "sorted") [.ref r] [(Str.ofString "key", .ref f)]) _ _ s2
        refine sortkey_core hc I3 hr2 hrg hf hfn hfr hco S (NdefX.Caps.made I.ok (NdefX.ndef_free nd) (NdefX.ndef_fr nd) hjs) hr hbind hN (fun A outer s H E hA => hbody f c' A outer s H E hA) (re.mono p1 (kp1.trans hk2)) rh2 ek k1 k2 k3 fun a' φ3 H3 p3 kp3 rh3 hn3 hm3 => ?_
        have hq : ∀ L : List (Int × Pd), RVs X.K φ3 H3 (L.map fun q => Mv.int q.1) (L.map fun q => V.int q.1) := by
          intro L
          induction L with
          | nil => exact .nil
          | cons q L ih => exact .cons (.p (.int _)) ih
        obtain ⟨r1, r2⟩ := rh3.newL hn3 (hq (((rgL 0 m').zip ks).mergeSort (PySem.W.dataLe false (·.2))))
        exact kk _ _ _ (p1.trans (p3.trans (List.prefix_append _ _))) (kp1.trans (hk2.trans (kp3.trans (HK.new hn3)))) r1 r2
      · cases eq
    · cases eq
  · cases eq
end
/-- a def that makes a lambda: its code object, its table are known -/
theorem fnRC {P : Program} {w : World} {K : PySem.W.Frag} {mg : Str → Option Value} {base : Heap} {x : Str} {params : Arguments} {body : List Stmt} {scope : Scope} {fd : FuncData} {N ps : List Str} {k : Nat} {b : MS}
    (F : FunD K x x params body scope [] [] (He.ga K x) fd) (hm : mg x = some (.ref (He.ga K x))) (S : C8.scC N ps scope = true)
    (hbind : ∀ (kV doc pm : Value) (an : Option Addr) (cdv ct : Value) (us : List Value), us.length = ps.length → bindArgs (PySem.W.fnOf x x params body scope .none kV doc pm an cdv ct) ⟨us, []⟩ = pure (ps.zip us))
    (hb : ∀ (A : Around) (outer : List Env) (s : Shared) (H : Hp) (E : XK), Room k (A.deeper (PyProof.Rows.envOfC x scope s.heap.objs.size (He.ga K x) (.ref (He.cT K (x, none)).1))) → PSs (cxOf CX0 P w K mg base N x scope (He.ga K x) (.ref (He.cT K (x, none)).1) A outer s H E).nox body (tS K b)) :
    FnR P w K mg base (k + 1) x ps (runF N.length ps.length b) fd := by
  have bd := F.bindsN hbind
  have kp := F.kp
  refine ⟨?_, bd, kp, hm, funD_lk F⟩
  obtain ⟨oc, od, dV, kV, doc, pm, an, cdv, ct, osl, e0, lk, hcd, hD, hK⟩ := F.ex
  obtain ⟨c, ec⟩ := He.codeIn_ref hcd
  have ecode : fd.code = .ref c := by rw [e0]; exact ec
  have e2 : He.codeOf K (x, none) = c := He.codeOf_eq (p := (x, none)) lk ecode
  have e3 : cdv = .ref (He.cT K (x, none)).1 := by rw [ec]; show Value.ref c = Value.ref (He.codeOf K (x, none)); rw [e2]
  subst e3
  subst e0
  refine fn_of lk hcd (C8.fnScope_by S) (fun vs H Q E h => ?_) fun A outer s H vs Q E hr h => ⟨tS K b, PSs.nox (hb A outer s H E hr), ?_⟩
  · obtain ⟨φ, h, ds, d, h', rh, rv, eq, k⟩ := h
    rw [← rv.length]
    exact runF_len _ _ _ _ _ _ eq
  · obtain ⟨φ, h, ds, d, h', rh, rv, eq, k⟩ := h
    unfold runF at eq
    split at eq
    · rename_i hl
      have rs := re_start (N := N) rv
      rw [hl] at rs
      split at eq
      · rename_i d1 e1 h1 eb
        have eq := Option.some.inj eq
        refine ⟨φ, _, h, .ret d1, e1, h1, rs, rh, eb, fun φ1 σ1 H1 p1 k1 rh1 v rv1 => ?_⟩
        obtain ⟨φ2, p2, rh2, rv2⟩ := gc_ok rh rh1 p1 rv1
        rw [eq] at rh2 rv2
        exact k φ2 v H1 p2 k1 rh2 rv2
      · rename_i e1 h1 eb
        have eq := Option.some.inj eq
        refine ⟨φ, _, h, .nx, e1, h1, rs, rh, eb, fun φ1 σ1 H1 p1 k1 rh1 _ => ?_⟩
        obtain ⟨φ2, p2, rh2, rv2⟩ := gc_ok rh rh1 p1 (RV.p (K := K) (φ := φ1) (H := H1) RP.non)
        rw [eq] at rh2 rv2
        exact k φ2 .non H1 p2 k1 rh2 rv2
      · cases eq
    · cases eq
end MX
set_option Elab.async false
set_option linter.all false
set_option maxRecDepth 100000
set_option maxHeartbeats 1000000
set_option autoImplicit false
namespace MX
open PySem PySem.Spec L2 PyProof.Rows LamX
/-- how the script may stand at the law's start -/
def ScrAt (ns : List Int) (d : Mv) (h : Hq) : Prop := (d = .fl ns ∧ h = []) ∨ (d = .loc 0 ∧ h = [.lst (ns.map Mv.int)])
theorem ScrAt.lst {ns : List Int} {d : Mv} {h : Hq} (s : ScrAt ns d h) : lstOf h d = some (ns.map Mv.int) := by
  rcases s with ⟨rfl, rfl⟩ | ⟨rfl, rfl⟩ <;> rfl
theorem law_sp {K : PySem.W.Frag} {H : Hp} {a : Addr} {ns : List Int} {F : GA} (ht : Tabs (tabsOf K) H) (hS : SqL K H a (ns.map V.int)) (hF : ∀ d h, ScrAt ns d h → ∃ h', F [d] h = some (.p (.bool true), h')) :
    spF K F [.ref a] H (fun v _ => v = .bl true) fun _ _ _ => False := by
  have frz : FrL K H a (ns.map V.int) → spF K F [.ref a] H (fun v _ => v = .bl true) fun _ _ _ => False := fun f => by
    obtain ⟨h', e⟩ := hF (.fl ns) [] (.inl ⟨rfl, rfl⟩)
    exact ⟨[], [], [.fl ns], _, h', ⟨ht, rfl, List.nodup_nil, fun n o e => by simp at e⟩, .cons (.fl f) .nil, e, fun φ' v H' _ _ _ rv => rv.bl_inv⟩
  rcases hS with (hS | hS) | hS
  · obtain ⟨h', e⟩ := hF (.loc 0) [.lst (ns.map Mv.int)] (.inr ⟨rfl, rfl⟩)
    refine ⟨[a], [.lst (ns.map Mv.int)], [.loc 0], _, h', ⟨ht, rfl, by simp, fun n o e => ?_⟩, .cons (.loc rfl) .nil, e, fun φ' v H' _ _ _ rv => rv.bl_inv⟩
    cases n with
    | zero =>
      simp at e
      subst e
      exact ⟨a, rfl, _, hS, rvs_ints _⟩
    | succ n => simp at e
  · exact frz (.inl hS)
  · exact frz (.inr hS)
theorem tabs_nil {T : List (Addr × Str)} {H : Hp} (h : ∀ p ∈ T, H p.1 = some (.tbl #[])) : Tabs T H := fun p hp => TabS.nil (h p hp)
end MX
set_option Elab.async false
set_option linter.all false
set_option maxRecDepth 100000
set_option maxHeartbeats 1000000
set_option autoImplicit false
namespace MX
open PySem PySem.Spec L2
/-! ### what an expression made and left is forgotten -/
noncomputable def mGc (m : ME) : ME := fun e h => (m e h).map fun r => gc h r.1 r.2
section
variable {X : Cx} {a : Expr} {m : ME}
theorem me_gc (ha : PE X a (tM X.K m)) : PE X a (tM X.K (mGc m)) := by
  refine ha.conseq ?_
  rintro σ H Q ⟨φ, e, h, d, h', re, rh, eq, k⟩
  obtain ⟨⟨d1, h1⟩, e1, eq⟩ := Option.map_eq_some_iff.mp eq
  refine ⟨φ, e, h, d1, h1, re, rh, e1, fun φ1 v H1 p1 k1 rh1 rv1 => ?_⟩
  obtain ⟨φ2, p2, rh2, rv2⟩ := gc_ok rh rh1 p1 rv1
  dsimp only at eq
  rw [eq] at rh2 rv2
  exact k φ2 v H1 p2 k1 rh2 rv2
end
noncomputable def tGc (t : MT) : MT := fun e h => (t e h).map fun r => (r.1, (gc h (.p (.bool r.1)) r.2).2)
theorem mt_gc {X : Cx} {a : Expr} {t : MT} (ha : PT X a (tT X.K t)) : PT X a (tT X.K (tGc t)) := by
  refine ha.conseq ?_
  rintro σ H Q ⟨φ, e, h, d, h', re, rh, eq, k⟩
  obtain ⟨⟨d1, h1⟩, e1, eq⟩ := Option.map_eq_some_iff.mp eq
  refine ⟨φ, e, h, d1, h1, re, rh, e1, fun φ1 H1 p1 k1 rh1 => ?_⟩
  obtain ⟨φ2, p2, rh2, rv2⟩ := gc_ok rh rh1 p1 (RV.p (K := X.K) (φ := φ1) (H := H1) (RP.bl d1))
  obtain ⟨rfl, rfl⟩ := Prod.mk.inj eq
  exact k φ2 H1 p2 k1 rh2
theorem oldOk_app (h g : Hq) : OldOk h (h ++ g) := fun i o hi e => .inl (by rw [List.getElem?_append_left hi] at e; exact e)
theorem oldOk_set {h : Hq} {n : Nat} {o : Mo} {g : Hq} (ho : moB h.length o = true) : OldOk h (h.set n o ++ g) := fun i u hi e => by
  rw [List.getElem?_append_left (by simpa using hi)] at e
  by_cases z : n = i
  · subst z
    rw [List.getElem?_set_self hi] at e
    cases e
    exact .inr ho
  · rw [List.getElem?_set_ne z] at e
    exact .inl e
@[simp] theorem gc_p (h g : Hq) (x : Pd) : gc h (.p x) (h ++ g) = (.p x, h) := by
  unfold gc
  rw [if_pos (oldOk_app h g)]
  simp
@[simp] theorem gc_p0 (h : Hq) (x : Pd) : gc h (.p x) h = (.p x, h) := by
  have := gc_p h [] x
  simpa using this
theorem gc_l {h g : Hq} {n : Nat} {o : Mo} (hn : h.length ≤ n) (e : (h ++ g)[n]? = some o) (b : moB h.length o = true) : gc h (.loc n) (h ++ g) = (.loc h.length, h ++ [o]) := by
  unfold gc
  rw [if_pos (oldOk_app h g)]
  simp only
  rw [if_neg (by omega)]
  simp only [e]
  rw [if_pos b]
  simp
@[simp] theorem mvsB_p (k : Nat) (xs : List Pd) : mvsB k (xs.map Mv.p) = true := by
  induction xs with
  | nil => simp [mvsB]
  | cons x xs ih => simp [mvsB, mvB, ih]
theorem mvsB_all {k : Nat} : ∀ {ds : List Mv}, (∀ d ∈ ds, ∃ x, d = .p x) → mvsB k ds = true
  | [], _ => by simp [mvsB]
  | d :: ds, h => by
    obtain ⟨x, rfl⟩ := h d List.mem_cons_self
    simp [mvsB, mvB, mvsB_all fun e he => h e (List.mem_cons_of_mem _ he)]
/-- the list that stands last -/
theorem gc_last {h : Hq} {ds : List Mv} (b : mvsB h.length ds = true) : gc h (.loc h.length) (h ++ [.lst ds]) = (.loc h.length, h ++ [.lst ds]) :=
  gc_l (Nat.le_refl _) (by simp) b
theorem gc_set {h g : Hq} {n : Nat} {o : Mo} {x : Pd} (b : moB h.length o = true) : gc h (.p x) (h.set n o ++ g) = (.p x, h.set n o) := by
  unfold gc
  rw [if_pos (oldOk_set b)]
  have : (h.set n o).length = h.length := by simp
  simp only
  rw [List.take_append_of_le_length (by omega), ← this, List.take_length]
/-! ### comprehensions -/
/-- a walk of ds that nothing disturbs -/
def NxOk (nx : Nxt) (h : Hq) (ds : List Mv) : Prop := ∀ i g, nx i (h ++ g) = some ds[i]?
theorem lcN_ev {nx : Nxt} {t : Tg} {tt : MT} {te : ME} {e0 : En} {h : Hq} {ds : List Mv} (f : Mv → Option Mv) (hn : NxOk nx h ds)
    (step : ∀ d ∈ ds, ∀ acc, ∃ e1, asg t d e0 = some e1 ∧ match f d with
      | some y => tt e1 (h ++ [.lst acc]) = some (true, h ++ [.lst acc]) ∧ te e1 (h ++ [.lst acc]) = some (y, h ++ [.lst acc])
      | none => tt e1 (h ++ [.lst acc]) = some (false, h ++ [.lst acc])) (hz : ds.length ≤ sizeLine) :
    ∀ m i acc, i + m = ds.length → acc.length ≤ i → lcN nx t tt te e0 h.length m i (h ++ [.lst acc]) = some (h ++ [.lst (acc ++ (ds.drop i).filterMap f)]) := by
  intro m
  induction m with
  | zero =>
    intro i acc hi _
    have e : nx i (h ++ [.lst acc]) = some none := by rw [hn i, List.getElem?_eq_none (by omega)]
    simp only [lcN, e]
    rw [List.drop_of_length_le (by omega)]
    simp
  | succ m ih =>
    intro i acc hi ha
    have hl : i < ds.length := by omega
    have e : nx i (h ++ [.lst acc]) = some (some ds[i]) := by rw [hn i, List.getElem?_eq_getElem hl]
    obtain ⟨e1, a1, a2⟩ := step ds[i] (List.getElem_mem hl) acc
    have ed : ds.drop i = ds[i] :: ds.drop (i + 1) := List.drop_eq_getElem_cons hl
    simp only [lcN, e, a1, Option.bind_some]
    cases hf : f ds[i] with
    | none =>
      rw [hf] at a2
      simp only at a2
      rw [a2]
      simp only [Option.bind_some, Bool.false_eq_true, if_false]
      rw [ih (i + 1) acc (by omega) (by omega), ed, List.filterMap_cons, hf]
    | some y =>
      rw [hf] at a2
      simp only at a2
      rw [a2.1]
      simp only [Option.bind_some, if_true]
      rw [a2.2]
      have ep : putL h.length y (h ++ [.lst acc]) = some (h ++ [.lst (acc ++ [y])]) := by
        unfold putL
        rw [List.getElem?_append_right (Nat.le_refl _)]
        simp only [Nat.sub_self, List.getElem?_cons_zero]
        rw [if_pos (by omega), List.set_append_right _ _ (Nat.le_refl _)]
        simp
      simp only [Option.bind_some, ep]
      rw [ih (i + 1) (acc ++ [y]) (by omega) (by simp; omega), ed, List.filterMap_cons, hf]
      simp
theorem mLc_ev {s : Src} {t : Tg} {tt : MT} {te : ME} {vs : List Nat} {e : En} {h h1 : Hq} {nx : Nxt} {ds : List Mv} (f : Mv → Option Mv) (hs : s e h = some ((ds.length, nx), h1)) (hn : NxOk nx h1 ds)
    (step : ∀ d ∈ ds, ∀ acc, ∃ e1, asg t d (wipeE e vs) = some e1 ∧ match f d with
      | some y => tt e1 (h1 ++ [.lst acc]) = some (true, h1 ++ [.lst acc]) ∧ te e1 (h1 ++ [.lst acc]) = some (y, h1 ++ [.lst acc])
      | none => tt e1 (h1 ++ [.lst acc]) = some (false, h1 ++ [.lst acc])) (hz : ds.length ≤ sizeLine) :
    mLc s t tt te vs e h = some (.loc h1.length, h1 ++ [.lst (ds.filterMap f)]) := by
  unfold mLc
  rw [hs]
  simp only [Option.bind_some]
  rw [lcN_ev f hn step hz ds.length 0 [] (by omega) (Nat.le_refl _)]
  simp
end MX
set_option Elab.async false
set_option linter.all false
set_option maxRecDepth 100000
set_option maxHeartbeats 1000000
set_option autoImplicit false
namespace MX
open PySem PySem.Spec L2
@[simp] theorem kit_ii : kitB "int" "int" = some true := by decide +kernel
@[simp] theorem kit_ib : kitB "int" "bool" = some false := by decide +kernel
@[simp] theorem kit_bi : kitB "bool" "int" = some true := by decide +kernel
@[simp] theorem kit_bb : kitB "bool" "bool" = some true := by decide +kernel
@[simp] theorem kit_tt : kitB "tuple" "tuple" = some true := by decide +kernel
@[simp] theorem kit_ss : kitB "str" "str" = some true := by decide +kernel
@[simp] theorem kit_it : kitB "int" "tuple" = some false := by decide +kernel
@[simp] theorem kit_nt : kitB "NoneType" "tuple" = some false := by decide +kernel
/-- the most general turn of a comprehension -/
theorem lcN_gen {nx : Nxt} {t : Tg} {tt : MT} {te : ME} {e0 : En} {n0 k : Nat} (P : Nat → Hq → Prop) (stop : ∀ h, P k h → nx k h = some none)
    (step : ∀ i h, i < k → P i h → ∃ d e1 b h2, nx i h = some (some d) ∧ asg t d e0 = some e1 ∧ tt e1 h = some (b, h2) ∧
      (b = true → ∃ y h3 h4, te e1 h2 = some (y, h3) ∧ putL n0 y h3 = some h4 ∧ P (i + 1) h4) ∧ (b = false → P (i + 1) h2)) :
    ∀ m i h, i + m = k → P i h → ∃ h', lcN nx t tt te e0 n0 m i h = some h' ∧ P k h' := by
  intro m
  induction m with
  | zero =>
    intro i h hi p
    have : i = k := by omega
    subst this
    exact ⟨h, by simp only [lcN, stop h p], p⟩
  | succ m ih =>
    intro i h hi p
    obtain ⟨d, e1, b, h2, a1, a2, a3, a4, a5⟩ := step i h (by omega) p
    simp only [lcN, a1, a2, a3, Option.bind_some]
    cases b with
    | true =>
      obtain ⟨y, h3, h4, b1, b2, b3⟩ := a4 rfl
      simp only [if_true, b1, b2, Option.bind_some]
      exact ih (i + 1) h4 (by omega) b3
    | false =>
      simp only [Bool.false_eq_true, if_false]
      exact ih (i + 1) h2 (by omega) (a5 rfl)
/-- a loop -/
theorem forN_gen {nx : Nxt} {t : Tg} {b : MS} {k : Nat} {R : Option (Fl × En × Hq)} (P : Nat → En → Hq → Prop) (stop : ∀ e h, P k e h → nx k h = some none) (fin : ∀ e h, P k e h → R = some (.nx, e, h))
    (step : ∀ i e h, i < k → P i e h → ∃ d e1 f e2 h2, nx i h = some (some d) ∧ asg t d e = some e1 ∧ b e1 h = some (f, e2, h2) ∧
      match f with
      | .nx => P (i + 1) e2 h2
      | .cnt => P (i + 1) e2 h2
      | .brk => R = some (.nx, e2, h2)
      | .ret d => R = some (.ret d, e2, h2)) :
    ∀ m i e h, i + m = k → P i e h → forN nx t b m i e h = R := by
  intro m
  induction m with
  | zero =>
    intro i e h hi p
    have : i = k := by omega
    subst this
    simp only [forN, stop e h p]
    exact (fin e h p).symm
  | succ m ih =>
    intro i e h hi p
    obtain ⟨d, e1, f, e2, h2, a1, a2, a3, a4⟩ := step i e h (by omega) p
    simp only [forN, a1, a2, a3, Option.bind_some]
    cases f with
    | nx => exact ih (i + 1) e2 h2 (by omega) a4
    | cnt => exact ih (i + 1) e2 h2 (by omega) a4
    | brk => exact a4.symm
    | ret d => exact a4.symm
/-- the same, the end being told -/
theorem forN_ex {nx : Nxt} {t : Tg} {b : MS} {k : Nat} (P : Nat → En → Hq → Prop) (Q : Fl → En → Hq → Prop) (stop : ∀ e h, P k e h → nx k h = some none) (fin : ∀ e h, P k e h → Q .nx e h)
    (step : ∀ i e h, i < k → P i e h → ∃ d e1 f e2 h2, nx i h = some (some d) ∧ asg t d e = some e1 ∧ b e1 h = some (f, e2, h2) ∧
      match f with
      | .nx => P (i + 1) e2 h2
      | .cnt => P (i + 1) e2 h2
      | .brk => Q .nx e2 h2
      | .ret d => Q (.ret d) e2 h2) :
    ∀ m i e h, i + m = k → P i e h → ∃ f e' h', forN nx t b m i e h = some (f, e', h') ∧ Q f e' h' := by
  intro m
  induction m with
  | zero =>
    intro i e h hi p
    have : i = k := by omega
    subst this
    exact ⟨.nx, e, h, by simp only [forN, stop e h p], fin e h p⟩
  | succ m ih =>
    intro i e h hi p
    obtain ⟨d, e1, f, e2, h2, a1, a2, a3, a4⟩ := step i e h (by omega) p
    simp only [forN, a1, a2, a3, Option.bind_some]
    cases f with
    | nx => exact ih (i + 1) e2 h2 (by omega) a4
    | cnt => exact ih (i + 1) e2 h2 (by omega) a4
    | brk => exact ⟨_, _, _, rfl, a4⟩
    | ret d => exact ⟨_, _, _, rfl, a4⟩
/-- sources -/
theorem nxOk_tup (ds : List Mv) (h : Hq) : NxOk (fun i _ => some ds[i]?) h ds := fun i g => rfl
theorem nxOk_lst {h : Hq} {d : Mv} {ds : List Mv} (e : lstOf h d = some ds) : NxOk (fun i h' => (lstOf h' d).map fun ds => ds[i]?) h ds := fun i g => by
  have : lstOf (h ++ g) d = some ds := by
    unfold lstOf at e ⊢
    split at e
    · rename_i n
      have hn : n < h.length := by
        by_cases z : n < h.length
        · exact z
        · rw [List.getElem?_eq_none (by omega)] at e
          cases e
      rw [List.getElem?_append_left hn]
      exact e
    · exact e
    · cases e
  simp only [this, Option.map_some]
theorem lstOf_app {h g : Hq} {d : Mv} {ds : List Mv} (e : lstOf h d = some ds) : lstOf (h ++ g) d = some ds := by
  have := nxOk_lst e 0 g
  unfold lstOf at e ⊢
  split at e
  · rename_i n
    have hn : n < h.length := by
      by_cases z : n < h.length
      · exact z
      · rw [List.getElem?_eq_none (by omega)] at e
        cases e
    rw [List.getElem?_append_left hn]
    exact e
  · exact e
  · cases e
theorem nxOk_rng (lo : Int) (n : Nat) (h : Hq) : NxOk (rngN lo n) h ((List.range n).map fun i => Mv.int (lo + (i : Nat))) := fun i g => by
  unfold rngN
  by_cases hi : i < n
  · rw [if_pos hi, List.getElem?_map, List.getElem?_range hi]; rfl
  · rw [if_neg hi, List.getElem?_eq_none (by simpa using hi)]
/-- a comprehension over a pure body: a map, a filter -/
theorem mLc_map {s : Src} {t : Tg} {te : ME} {vs : List Nat} {e : En} {h h1 : Hq} {nx : Nxt} {ds : List Mv} (f : Mv → Mv) (hs : s e h = some ((ds.length, nx), h1)) (hn : NxOk nx h1 ds)
    (step : ∀ d ∈ ds, ∀ acc, ∃ e1, asg t d (wipeE e vs) = some e1 ∧ te e1 (h1 ++ [.lst acc]) = some (f d, h1 ++ [.lst acc])) (hz : ds.length ≤ sizeLine) :
    mLc s t tYesM te vs e h = some (.loc h1.length, h1 ++ [.lst (ds.map f)]) := by
  rw [mLc_ev (fun d => some (f d)) hs hn (fun d hd acc => ?_) hz]
  · simp
  · obtain ⟨e1, a, b⟩ := step d hd acc
    exact ⟨e1, a, rfl, b⟩
theorem mLc_filter {s : Src} {t : Tg} {tt : MT} {te : ME} {vs : List Nat} {e : En} {h h1 : Hq} {nx : Nxt} {ds : List Mv} (p : Mv → Bool) (f : Mv → Mv) (hs : s e h = some ((ds.length, nx), h1)) (hn : NxOk nx h1 ds)
    (step : ∀ d ∈ ds, ∀ acc, ∃ e1, asg t d (wipeE e vs) = some e1 ∧ tt e1 (h1 ++ [.lst acc]) = some (p d, h1 ++ [.lst acc]) ∧ (p d = true → te e1 (h1 ++ [.lst acc]) = some (f d, h1 ++ [.lst acc]))) (hz : ds.length ≤ sizeLine) :
    mLc s t tt te vs e h = some (.loc h1.length, h1 ++ [.lst ((ds.filter p).map f)]) := by
  rw [mLc_ev (fun d => if p d = true then some (f d) else none) hs hn (fun d hd acc => ?_) hz]
  · congr 3
    have : ∀ l : List Mv, l.filterMap (fun d => if p d = true then some (f d) else none) = (l.filter p).map f := by
      intro l
      induction l with
      | nil => rfl
      | cons x l ih =>
        rw [List.filterMap_cons, List.filter_cons]
        by_cases z : p x = true
        · rw [if_pos z, if_pos z, List.map_cons, ih]
        · rw [if_neg z, if_neg z, ih]
    rw [this]
  · obtain ⟨e1, a, b, c⟩ := step d hd acc
    refine ⟨e1, a, ?_⟩
    by_cases z : p d = true
    · rw [if_pos z]
      rw [z] at b
      exact ⟨b, c z⟩
    · rw [if_neg z]
      have : p d = false := by simpa using z
      rw [this] at b
      exact b
end MX
set_option Elab.async false
set_option linter.all false
set_option maxRecDepth 100000
set_option maxHeartbeats 1000000
set_option autoImplicit false
namespace MX
open PySem PySem.Spec L2
/-! ### what is walked, told once -/
def SrcR (s : Src) (e : En) (h : Hq) (ds : List Mv) (h1 : Hq) (S : Hq → Prop) : Prop := ∃ nx, s e h = some ((ds.length, nx), h1) ∧ ∀ i h', S h' → nx i h' = some ds[i]?
abbrev SAny : Hq → Prop := fun _ => True
def SLst (d : Mv) (ds : List Mv) : Hq → Prop := fun h => lstOf h d = some ds
theorem lstOf_tup {h : Hq} {d : Mv} {ds : List Mv} (e : lstOf h d = some ds) : tupOf d = none := by
  unfold lstOf at e
  split at e
  · rfl
  · rfl
  · cases e
section
variable {e : En} {h h1 h2 : Hq} {ma mb m : ME} {args : MA} {d : Mv} {ds es : List Mv}
theorem src_tup (a : ma e h = some (d, h1)) (b : tupOf d = some ds) : SrcR (sSeq ma) e h ds h1 SAny :=
  ⟨_, by unfold sSeq; rw [a]; simp only [Option.bind_some, b], fun i h' _ => rfl⟩
theorem src_p {xs : List Pd} (a : ma e h = some (.p (.tuple xs), h1)) : SrcR (sSeq ma) e h (xs.map Mv.p) h1 SAny := src_tup a rfl
theorem src_lst (a : ma e h = some (d, h1)) (b : lstOf h1 d = some ds) : SrcR (sSeq ma) e h ds h1 (SLst d ds) :=
  ⟨fun i h' => (lstOf h' d).map fun ds => ds[i]?, by unfold sSeq; rw [a]; simp only [Option.bind_some, lstOf_tup b, b, Option.map_some], fun i h' q => by
    have q : lstOf h' d = some ds := q
    simp only [q, Option.map_some]⟩
theorem src_rng1 {j : Int} (a : args e h = some ([.p (.int j)], h1)) (b : bnd j = true) : SrcR (sRng1 args) e h ((List.range j.toNat).map fun i => Mv.int (i : Nat)) h1 SAny :=
  ⟨rngN 0 j.toNat, by unfold sRng1; rw [a]; simp only [Option.bind_some, b, if_true, List.length_map, List.length_range], fun i h' _ => by
    have := nxOk_rng 0 j.toNat h' i []
    rw [List.append_nil] at this
    rw [this]
    simp⟩
theorem src_rng2 {i j : Int} (a : args e h = some ([.p (.int i), .p (.int j)], h1)) (b : bnd i = true) (c : bnd j = true) : SrcR (sRng2 args) e h ((List.range (j - i).toNat).map fun k => Mv.int (i + (k : Nat))) h1 SAny :=
  ⟨rngN i (j - i).toNat, by unfold sRng2; rw [a]; simp only [Option.bind_some, b, c, and_self, if_true, List.length_map, List.length_range], fun k h' _ => by
    have := nxOk_rng i (j - i).toNat h' k []
    rw [List.append_nil] at this
    exact this⟩
theorem zip_get (ds es : List Mv) (i : Nat) : (match ds[i]?, es[i]? with
      | some d, some e => some (mkT [d, e])
      | _, _ => none) = ((ds.zip es).map fun p => mkT [p.1, p.2])[i]? := by
  rw [List.getElem?_map]
  cases h1 : ds[i]? with
  | none =>
    have : (ds.zip es)[i]? = none := by
      rw [List.getElem?_eq_none_iff] at h1 ⊢
      rw [List.length_zip]; omega
    rw [this]; rfl
  | some d =>
    cases h2 : es[i]? with
    | none =>
      have : (ds.zip es)[i]? = none := by
        rw [List.getElem?_eq_none_iff] at h2 ⊢
        rw [List.length_zip]; omega
      rw [this]; rfl
    | some e =>
      have : (ds.zip es)[i]? = some (d, e) := List.getElem?_zip_eq_some.mpr ⟨h1, h2⟩
      rw [this]; rfl
theorem src_zip {x y : Mv} (a : args e h = some ([x, y], h1)) (b : tupOf x = some ds) (c : tupOf y = some es) : SrcR (sZip args) e h ((ds.zip es).map fun p => mkT [p.1, p.2]) h1 SAny :=
  ⟨fun i _ => some (match ds[i]?, es[i]? with
      | some d, some e => some (mkT [d, e])
      | _, _ => none), by unfold sZip; rw [a]; simp only [Option.bind_some, b, c, List.length_map, List.length_zip] <;> rfl, fun i h' _ => congrArg some (zip_get ds es i)⟩
theorem src_zipL {x y : Mv} (a : args e h = some ([x, y], h1)) (b : lstOf h1 x = some ds) (c : lstOf h1 y = some es) : SrcR (sZip args) e h ((ds.zip es).map fun p => mkT [p.1, p.2]) h1 (fun h' => lstOf h' x = some ds ∧ lstOf h' y = some es) :=
  ⟨fun i h' => (lstOf h' x).bind fun ds => (lstOf h' y).map fun es => match ds[i]?, es[i]? with
      | some d, some e => some (mkT [d, e])
      | _, _ => none, by unfold sZip; rw [a]; simp only [Option.bind_some, lstOf_tup b, lstOf_tup c, b, c, List.length_map, List.length_zip, Option.map_some] <;> rfl, fun i h' q => by
    have q1 : lstOf h' x = some ds := q.1
    have q2 : lstOf h' y = some es := q.2
    show ((lstOf h' x).bind fun ds => (lstOf h' y).map fun es => _) = _
    rw [q1, q2]
    exact congrArg some (zip_get ds es i)⟩
theorem enum_get (ds : List Mv) (i : Nat) : ((ds[i]?).map fun d => mkT [.p (.int i), d]) = (ds.mapIdx fun i d => mkT [.p (.int i), d])[i]? := by
  rw [List.getElem?_mapIdx]
theorem src_enum {x : Mv} (a : args e h = some ([x], h1)) (b : lstOf h1 x = some ds) : SrcR (sEnumL args) e h (ds.mapIdx fun i d => mkT [.p (.int i), d]) h1 (SLst x ds) :=
  ⟨_, by unfold sEnumL; rw [a]; simp only [Option.bind_some, b, Option.map_some, List.length_mapIdx]; rfl, fun i h' q => by
    have q : lstOf h' x = some ds := q
    simp only [q, Option.map_some, enum_get]⟩
/-! ### a value that is a list -/
def EvL (m : ME) (e : En) (h : Hq) (ds : List Mv) : Prop := ∃ d g, m e h = some (d, h ++ g) ∧ lstOf (h ++ g) d = some ds
theorem last_get (h : Hq) (o : Mo) : (h ++ [o])[h.length]? = some o := by simp
theorem lst_last (h : Hq) (ds : List Mv) : lstOf (h ++ [.lst ds]) (.loc h.length) = some ds := by simp [lstOf]
theorem EvL.of {n : Nat} {g : Hq} (a : m e h = some (.loc n, h ++ g)) (b : (h ++ g)[n]? = some (.lst ds)) : EvL m e h ds := ⟨_, g, a, by simp only [lstOf, b]⟩
/-- a list that the expression made -/
def EvN (m : ME) (e : En) (h : Hq) (ds : List Mv) : Prop := ∃ n g, m e h = some (.loc n, h ++ g) ∧ (h ++ g)[n]? = some (.lst ds) ∧ h.length ≤ n
theorem EvN.l (a : EvN m e h ds) : EvL m e h ds := by
  obtain ⟨n, g, e1, e2, _⟩ := a
  exact EvL.of e1 e2
theorem EvN.new {g : Hq} (a : m e h = some (.loc (h ++ g).length, (h ++ g) ++ [.lst ds])) : EvN m e h ds := ⟨_, g ++ [.lst ds], by rw [a, List.append_assoc], by rw [← List.append_assoc]; simp, by simp⟩
theorem EvN.gc (a : EvN m e h ds) (b : mvsB h.length ds = true) : mGc m e h = some (.loc h.length, h ++ [.lst ds]) := by
  obtain ⟨n, g, e1, e2, hn⟩ := a
  unfold mGc
  rw [e1]
  simp only [Option.map_some]
  rw [gc_l hn e2 (by simpa [moB] using b)]
theorem EvN.gcN (a : EvN m e h ds) (b : mvsB h.length ds = true) : EvN (mGc m) e h ds := ⟨_, _, a.gc b, by simp, Nat.le_refl _⟩
theorem EvN.gcp {α : Type} {f : α → Pd} {l : List α} (a : EvN m e h (l.map fun x => .p (f x))) : EvN (mGc m) e h (l.map fun x => .p (f x)) := a.gcN (mvsB_all fun d hd => by
  obtain ⟨x, _, rfl⟩ := List.mem_map.mp hd
  exact ⟨_, rfl⟩)
section
variable {s : Src} {t : Tg} {tt : MT} {te : ME} {vs : List Nat} {S : Hq → Prop}
theorem lc_map {g : Hq} (f : Mv → Mv) (hs : SrcR s e h ds (h ++ g) S) (hS : ∀ g', S (h ++ g ++ g')) (hz : ds.length ≤ sizeLine)
    (step : ∀ d ∈ ds, ∀ g', ∃ e1, asg t d (wipeE e vs) = some e1 ∧ te e1 (h ++ g') = some (f d, h ++ g')) : EvN (mLc s t tYesM te vs) e h (ds.map f) := by
  obtain ⟨nx, a, b⟩ := hs
  refine EvN.new (g := g) (mLc_map f a (fun i g' => b i _ (hS g')) (fun d hd acc => ?_) hz)
  obtain ⟨e1, c1, c2⟩ := step d hd (g ++ [.lst acc])
  exact ⟨e1, c1, by rw [List.append_assoc]; exact c2⟩
theorem lc_filter {g : Hq} (p : Mv → Bool) (f : Mv → Mv) (hs : SrcR s e h ds (h ++ g) S) (hS : ∀ g', S (h ++ g ++ g')) (hz : ds.length ≤ sizeLine)
    (step : ∀ d ∈ ds, ∀ g', ∃ e1, asg t d (wipeE e vs) = some e1 ∧ tt e1 (h ++ g') = some (p d, h ++ g') ∧ (p d = true → te e1 (h ++ g') = some (f d, h ++ g'))) : EvN (mLc s t tt te vs) e h ((ds.filter p).map f) := by
  obtain ⟨nx, a, b⟩ := hs
  refine EvN.new (g := g) (mLc_filter p f a (fun i g' => b i _ (hS g')) (fun d hd acc => ?_) hz)
  obtain ⟨e1, c1, c2, c3⟩ := step d hd (g ++ [.lst acc])
  exact ⟨e1, c1, by rw [List.append_assoc]; exact c2, fun z => by rw [List.append_assoc]; exact c3 z⟩
end
theorem EvL.arg1 (a : EvL m e h ds) : ∃ d g, aCons m aNil e h = some ([d], h ++ g) ∧ lstOf (h ++ g) d = some ds := by
  obtain ⟨d, g, e1, e2⟩ := a
  exact ⟨d, g, by unfold aCons aNil; rw [e1]; rfl, e2⟩
theorem EvL.bls {f : List Bool → Bool} {bs : List Bool} (a : EvL m e h (bs.map Mv.bl)) : mGc (mCall (gBls f) (aCons m aNil)) e h = some (.p (.bool (f bs)), h) := by
  obtain ⟨d, g, e1, e2⟩ := a.arg1
  unfold mGc mCall
  rw [e1]
  simp only [Option.bind_some, gBls, e2, blsM_map, Option.map_some, gc_p]
theorem EvL.bls' {f : List Bool → Bool} {bs : List Bool} (a : EvL m e h (bs.map Mv.bl)) : ∃ g, mCall (gBls f) (aCons m aNil) e h = some (.p (.bool (f bs)), h ++ g) := by
  obtain ⟨d, g, e1, e2⟩ := a.arg1
  refine ⟨g, ?_⟩
  unfold mCall
  rw [e1]
  simp only [Option.bind_some, gBls, e2, blsM_map, Option.map_some]
theorem EvL.all {bs : List Bool} (a : EvL m e h (bs.map Mv.bl)) : mGc (mCall gAll (aCons m aNil)) e h = some (.p (.bool (bs.all id)), h) := a.bls
theorem EvL.any {bs : List Bool} (a : EvL m e h (bs.map Mv.bl)) : mGc (mCall gAny (aCons m aNil)) e h = some (.p (.bool (bs.any id)), h) := a.bls
theorem EvN.all {α : Type} {l : List α} {p : α → Bool} (a : EvN m e h (l.map fun x => .p (.bool (p x)))) : mGc (mCall gAll (aCons m aNil)) e h = some (.p (.bool (l.all p)), h) := by
  have := (show EvL m e h ((l.map p).map Mv.bl) by rw [List.map_map]; exact a.l).all
  rw [this, List.all_map]; rfl
theorem EvN.any {α : Type} {l : List α} {p : α → Bool} (a : EvN m e h (l.map fun x => .p (.bool (p x)))) : mGc (mCall gAny (aCons m aNil)) e h = some (.p (.bool (l.any p)), h) := by
  have := (show EvL m e h ((l.map p).map Mv.bl) by rw [List.map_map]; exact a.l).any
  rw [this, List.any_map]; rfl
theorem EvL.ints {f : List Int → Option Pd} {ns : List Int} {x : Pd} (a : EvL m e h (ns.map Mv.int)) (b : f ns = some x) : mGc (mCall (gInts f) (aCons m aNil)) e h = some (.p x, h) := by
  obtain ⟨d, g, e1, e2⟩ := a.arg1
  unfold mGc mCall
  rw [e1]
  simp only [Option.bind_some, gInts, e2, intsM_map, b, Option.map_some, gc_p]
theorem EvL.sum {ns : List Int} (a : EvL m e h (ns.map Mv.int)) : mGc (mCall gSum (aCons m aNil)) e h = some (.p (.int ns.sum), h) := a.ints rfl
theorem EvN.sum {α : Type} {l : List α} {f : α → Int} (a : EvN m e h (l.map fun x => .p (.int (f x)))) : mGc (mCall gSum (aCons m aNil)) e h = some (.p (.int (l.map f).sum), h) :=
  (show EvL m e h ((l.map f).map Mv.int) by rw [List.map_map]; exact a.l).sum
theorem EvL.ext {f : List Int → Int} {q : Pd → List Pd → Pd} {ns : List Int} (a : EvL m e h (ns.map Mv.int)) (b : ns ≠ []) : mGc (mCall (gExt f q) (aCons m aNil)) e h = some (.p (.int (f ns)), h) := by
  obtain ⟨d, g, e1, e2⟩ := a.arg1
  unfold mGc mCall
  rw [e1]
  simp only [Option.bind_some, gExt, e2, intsM_map, if_neg b, Option.map_some, gc_p]
theorem EvL.len (a : EvL m e h ds) : mGc (mCall gLen (aCons m aNil)) e h = some (.p (.int ds.length), h) := by
  obtain ⟨d, g, e1, e2⟩ := a.arg1
  unfold mGc mCall
  rw [e1]
  simp only [Option.bind_some, gLen, seqOf, lstOf_tup e2, e2, Option.map_some, gc_p]
theorem EvL.tup {xs : List Pd} (a : EvL m e h (xs.map Mv.p)) : mGc (mCall gTuple (aCons m aNil)) e h = some (.p (.tuple xs), h) := by
  obtain ⟨d, g, e1, e2⟩ := a.arg1
  unfold mGc mCall
  rw [e1]
  have : gTuple [d] (h ++ g) = some (.p (.tuple xs), h ++ g) := by
    unfold gTuple
    split
    · rename_i ys h0
      have h0 := (List.cons.inj h0).1
      subst h0
      cases e2
    · rename_i d' _ h0
      have h0 := (List.cons.inj h0).1
      subst h0
      rw [e2]
      simp
    · rename_i h1 h2
      exact absurd rfl (h2 d)
  simp only [Option.bind_some, this, Option.map_some, gc_p]
theorem EvN.ext {α : Type} {l : List α} {f : List Int → Int} {q : Pd → List Pd → Pd} {k : α → Int} (a : EvN m e h (l.map fun x => .p (.int (k x)))) (b : l ≠ []) : mGc (mCall (gExt f q) (aCons m aNil)) e h = some (.p (.int (f (l.map k))), h) :=
  (show EvL m e h ((l.map k).map Mv.int) by rw [List.map_map]; exact a.l).ext (by simpa using b)
theorem EvN.tup {α : Type} {l : List α} {f : α → Pd} (a : EvN m e h (l.map fun x => .p (f x))) : mGc (mCall gTuple (aCons m aNil)) e h = some (.p (.tuple (l.map f)), h) :=
  (show EvL m e h ((l.map f).map Mv.p) by rw [List.map_map]; exact a.l).tup
theorem EvN.len (a : EvN m e h ds) : mGc (mCall gLen (aCons m aNil)) e h = some (.p (.int ds.length), h) := a.l.len
end
/-! ### a def's end -/
theorem runF_p {N np : Nat} {b : MS} {ds : List Mv} {h g : Hq} {e' : En} {x : Pd} (hl : ds.length = np) (a : b (ds ++ List.replicate (N - np) .und) h = some (.ret (.p x), e', h ++ g)) : runF N np b ds h = some (.p x, h) := by
  unfold runF
  rw [if_pos hl, a]
  simp
theorem runF_p0 {N np : Nat} {b : MS} {ds : List Mv} {h : Hq} {e' : En} {x : Pd} (hl : ds.length = np) (a : b (ds ++ List.replicate (N - np) .und) h = some (.ret (.p x), e', h)) : runF N np b ds h = some (.p x, h) :=
  runF_p (g := []) hl (by rw [List.append_nil]; exact a)
def retOf : Option (Fl × En × Hq) → Option (Mv × Hq)
  | some (.ret d, _, h) => some (d, h)
  | some (.nx, _, h) => some (.p .none, h)
  | _ => none
@[simp] theorem retOf_ret (d : Mv) (e : En) (h : Hq) : retOf (some (.ret d, e, h)) = some (d, h) := rfl
@[simp] theorem retOf_nx (e : En) (h : Hq) : retOf (some (.nx, e, h)) = some (.p .none, h) := rfl
theorem runF_eq {N np : Nat} {b : MS} {ds : List Mv} {h : Hq} (e : En) (hl : ds.length = np) (he : ds ++ List.replicate (N - np) .und = e) : runF N np b ds h = (retOf (b e h)).map fun r => gc h r.1 r.2 := by
  unfold runF
  rw [if_pos hl, he]
  cases b e h with
  | none => rfl
  | some r =>
    obtain ⟨f, e', h'⟩ := r
    cases f <;> rfl
theorem runF_r {N np : Nat} {b : MS} {ds : List Mv} {h : Hq} (e : En) {x : Pd} (a : retOf (b e h) = some (.p x, h)) (hl : ds.length = np := by rfl) (he : ds ++ List.replicate (N - np) .und = e := by rfl) : runF N np b ds h = some (.p x, h) := by
  rw [runF_eq e hl he, a]
  simp
theorem runF_rg {N np : Nat} {b : MS} {ds : List Mv} {h : Hq} (e : En) (g : Hq) {x : Pd} (a : retOf (b e h) = some (.p x, h ++ g)) (hl : ds.length = np := by rfl) (he : ds ++ List.replicate (N - np) .und = e := by rfl) : runF N np b ds h = some (.p x, h) := by
  rw [runF_eq e hl he, a]
  simp
theorem retOf_sRet {m : ME} {e : En} {h : Hq} : retOf (sRet m e h) = m e h := by
  unfold sRet
  cases m e h <;> rfl
theorem sRet_p {m : ME} {e : En} {h h' : Hq} {d : Mv} (a : m e h = some (d, h')) : sRet m e h = some (.ret d, e, h') := by
  unfold sRet; rw [a]; rfl
end MX
set_option Elab.async false
set_option linter.all false
set_option maxRecDepth 100000
set_option maxHeartbeats 1000000
set_option autoImplicit false
namespace MX
open PySem PySem.Spec L2
/-! ### rules by which simp runs a body -/
section
variable (i : Nat) (x : Pd) (a b c : ME) (e : En) (h : Hq) (g g' : G2) (ma : MA) (t u : MT) (s s' : MS) (gA : GA)
@[simp] theorem r_var : mVar i e h = (match e[i]? with | some .und => none | some d => some (d, h) | none => none) := rfl
@[simp] theorem r_c : mC x e h = some (.p x, h) := rfl
@[simp] theorem r_b : mB g a b e h = (a e h).bind fun r => (b e r.2).bind fun s => g r.1 s.1 s.2 := rfl
@[simp] theorem r_u (f : G1) : mU f a e h = (a e h).bind fun r => f r.1 r.2 := rfl
@[simp] theorem r_call : mCall gA ma e h = (ma e h).bind fun r => gA r.1 r.2 := rfl
@[simp] theorem r_nil : aNil e h = some ([], h) := rfl
@[simp] theorem r_cons : aCons a ma e h = (a e h).bind fun x => (ma e x.2).bind fun y => some (x.1 :: y.1, y.2) := rfl
@[simp] theorem r_if : mIf t a b e h = (t e h).bind fun r => if r.1 = true then a e r.2 else b e r.2 := rfl
@[simp] theorem r_isi (T : String) : mIsi a T e h = (a e h).bind fun r => (tyM r.2 r.1).bind fun t => (kitB t T).map fun b => (.p (.bool b), r.2) := rfl
@[simp] theorem r_tru : tTru a e h = (a e h).bind fun r => (truM r.2 r.1).bind fun b => some (b, r.2) := rfl
@[simp] theorem r_tand : tAndM t u e h = (t e h).bind fun r => if r.1 = true then u e r.2 else some (false, r.2) := rfl
@[simp] theorem r_tor : tOrM t u e h = (t e h).bind fun r => if r.1 = true then some (true, r.2) else u e r.2 := rfl
@[simp] theorem r_tnot : tNotM t e h = (t e h).bind fun r => some (!r.1, r.2) := rfl
@[simp] theorem r_yes : tYesM e h = some (true, h) := rfl
@[simp] theorem r_seq : bSeq s s' e h = (s e h).bind fun r => match r.1 with
  | .nx => s' r.2.1 r.2.2
  | f => some (f, r.2.1, r.2.2) := rfl
@[simp] theorem r_bnil : bNil e h = some (.nx, e, h) := rfl
@[simp] theorem r_never : sNever e h = none := rfl
@[simp] theorem r_ret : sRet a e h = (a e h).map fun r => (.ret r.1, e, r.2) := rfl
@[simp] theorem r_exp : sExp a e h = (a e h).map fun r => (.nx, e, r.2) := rfl
@[simp] theorem r_sif : sIf t s s' e h = (t e h).bind fun r => if r.1 = true then s e r.2 else s' e r.2 := rfl
@[simp] theorem r_asg (T : Tg) : sAsg a T e h = (a e h).bind fun r => (asg T r.1 e).map fun e' => (.nx, e', r.2) := rfl
@[simp] theorem r_nm (d : Mv) : asg (.nm i) d e = if i < e.length then some (e.set i d) else none := rfl
@[simp] theorem r_tg (is : List Nat) (d : Mv) : asg (.tup is) d e = (tupOf d).bind fun ds => setAll is ds e := rfl
@[simp] theorem r_sa0 : setAll [] [] e = some e := rfl
@[simp] theorem r_sa1 (is : List Nat) (d : Mv) (ds : List Mv) : setAll (i :: is) (d :: ds) e = if i < e.length then setAll is ds (e.set i d) else none := rfl
@[simp] theorem r_par (is : List Nat) : sPar ma is e h = (ma e h).bind fun r => if r.1.length ≤ sizeLine then (setAll is r.1 e).map fun e' => (.nx, e', r.2) else none := rfl
@[simp] theorem r_tup : mTup ma e h = (ma e h).bind fun r => if r.1.length ≤ sizeLine then some (mkT r.1, r.2) else none := rfl
@[simp] theorem r_lst : mLst ma e h = (ma e h).bind fun r => if r.1.length ≤ sizeLine then some (.loc r.2.length, r.2 ++ [.lst r.1]) else none := rfl
@[simp] theorem r_gI (C : Int → Int → Bool) (f : Int → Int → Pd) (j k : Int) : gI C f (.p (.int j)) (.p (.int k)) h = if C j k = true then some (.p (f j k), h) else none := rfl
@[simp] theorem r_gU (f : Int → Int) (j : Int) : gU f (.p (.int j)) h = some (.p (.int (f j)), h) := rfl
@[simp] theorem r_addI (j k : Int) : gAdd (.p (.int j)) (.p (.int k)) h = some (.p (.int (j + k)), h) := rfl
@[simp] theorem r_addT (xs ys : List Pd) : gAdd (.p (.tuple xs)) (.p (.tuple ys)) h = if xs.length + ys.length ≤ sizeLine then some (.p (.tuple (xs ++ ys)), h) else none := rfl
@[simp] theorem r_ltI (j k : Int) : gLtA (.p (.int j)) (.p (.int k)) h = some (.p (.bool (decide (j < k))), h) := rfl
@[simp] theorem r_intI (j : Int) : gInt [.p (.int j)] h = some (.p (.int j), h) := rfl
@[simp] theorem r_intB (k : Bool) : gInt [.p (.bool k)] h = some (.p (.int (if k then 1 else 0)), h) := rfl
@[simp] theorem r_abs (j : Int) : gAbs [.p (.int j)] h = some (.p (.int (if j < 0 then -j else j)), h) := rfl
@[simp] theorem r_max2 (j k : Int) : gMax2 [.p (.int j), .p (.int k)] h = some (.p (.int (if k > j then k else j)), h) := rfl
@[simp] theorem r_min2 (j k : Int) : gMin2 [.p (.int j), .p (.int k)] h = some (.p (.int (if k < j then k else j)), h) := rfl
@[simp] theorem r_lenT (xs : List Pd) : gLen [.p (.tuple xs)] h = some (.p (.int xs.length), h) := by simp [gLen, seqOf, tupOf]
@[simp] theorem r_truB (k : Bool) : truM h (.p (.bool k)) = some k := rfl
@[simp] theorem r_truI (j : Int) : truM h (.p (.int j)) = some (decide (j ≠ 0)) := by
  have : (j == 0) = decide (j = 0) := rfl
  simp [truM, bne, this]
@[simp] theorem r_tyI (j : Int) : tyM h (.p (.int j)) = some "int" := rfl
@[simp] theorem r_tyB (j : Bool) : tyM h (.p (.bool j)) = some "bool" := rfl
@[simp] theorem r_tyT (j : List Pd) : tyM h (.p (.tuple j)) = some "tuple" := rfl
@[simp] theorem r_tyS (j : Str) : tyM h (.p (.str j)) = some "str" := rfl
@[simp] theorem r_tyN : tyM h (.p .none) = some "NoneType" := rfl
@[simp] theorem r_tupP (xs : List Pd) : tupOf (.p (.tuple xs)) = some (xs.map Mv.p) := rfl
@[simp] theorem r_mk0 : mkT [] = .p (.tuple []) := rfl
@[simp] theorem r_mkm {α : Type} (f : α → Pd) (l : List α) : mkT (l.map (Mv.p ∘ f)) = .p (.tuple (l.map f)) := by rw [← List.map_map, mkT_p]
@[simp] theorem r_mkm2 {α : Type} (f : α → Pd) (l : List α) : mkT (l.map fun x => Mv.p (f x)) = .p (.tuple (l.map f)) := r_mkm f l
@[simp] theorem r_mk1 (x : Pd) : mkT [.p x] = .p (.tuple [x]) := rfl
@[simp] theorem r_mk2 (x y : Pd) : mkT [.p x, .p y] = .p (.tuple [x, y]) := rfl
@[simp] theorem r_mk3 (x y z : Pd) : mkT [.p x, .p y, .p z] = .p (.tuple [x, y, z]) := rfl
@[simp] theorem r_mk4 (x y z w : Pd) : mkT [.p x, .p y, .p z, .p w] = .p (.tuple [x, y, z, w]) := rfl
@[simp] theorem r_nil2 (d : Mv) : gIsN (.p .none) (.p .none) h = some (.p (.bool true), h) := rfl
@[simp] theorem r_isT (xs : List Pd) : gIsN (.p (.tuple xs)) (.p .none) h = some (.p (.bool false), h) := rfl
@[simp] theorem r_isB (k l : Bool) : gIsN (.p (.bool k)) (.p (.bool l)) h = some (.p (.bool (decide (k = l))), h) := rfl
@[simp] theorem r_notB (k l : Bool) : gNotN (.p (.bool k)) (.p (.bool l)) h = some (.p (.bool (!decide (k = l))), h) := rfl
@[simp] theorem sl1 : 1 ≤ sizeLine := by rw [sizeLine_eq]; decide
@[simp] theorem sl2 : 2 ≤ sizeLine := by rw [sizeLine_eq]; decide
@[simp] theorem sl3 : 3 ≤ sizeLine := by rw [sizeLine_eq]; decide
@[simp] theorem sl4 : 4 ≤ sizeLine := by rw [sizeLine_eq]; decide
@[simp] theorem sl6 : 6 ≤ sizeLine := by rw [sizeLine_eq]; decide
@[simp] theorem r_met (gm : GM) : mMet gm a ma e h = (a e h).bind fun r => if (lstOf r.2 r.1).isSome = true then (ma e r.2).bind fun s => gm r.1 s.1 s.2 else none := rfl
@[simp] theorem r_lstLast (xs : List Mv) : lstOf (h ++ [.lst xs]) (.loc h.length) = some xs := lst_last h xs
@[simp] theorem r_appLast (xs : List Mv) (d : Mv) : gAppend (.loc h.length) [d] (h ++ [.lst xs]) = if xs.length < sizeLine then some (.p .none, h ++ [.lst (xs ++ [d])]) else none := by
  unfold gAppend
  simp
theorem r_bo {k : Bool} {h' : Hq} (q : a e h = some (.p (.bool k), h')) : mBo a e h = some (k, h') := by unfold mBo; rw [q]
@[simp] theorem r_boB : mBo (mB g a b) e h = (match mB g a b e h with | some (.p (.bool b), h') => some (b, h') | _ => none) := rfl
theorem r_and {k : Bool} {h' : Hq} (q : a e h = some (.p (.bool k), h')) : mAnd a b e h = if k = true then b e h' else some (.p (.bool false), h') := by
  unfold mAnd
  rw [q]
  cases k <;> rfl
theorem r_or {k : Bool} {h' : Hq} (q : a e h = some (.p (.bool k), h')) : mOr a b e h = if k = true then some (.p (.bool true), h') else b e h' := by
  unfold mOr
  rw [q]
  cases k <;> rfl
theorem r_not {k : Bool} {h' : Hq} (q : a e h = some (.p (.bool k), h')) : mNot a e h = some (.p (.bool !k), h') := by
  unfold mNot
  rw [q]
  rfl
theorem r_chain {k : Bool} {h1 h2 h3 : Hq} {d1 d2 : Mv} (q1 : a e h = some (d1, h1)) (q2 : b e h1 = some (d2, h2)) (q3 : g d1 d2 h2 = some (.p (.bool k), h3)) : mChain g g' a b c e h = if k = true then (c e h3).bind fun u => g' d2 u.1 u.2 else some (.p (.bool false), h3) := by
  unfold mChain
  rw [q1]
  simp only [Option.bind_some, q2, q3]
  cases k <;> rfl
end
-- equality of plain data
mutual
def pln : Nat → Pd → Bool
  | _, .none => true
  | _, .int _ => true
  | _, .str x => PyData.strOk x
  | n + 1, .tuple xs => plns n xs
  | _, _ => false
def plns : Nat → List Pd → Bool
  | _, [] => true
  | n, x :: xs => pln n x && plns n xs
end
mutual
theorem pln_lay : ∀ {n : Nat} {x : Pd}, pln n x = true → x.canLay0 = true ∧ x.depth ≤ n
  | n, .none, _ => by simp [PyData.canLay0, PyData.depth]
  | n, .int _, _ => by simp [PyData.canLay0, PyData.depth]
  | n, .str x, h => by
    have : PyData.strOk x = true := by cases n <;> simpa [pln] using h
    simp [PyData.canLay0, PyData.depth, this]
  | n + 1, .tuple xs, h => by
    have := plns_lay (n := n) (xs := xs) (by simpa [pln] using h)
    refine ⟨by simpa [PyData.canLay0] using this.1, ?_⟩
    rw [PyData.depth]
    omega
  | 0, .tuple _, h => by simp [pln] at h
  | n, .bool _, h => by cases n <;> simp [pln] at h
  | n, .list _, h => by cases n <;> simp [pln] at h
  | n, .dict _, h => by cases n <;> simp [pln] at h
theorem plns_lay : ∀ {n : Nat} {xs : List Pd}, plns n xs = true → PyData.canLayAll0 xs = true ∧ PyData.depthAll xs ≤ n
  | n, [], _ => by simp [PyData.canLayAll0, PyData.depthAll]
  | n, x :: xs, h => by
    have h : pln n x = true ∧ plns n xs = true := by simpa [plns] using h
    have h1 := pln_lay h.1
    have h2 := plns_lay h.2
    refine ⟨by simp [PyData.canLayAll0, h1.1, h2.1], ?_⟩
    rw [PyData.depthAll]
    omega
end
theorem pln_shaped {x : Pd} (h : pln 60 x = true) : SeqAt.shaped x = true := by
  have := pln_lay h
  unfold SeqAt.shaped
  rw [this.1, Bool.true_and, decide_eq_true_iff]
  omega
mutual
theorem pln_eqv : ∀ {n m : Nat} {x y : Pd}, pln n x = true → pln m y = true → (PyData.eqv x y = true ↔ x = y)
  | n, m, .none, y, hx, hy => by cases y <;> simp [PyData.eqv] <;> cases m <;> simp [pln] at hy
  | n, m, .int i, y, hx, hy => by cases y <;> simp [PyData.eqv] <;> cases m <;> simp [pln] at hy
  | n, m, .str i, y, hx, hy => by cases y <;> simp [PyData.eqv] <;> cases m <;> simp [pln] at hy
  | n + 1, m, .tuple xs, y, hx, hy => by
    cases y with
    | tuple ys =>
      cases m with
      | zero => simp [pln] at hy
      | succ m =>
        have := plns_eqv (n := n) (m := m) (xs := xs) (ys := ys) (by simpa [pln] using hx) (by simpa [pln] using hy)
        simpa [PyData.eqv] using this
    | bool b => cases m <;> simp [pln] at hy
    | _ => simp [PyData.eqv]
  | 0, m, .tuple _, y, h, _ => by simp [pln] at h
  | n, m, .bool _, y, h, _ => by cases n <;> simp [pln] at h
  | n, m, .list _, y, h, _ => by cases n <;> simp [pln] at h
  | n, m, .dict _, y, h, _ => by cases n <;> simp [pln] at h
theorem plns_eqv : ∀ {n m : Nat} {xs ys : List Pd}, plns n xs = true → plns m ys = true → (PyData.eqvAll xs ys = true ↔ xs = ys)
  | n, m, [], [], _, _ => by simp [PyData.eqvAll]
  | n, m, [], _ :: _, _, _ => by simp [PyData.eqvAll]
  | n, m, _ :: _, [], _, _ => by simp [PyData.eqvAll]
  | n, m, x :: xs, y :: ys, hx, hy => by
    have hx : pln n x = true ∧ plns n xs = true := by simpa [plns] using hx
    have hy : pln m y = true ∧ plns m ys = true := by simpa [plns] using hy
    have h1 := pln_eqv hx.1 hy.1
    have h2 := plns_eqv hx.2 hy.2
    rw [PyData.eqvAll, Bool.and_eq_true, h1, h2]
    simp
end
theorem eq_pln {x y : Pd} (hx : pln 60 x = true) (hy : pln 60 y = true) (b : Bool) (hb : b = true ↔ x = y) (h : Hq) : gEq (.p x) (.p y) h = some (.p (.bool b), h) := by
  have e : PyData.eqv x y = b := by
    rw [Bool.eq_iff_iff, hb]
    exact pln_eqv hx hy
  unfold gEq
  simp [datOf, eqD, pln_shaped hx, pln_shaped hy, e]
theorem ne_pln {x y : Pd} (hx : pln 60 x = true) (hy : pln 60 y = true) (b : Bool) (hb : b = true ↔ x = y) (h : Hq) : gNe (.p x) (.p y) h = some (.p (.bool !b), h) := by
  have e : PyData.eqv x y = b := by
    rw [Bool.eq_iff_iff, hb]
    exact pln_eqv hx hy
  unfold gNe
  simp [datOf, eqD, pln_shaped hx, pln_shaped hy, e]
@[simp] theorem eq_int (i j : Int) (h : Hq) : gEq (.p (.int i)) (.p (.int j)) h = some (.p (.bool (decide (i = j))), h) := eq_pln rfl rfl _ (by simp) h
@[simp] theorem ne_int (i j : Int) (h : Hq) : gNe (.p (.int i)) (.p (.int j)) h = some (.p (.bool !(decide (i = j))), h) := ne_pln rfl rfl _ (by simp) h
theorem eq_str {i j : Str} (hi : PyData.strOk i = true) (hj : PyData.strOk j = true) (h : Hq) : gEq (.p (.str i)) (.p (.str j)) h = some (.p (.bool (decide (i = j))), h) := eq_pln (by simpa [pln] using hi) (by simpa [pln] using hj) _ (by simp) h
theorem ne_str {i j : Str} (hi : PyData.strOk i = true) (hj : PyData.strOk j = true) (h : Hq) : gNe (.p (.str i)) (.p (.str j)) h = some (.p (.bool !(decide (i = j))), h) := ne_pln (by simpa [pln] using hi) (by simpa [pln] using hj) _ (by simp) h
theorem eq_bool (i j : Bool) (h : Hq) : gEq (.p (.bool i)) (.p (.bool j)) h = some (.p (.bool (decide (i = j))), h) := by
  unfold gEq
  have : PyData.eqv (.bool i) (.bool j) = decide (i = j) := by cases i <;> cases j <;> rfl
  simp [datOf, eqD, SeqAt.shaped, PyData.canLay0, PyData.depth, this]
theorem ne_bool (i j : Bool) (h : Hq) : gNe (.p (.bool i)) (.p (.bool j)) h = some (.p (.bool !(decide (i = j))), h) := by
  unfold gNe
  have : PyData.eqv (.bool i) (.bool j) = decide (i = j) := by cases i <;> cases j <;> rfl
  simp [datOf, eqD, SeqAt.shaped, PyData.canLay0, PyData.depth, this]
/-- membership in a tuple -/
theorem in_pln {x : Pd} {ys : List Pd} (hx : pln 59 x = true) (hy : plns 59 ys = true) (b : Bool) (hb : b = true ↔ x ∈ ys) (neg : Bool) (h : Hq) : gIn neg (.p x) (.p (.tuple ys)) h = some (.p (.bool (if neg = true then !b else b)), h) := by
  have e : (ys.any fun z => PyData.eqv z x) = b := by
    rw [Bool.eq_iff_iff, hb, List.any_eq_true]
    have key : ∀ {ys : List Pd}, plns 59 ys = true → ((∃ z ∈ ys, PyData.eqv z x = true) ↔ x ∈ ys) := by
      intro ys
      induction ys with
      | nil => intro _; simp
      | cons y ys ih =>
        intro h
        have h : pln 59 y = true ∧ plns 59 ys = true := by simpa [plns] using h
        have ih := ih h.2
        have e1 := pln_eqv h.1 hx
        constructor
        · rintro ⟨z, hz, q⟩
          rcases List.mem_cons.mp hz with rfl | hz
          · rw [e1.mp q]; exact List.mem_cons_self
          · exact List.mem_cons_of_mem _ (ih.mp ⟨z, hz, q⟩)
        · intro q
          rcases List.mem_cons.mp q with rfl | q
          · exact ⟨_, List.mem_cons_self, e1.mpr rfl⟩
          · obtain ⟨z, hz, w⟩ := ih.mpr q
            exact ⟨z, List.mem_cons_of_mem _ hz, w⟩
    exact key hy
  have hx60 : SeqAt.shaped x = true := by
    have := pln_lay hx
    unfold SeqAt.shaped
    rw [this.1, Bool.true_and, decide_eq_true_iff]
    omega
  have hy60 : SeqAt.shaped (.tuple ys) = true := pln_shaped (by simpa [pln] using hy)
  unfold gIn
  have e0 : dctOf h (.p (.tuple ys)) = none := rfl
  simp only [e0, datOf, Option.bind_some, hx60, hy60, and_self, if_true, e]
end MX
set_option Elab.async false
set_option linter.all false
set_option maxRecDepth 100000
set_option maxHeartbeats 1000000
set_option autoImplicit false
namespace MX
open PySem PySem.Spec L2
section
variable {α : Type} {s : Src} {t : Tg} {tt : MT} {te : ME} {vs : List Nat} {S : Hq → Prop} {e : En} {h g : Hq}
theorem lc_mapT (xs : List α) (enc out : α → Mv) (hs : SrcR s e h (xs.map enc) (h ++ g) S) (hS : ∀ g', S (h ++ g ++ g')) (hz : xs.length ≤ sizeLine)
    (step : ∀ a ∈ xs, ∀ g', ∃ e1, asg t (enc a) (wipeE e vs) = some e1 ∧ te e1 (h ++ g') = some (out a, h ++ g')) : EvN (mLc s t tYesM te vs) e h (xs.map out) := by
  obtain ⟨nx, a, b⟩ := hs
  have h1 : mLc s t tYesM te vs e h = some (.loc (h ++ g).length, (h ++ g) ++ [.lst (xs.map out)]) := by
    unfold mLc
    rw [a]
    simp only [Option.bind_some]
    have gen : ∀ (m i : Nat) (acc : List Mv), i + m = xs.length → acc.length ≤ i → lcN nx t tYesM te (wipeE e vs) (h ++ g).length m i ((h ++ g) ++ [.lst acc]) = some ((h ++ g) ++ [.lst (acc ++ (xs.drop i).map out)]) := by
      intro m
      induction m with
      | zero =>
        intro i acc hi _
        have e1 : nx i ((h ++ g) ++ [.lst acc]) = some none := by rw [b i _ (hS _), List.getElem?_eq_none (by simp; omega)]
        simp only [lcN, e1]
        rw [List.drop_of_length_le (by omega)]
        simp
      | succ m ih =>
        intro i acc hi ha
        have hl : i < xs.length := by omega
        have e1 : nx i ((h ++ g) ++ [.lst acc]) = some (some (enc xs[i])) := by rw [b i _ (hS _), List.getElem?_map, List.getElem?_eq_getElem hl]; rfl
        obtain ⟨e2, a1, a2⟩ := step xs[i] (List.getElem_mem hl) (g ++ [.lst acc])
        rw [← List.append_assoc] at a2
        have ed : xs.drop i = xs[i] :: xs.drop (i + 1) := List.drop_eq_getElem_cons hl
        have ep : putL (h ++ g).length (out xs[i]) ((h ++ g) ++ [.lst acc]) = some ((h ++ g) ++ [.lst (acc ++ [out xs[i]])]) := by
          unfold putL
          rw [List.getElem?_append_right (Nat.le_refl _)]
          simp only [Nat.sub_self, List.getElem?_cons_zero]
          rw [if_pos (by omega), List.set_append_right _ _ (Nat.le_refl _)]
          simp
        simp only [lcN, e1, a1, Option.bind_some, r_yes, if_true, a2, ep]
        rw [ih (i + 1) _ (by omega) (by simp; omega), ed]
        simp only [List.map_cons, List.append_assoc, List.cons_append, List.nil_append]
    have := gen xs.length 0 [] (by omega) (Nat.le_refl _)
    rw [List.length_map, this]
    simp
  exact EvN.new h1
theorem lc_filterT (xs : List α) (enc out : α → Mv) (p : α → Bool) (hs : SrcR s e h (xs.map enc) (h ++ g) S) (hS : ∀ g', S (h ++ g ++ g')) (hz : xs.length ≤ sizeLine)
    (step : ∀ a ∈ xs, ∀ g', ∃ e1, asg t (enc a) (wipeE e vs) = some e1 ∧ tt e1 (h ++ g') = some (p a, h ++ g') ∧ (p a = true → te e1 (h ++ g') = some (out a, h ++ g'))) : EvN (mLc s t tt te vs) e h ((xs.filter p).map out) := by
  obtain ⟨nx, a, b⟩ := hs
  have h1 : mLc s t tt te vs e h = some (.loc (h ++ g).length, (h ++ g) ++ [.lst ((xs.filter p).map out)]) := by
    unfold mLc
    rw [a]
    simp only [Option.bind_some]
    have gen : ∀ (m i : Nat) (acc : List Mv), i + m = xs.length → acc.length ≤ i → lcN nx t tt te (wipeE e vs) (h ++ g).length m i ((h ++ g) ++ [.lst acc]) = some ((h ++ g) ++ [.lst (acc ++ ((xs.drop i).filter p).map out)]) := by
      intro m
      induction m with
      | zero =>
        intro i acc hi _
        have e1 : nx i ((h ++ g) ++ [.lst acc]) = some none := by rw [b i _ (hS _), List.getElem?_eq_none (by simp; omega)]
        simp only [lcN, e1]
        rw [List.drop_of_length_le (by omega)]
        simp
      | succ m ih =>
        intro i acc hi ha
        have hl : i < xs.length := by omega
        have e1 : nx i ((h ++ g) ++ [.lst acc]) = some (some (enc xs[i])) := by rw [b i _ (hS _), List.getElem?_map, List.getElem?_eq_getElem hl]; rfl
        obtain ⟨e2, a1, a2, a3⟩ := step xs[i] (List.getElem_mem hl) (g ++ [.lst acc])
        rw [← List.append_assoc] at a2 a3
        have ed : xs.drop i = xs[i] :: xs.drop (i + 1) := List.drop_eq_getElem_cons hl
        simp only [lcN, e1, a1, a2, Option.bind_some]
        cases hp : p xs[i] with
        | true =>
          have ep : putL (h ++ g).length (out xs[i]) ((h ++ g) ++ [.lst acc]) = some ((h ++ g) ++ [.lst (acc ++ [out xs[i]])]) := by
            unfold putL
            rw [List.getElem?_append_right (Nat.le_refl _)]
            simp only [Nat.sub_self, List.getElem?_cons_zero]
            rw [if_pos (by omega), List.set_append_right _ _ (Nat.le_refl _)]
            simp
          simp only [if_true, a3 hp, ep, Option.bind_some]
          rw [ih (i + 1) _ (by omega) (by simp; omega), ed, List.filter_cons, hp]
          simp
        | false =>
          simp only [Bool.false_eq_true, if_false]
          rw [ih (i + 1) _ (by omega) (by omega), ed, List.filter_cons, hp]
          simp
    have := gen xs.length 0 [] (by omega) (Nat.le_refl _)
    rw [List.length_map, this]
    simp
  exact EvN.new h1
/-- over a tuple that stands in a value -/
theorem lc_tup {ma : ME} (xs : List α) (enc : α → Pd) (out : α → Mv) (a : ma e h = some (.p (.tuple (xs.map enc)), h)) (hz : xs.length ≤ sizeLine)
    (step : ∀ a ∈ xs, ∀ g', ∃ e1, asg t (.p (enc a)) (wipeE e vs) = some e1 ∧ te e1 (h ++ g') = some (out a, h ++ g')) : EvN (mLc (sSeq ma) t tYesM te vs) e h (xs.map out) :=
  lc_mapT (g := []) (S := SAny) xs (fun a => .p (enc a)) out (by rw [List.append_nil]; have := src_p a; rw [List.map_map] at this; exact this) (fun _ => trivial) hz step
theorem lc_tupF {ma : ME} (xs : List α) (enc : α → Pd) (out : α → Mv) (p : α → Bool) (a : ma e h = some (.p (.tuple (xs.map enc)), h)) (hz : xs.length ≤ sizeLine)
    (step : ∀ a ∈ xs, ∀ g', ∃ e1, asg t (.p (enc a)) (wipeE e vs) = some e1 ∧ tt e1 (h ++ g') = some (p a, h ++ g') ∧ (p a = true → te e1 (h ++ g') = some (out a, h ++ g'))) : EvN (mLc (sSeq ma) t tt te vs) e h ((xs.filter p).map out) :=
  lc_filterT (g := []) (S := SAny) xs (fun a => .p (enc a)) out p (by rw [List.append_nil]; have := src_p a; rw [List.map_map] at this; exact this) (fun _ => trivial) hz step
/-- over a list -/
theorem lc_lst {ma : ME} {d : Mv} (xs : List α) (enc out : α → Mv) (a : ma e h = some (d, h ++ g)) (al : lstOf (h ++ g) d = some (xs.map enc)) (hz : xs.length ≤ sizeLine)
    (step : ∀ a ∈ xs, ∀ g', ∃ e1, asg t (enc a) (wipeE e vs) = some e1 ∧ te e1 (h ++ g') = some (out a, h ++ g')) : EvN (mLc (sSeq ma) t tYesM te vs) e h (xs.map out) :=
  lc_mapT xs enc out (src_lst a al) (fun g' => lstOf_app al) hz step
theorem lc_lstF {ma : ME} {d : Mv} (xs : List α) (enc out : α → Mv) (p : α → Bool) (a : ma e h = some (d, h ++ g)) (al : lstOf (h ++ g) d = some (xs.map enc)) (hz : xs.length ≤ sizeLine)
    (step : ∀ a ∈ xs, ∀ g', ∃ e1, asg t (enc a) (wipeE e vs) = some e1 ∧ tt e1 (h ++ g') = some (p a, h ++ g') ∧ (p a = true → te e1 (h ++ g') = some (out a, h ++ g'))) : EvN (mLc (sSeq ma) t tt te vs) e h ((xs.filter p).map out) :=
  lc_filterT xs enc out p (src_lst a al) (fun g' => lstOf_app al) hz step
/-- over a range -/
theorem lc_rng {args : MA} (n : Nat) (out : Nat → Mv) (a : args e h = some ([.p (.int (n : Nat))], h)) (hb : n < 2 ^ 20) (step : ∀ k, k < n → ∀ g', ∃ e1, asg t (Mv.int (k : Nat)) (wipeE e vs) = some e1 ∧ te e1 (h ++ g') = some (out k, h ++ g')) :
    EvN (mLc (sRng1 args) t tYesM te vs) e h ((List.range n).map out) := by
  refine lc_mapT (g := []) (S := SAny) (List.range n) (fun k => Mv.int (k : Nat)) out ?_ (fun _ => trivial) (by rw [List.length_range, sizeLine_eq]; omega) fun k hk g' => step k (List.mem_range.mp hk) g'
  have := src_rng1 a (by unfold bnd; rw [decide_eq_true_iff]; omega)
  rw [List.append_nil]
  simpa using this
theorem lc_rngF {args : MA} (n : Nat) (out : Nat → Mv) (p : Nat → Bool) (a : args e h = some ([.p (.int (n : Nat))], h)) (hb : n < 2 ^ 20) (step : ∀ k, k < n → ∀ g', ∃ e1, asg t (Mv.int (k : Nat)) (wipeE e vs) = some e1 ∧ tt e1 (h ++ g') = some (p k, h ++ g') ∧ (p k = true → te e1 (h ++ g') = some (out k, h ++ g'))) :
    EvN (mLc (sRng1 args) t tt te vs) e h (((List.range n).filter p).map out) := by
  refine lc_filterT (g := []) (S := SAny) (List.range n) (fun k => Mv.int (k : Nat)) out p ?_ (fun _ => trivial) (by rw [List.length_range, sizeLine_eq]; omega) fun k hk g' => step k (List.mem_range.mp hk) g'
  have := src_rng1 a (by unfold bnd; rw [decide_eq_true_iff]; omega)
  rw [List.append_nil]
  simpa using this
end
end MX
set_option Elab.async false
set_option linter.all false
set_option maxRecDepth 100000
set_option maxHeartbeats 1000000
set_option autoImplicit false
namespace MX
open PySem PySem.Spec L2
/-! ### loops that seek -/
/-- what a seeking loop ends with -/
def FindEnd (P : En → Prop) (h : Hq) (o : Option Pd) (r : Option (Fl × En × Hq)) : Prop := match o with
  | none => ∃ e, P e ∧ r = some (.nx, e, h)
  | some v => ∃ e, r = some (.ret (.p v), e, h)
theorem for_find {α : Type} {s : Src} {t : Tg} {b : MS} {S : Hq → Prop} {e : En} {h h1 : Hq} (P : En → Prop) (xs : List α) (enc : α → Mv) (f : α → Option Pd) (hs : SrcR s e h (xs.map enc) h1 S) (hS : S h1) (he : P e)
    (step : ∀ a ∈ xs, ∀ e, P e → ∃ e1, asg t (enc a) e = some e1 ∧ FindEnd P h1 (f a) (b e1 h1)) : FindEnd P h1 (xs.findSome? f) (sFor s t b e h) := by
  obtain ⟨nx, a, c⟩ := hs
  unfold sFor
  rw [a]
  simp only [Option.bind_some, List.length_map]
  have gen : ∀ (m i : Nat) (e : En), i + m = xs.length → P e → FindEnd P h1 ((xs.drop i).findSome? f) (forN nx t b m i e h1) := by
    intro m
    induction m with
    | zero =>
      intro i e hi p
      have e1 : nx i h1 = some none := by rw [c i h1 hS, List.getElem?_eq_none (by simp; omega)]
      simp only [forN, e1]
      rw [List.drop_of_length_le (by omega)]
      exact ⟨e, p, rfl⟩
    | succ m ih =>
      intro i e hi p
      have hl : i < xs.length := by omega
      have e1 : nx i h1 = some (some (enc xs[i])) := by rw [c i h1 hS, List.getElem?_map, List.getElem?_eq_getElem hl]; rfl
      obtain ⟨e2, a1, a2⟩ := step xs[i] (List.getElem_mem hl) e p
      have ed : xs.drop i = xs[i] :: xs.drop (i + 1) := List.drop_eq_getElem_cons hl
      simp only [forN, e1, a1, Option.bind_some]
      rw [ed, List.findSome?_cons]
      cases hf : f xs[i] with
      | none =>
        rw [hf] at a2
        obtain ⟨e3, p3, a3⟩ := a2
        rw [a3]
        simp only [Option.bind_some]
        exact ih (i + 1) e3 (by omega) p3
      | some v =>
        rw [hf] at a2
        obtain ⟨e3, a3⟩ := a2
        rw [a3]
        simp only [Option.bind_some]
        exact ⟨e3, rfl⟩
  have := gen xs.length 0 e (by omega) he
  simpa using this
/-! ### dicts of whole numbers -/
def DK (h : Hq) (d : Mv) (p : Nat → Bool) : Prop := ∃ n kvs, d = .loc n ∧ h[n]? = some (.dct false kvs) ∧ ∀ x : Nat, (look kvs (.int (x : Int))).isSome = p x
theorem DK.app {h g : Hq} {d : Mv} {p : Nat → Bool} (k : DK h d p) : DK (h ++ g) d p := by
  obtain ⟨n, kvs, rfl, e, q⟩ := k
  refine ⟨n, kvs, rfl, ?_, q⟩
  rw [List.getElem?_append_left]
  · exact e
  · by_cases z : n < h.length
    · exact z
    · rw [List.getElem?_eq_none (by omega)] at e
      cases e
theorem DK.isIn {h : Hq} {d : Mv} {p : Nat → Bool} (k : DK h d p) (x : Nat) : gIn false (.p (.int (x : Int))) d h = some (.p (.bool (p x)), h) := by
  obtain ⟨n, kvs, rfl, e, q⟩ := k
  have e1 : dctOf h (.loc n) = some (false, kvs) := by
    show (match h[n]? with
      | some (.dct t kvs) => some (t, kvs)
      | _ => none) = _
    rw [e]
  have e2 : fitK false (.int (x : Int)) = true := rfl
  unfold gIn
  simp only [e1, e2, if_true, Bool.false_eq_true, if_false, q]
theorem keyEq_int (a b : Int) : keyEq (.int a) (.int b) = decide (a = b) := by
  unfold keyEq
  simp [kOf, kTup]
theorem look_put {kvs : List (Pd × Mv)} {ks : List Int} (hk : kvs.map (·.1) = ks.map PyData.int) (k : Int) (d : Mv) : (∃ ks' : List Int, (putD kvs (.int k) d).map (·.1) = ks'.map PyData.int) ∧ ∀ x : Int, (look (putD kvs (.int k) d) (.int x)).isSome = ((look kvs (.int x)).isSome || decide (x = k)) := by
  have look_mem : ∀ {kvs : List (Pd × Mv)} {ks : List Int}, kvs.map (·.1) = ks.map PyData.int → ∀ x : Int, (look kvs (.int x)).isSome = decide (x ∈ ks) := by
    intro kvs
    induction kvs with
    | nil => intro ks h x; cases ks with
      | nil => rfl
      | cons _ _ => simp at h
    | cons kv r ih => intro ks h x; cases ks with
      | nil => simp at h
      | cons k ks =>
        simp only [List.map_cons, List.cons.injEq] at h
        have := ih h.2 x
        unfold look at this ⊢
        rw [List.find?_cons, h.1, keyEq_int]
        by_cases z : k = x
        · subst z; simp
        · simp only [z, decide_false, Bool.false_eq_true]
          rw [this]
          have : x ≠ k := fun w => z w.symm
          simp [this]
  have put_keys : ∃ ks' : List Int, (putD kvs (.int k) d).map (·.1) = ks'.map PyData.int ∧ ∀ x, x ∈ ks' ↔ x ∈ ks ∨ x = k := by
    unfold putD
    have hany : (kvs.any fun kv => keyEq kv.1 (.int k)) = decide (k ∈ ks) := by
      have : ∀ {kvs : List (Pd × Mv)} {ks : List Int}, kvs.map (·.1) = ks.map PyData.int → (kvs.any fun kv => keyEq kv.1 (.int k)) = decide (k ∈ ks) := by
        intro kvs
        induction kvs with
        | nil => intro ks h; cases ks with
          | nil => rfl
          | cons _ _ => simp at h
        | cons kv r ih => intro ks h; cases ks with
          | nil => simp at h
          | cons j ks =>
            simp only [List.map_cons, List.cons.injEq] at h
            rw [List.any_cons, ih h.2, h.1, keyEq_int]
            by_cases z : j = k
            · subst z; simp
            · have : k ≠ j := fun w => z w.symm
              simp [z, this]
      exact this hk
    rw [hany]
    by_cases z : k ∈ ks
    · rw [if_pos (by simpa using z)]
      refine ⟨ks, ?_, fun x => ⟨.inl, fun h => h.elim id fun h => h ▸ z⟩⟩
      rw [← hk, List.map_map]
      refine List.map_congr_left fun kv _ => ?_
      simp only [Function.comp]
      split <;> rfl
    · rw [if_neg (by simpa using z)]
      exact ⟨ks ++ [k], by rw [List.map_append, hk]; simp, fun x => by simp⟩
  obtain ⟨ks', h1, h2⟩ := put_keys
  refine ⟨⟨ks', h1⟩, fun x => ?_⟩
  rw [look_mem h1, look_mem hk, Bool.eq_iff_iff]
  simp [h2]
theorem dc_tup {α : Type} {ma tk tv : ME} {t : Tg} {vs : List Nat} {e : En} {h : Hq} (xs : List α) (enc : α → Pd) (key : α → Nat) (v : Mv) (a : ma e h = some (.p (.tuple (xs.map enc)), h)) (hz : xs.length ≤ sizeLine)
    (step : ∀ a ∈ xs, ∀ g', ∃ e1, asg t (.p (enc a)) (wipeE e vs) = some e1 ∧ tk e1 (h ++ g') = some (.p (.int (key a : Nat)), h ++ g') ∧ tv e1 (h ++ g') = some (v, h ++ g')) :
    ∃ kvs, mDc (sSeq ma) t tYesM tk tv vs e h = some (.loc h.length, h ++ [.dct false kvs]) ∧ ∀ x : Nat, (look kvs (.int (x : Int))).isSome = decide (x ∈ xs.map key) := by
  obtain ⟨nx, a, b⟩ := src_p a
  rw [List.map_map] at a b
  unfold mDc
  rw [a]
  simp only [Option.bind_some, List.length_map]
  have gen : ∀ (m i : Nat) (kvs : List (Pd × Mv)), i + m = xs.length → kvs.length ≤ i → (∃ ks, kvs.map (·.1) = List.map PyData.int ks) → ∃ kvs', dcN nx t tYesM tk tv (wipeE e vs) h.length m i (h ++ [.dct false kvs]) = some (h ++ [.dct false kvs']) ∧
      ∀ x : Nat, (look kvs' (.int (x : Int))).isSome = ((look kvs (.int (x : Int))).isSome || decide (x ∈ (xs.drop i).map key)) := by
    intro m
    induction m with
    | zero =>
      intro i kvs hi _ _
      have e1 : nx i (h ++ [.dct false kvs]) = some none := by rw [b i _ trivial, List.getElem?_eq_none (by simp; omega)]
      refine ⟨kvs, by simp only [dcN, e1], fun x => ?_⟩
      rw [List.drop_of_length_le (by omega)]
      simp
    | succ m ih =>
      intro i kvs hi hl0 ⟨ks, hks⟩
      have hl : i < xs.length := by omega
      have e1 : nx i (h ++ [.dct false kvs]) = some (some (.p (enc xs[i]))) := by rw [b i _ trivial, List.getElem?_map, List.getElem?_eq_getElem hl]; rfl
      obtain ⟨e2, a1, a2, a3⟩ := step xs[i] (List.getElem_mem hl) [.dct false kvs]
      have ed : xs.drop i = xs[i] :: xs.drop (i + 1) := List.drop_eq_getElem_cons hl
      have ep : putC h.length (.p (.int (key xs[i] : Nat))) v (h ++ [.dct false kvs]) = some (h ++ [.dct false (putD kvs (.int (key xs[i] : Nat)) v)]) := by
        unfold putC
        rw [List.getElem?_append_right (Nat.le_refl _)]
        simp only [Nat.sub_self, List.getElem?_cons_zero]
        rw [if_pos ⟨rfl, by omega⟩, List.set_append_right _ _ (Nat.le_refl _)]
        simp
      obtain ⟨hk', hlk⟩ := look_put hks (key xs[i] : Nat) v
      have hlen : (putD kvs (.int (key xs[i] : Nat)) v).length ≤ i + 1 := by
        unfold putD
        split
        · rw [List.length_map]; omega
        · rw [List.length_append]; simp; omega
      obtain ⟨kvs', c1, c2⟩ := ih (i + 1) _ (by omega) hlen hk'
      refine ⟨kvs', by simp only [dcN, e1, a1, Option.bind_some, r_yes, if_true, a2, a3, ep, c1], fun x => ?_⟩
      rw [c2 x, hlk, ed, List.map_cons]
      have : decide ((x : Int) = (key xs[i] : Nat)) = decide (x = key xs[i]) := by
        rw [Bool.eq_iff_iff, decide_eq_true_iff, decide_eq_true_iff]
        omega
      rw [this, Bool.eq_iff_iff]
      simp only [Bool.or_eq_true, decide_eq_true_iff, List.mem_cons, or_assoc]
  obtain ⟨kvs', c1, c2⟩ := gen xs.length 0 [] (by omega) (by simp) ⟨[], rfl⟩
  refine ⟨kvs', by rw [c1]; rfl, fun x => ?_⟩
  rw [c2 x]
  simp [look]
end MX
set_option Elab.async false
set_option linter.all false
set_option maxRecDepth 100000
set_option maxHeartbeats 1000000
set_option autoImplicit false
namespace MX
open PySem PySem.Spec L2
/-- a loop that runs to its end -/
theorem for_inv {α : Type} {s : Src} {t : Tg} {b : MS} {S : Hq → Prop} {e : En} {h h1 : Hq} (P : Nat → En → Hq → Prop) (xs : List α) (enc : α → Mv) (hs : SrcR s e h (xs.map enc) h1 S) (hS : ∀ i e h, P i e h → S h) (h0 : P 0 e h1)
    (step : ∀ (i : Nat) (hi : i < xs.length) (e : En) (h : Hq), P i e h → ∃ e1 e2 h2, asg t (enc xs[i]) e = some e1 ∧ b e1 h = some (.nx, e2, h2) ∧ P (i + 1) e2 h2) : ∃ e' h', sFor s t b e h = some (.nx, e', h') ∧ P xs.length e' h' := by
  obtain ⟨nx, a, c⟩ := hs
  unfold sFor
  rw [a]
  simp only [Option.bind_some, List.length_map]
  obtain ⟨f, e', h', q1, q2⟩ := forN_ex (nx := nx) (t := t) (b := b) (k := xs.length) P (fun f e h => f = .nx ∧ P xs.length e h) (fun e h p => by rw [c _ h (hS _ e h p), List.getElem?_eq_none (by simp)])
    (fun e h p => ⟨rfl, p⟩) (fun i e h hi p => by
      obtain ⟨e1, e2, h2, a1, a2, a3⟩ := step i hi e h p
      exact ⟨enc xs[i], e1, .nx, e2, h2, by rw [c i h (hS i e h p), List.getElem?_map, List.getElem?_eq_getElem hi]; rfl, a1, a2, a3⟩) xs.length 0 e h1 (by omega) h0
  obtain ⟨rfl, p⟩ := q2
  exact ⟨e', h', q1, p⟩
theorem bSeq_nx {a b : MS} {e e1 : En} {h h1 : Hq} (q : a e h = some (.nx, e1, h1)) : bSeq a b e h = b e1 h1 := by
  unfold bSeq
  rw [q]
  rfl
theorem bSeq_ret {a b : MS} {e e1 : En} {h h1 : Hq} {d : Mv} (q : a e h = some (.ret d, e1, h1)) : bSeq a b e h = some (.ret d, e1, h1) := by
  unfold bSeq
  rw [q]
  rfl
end MX
set_option Elab.async false
set_option linter.all false
set_option maxRecDepth 100000
set_option maxHeartbeats 1000000
set_option autoImplicit false
namespace Wk
open PySem PySem.Spec L2 MX
/-- slots: 0 value, 1 low, 2 high -/
noncomputable def b_is_int : MS := (sRet (mAnd (mIsi (mVar 0) "int") (mAnd (mNot (mIsi (mVar 0) "bool")) (mChain gLe gLe (mVar 1) (mVar 0) (mVar 2)))))
noncomputable def F_is_int : GA := runF 3 3 b_is_int
/-- slots: 0 some, 1 one, 2 other -/
noncomputable def b_is_rising : MS := (sRet (mGc (mCall gAll (aCons (mGc (mLc (sZip (aCons (mVar 0) (aCons (mSl (mVar 0) (oSome (mC (.int 1))) oNone) aNil))) (.tup [1, 2]) tYesM (mB gLtA (mVar 1) (mVar 2)) [1, 2])) aNil))))
noncomputable def F_is_rising : GA := runF 3 1 b_is_rising
/-- slots: 0 many, 1 value, 2 thing -/
noncomputable def b_is_lot : MS := (bSeq (sIf (tOrM (tNotM (tTru (mIsi (mVar 1) "tuple"))) (tNotM (tTru (mGc (mCall gAll (aCons (mLc (sSeq (mVar 1)) (.nm 2) tYesM (mCall F_is_int (aCons (mVar 2) (aCons (mC (.int 0)) (aCons (mB gSub (mVar 0) (mC (.int 1))) aNil)))) [2]) aNil)))))) (sRet (mC (.bool false))) bNil) (sRet (mCall F_is_rising (aCons (mVar 1) aNil))))
noncomputable def F_is_lot : GA := runF 3 2 b_is_lot
/-- slots: 0 many, 1 value, 2 lot -/
noncomputable def b_are_lots : MS := (sRet (mAnd (mIsi (mVar 1) "tuple") (mAnd (mGc (mCall gAll (aCons (mLc (sSeq (mVar 1)) (.nm 2) tYesM (mCall F_is_lot (aCons (mVar 0) (aCons (mVar 2) aNil))) [2]) aNil))) (mCall F_is_rising (aCons (mVar 1) aNil)))))
noncomputable def F_are_lots : GA := runF 3 2 b_are_lots
/-- slots: 0 lot, 1 thing -/
noncomputable def b_bits_of : MS := (sRet (mGc (mCall gSum (aCons (mLc (sSeq (mVar 0)) (.nm 1) tYesM (mB gShl (mC (.int 1)) (mVar 1)) [1]) aNil))))
noncomputable def F_bits_of : GA := runF 2 1 b_bits_of
/-- slots: 0 bits, 1 found, 2 thing -/
noncomputable def b_lot_of : MS := (bSeq (sPar (aCons (mLst aNil) (aCons (mC (.int 0)) aNil)) [1, 2]) (bSeq (sWh (mBo (mB gGt (mB gShr (mVar 0) (mVar 2)) (mC (.int 0)))) (bSeq (sIf (tTru (mB gAnd (mB gShr (mVar 0) (mVar 2)) (mC (.int 1)))) (sExp (mMet gAppend (mVar 1) (aCons (mVar 2) aNil))) bNil) (sAug 2 (gI (fun _ _ => true) fun i j => .int (i + j)) (mC (.int 1))))) (sRet (mCall gTuple (aCons (mVar 1) aNil)))))
noncomputable def F_lot_of : GA := runF 3 1 b_lot_of
/-- slots: 0 fulls, 1 one, 2 other, 3 thing, 4 rest, 5 later -/
noncomputable def b_can_go : MS := (bSeq (sAsg (mB gAnd (mVar 1) (mU gInv (mB gShl (mC (.int 1)) (mVar 3)))) (.nm 4)) (sRet (mGc (mCall gAny (aCons (mLc (sSeq (mCall F_lot_of (aCons (mB gAnd (mVar 2) (mU gInv (mVar 1))) aNil))) (.nm 5) tYesM (mB (gIn false) (mB gOr (mVar 4) (mB gShl (mC (.int 1)) (mVar 5))) (mVar 0)) [5]) aNil)))))
noncomputable def F_can_go : GA := runF 6 4 b_can_go
/-- slots: 0 lots, 1 fulls, 2 one, 3 other, 4 lot, 5 first, 6 second, 7 thing -/
noncomputable def b_told_stuck : MS := (bSeq (sAsg (mDc (sSeq (mVar 0)) (.nm 4) tYesM (mCall F_bits_of (aCons (mVar 4) aNil)) (mC (.bool true)) [4]) (.nm 1)) (bSeq (sFor (sSeq (mVar 0)) (.nm 2) (sFor (sSeq (mVar 0)) (.nm 3) (bSeq (sPar (aCons (mCall F_bits_of (aCons (mVar 2) aNil)) (aCons (mCall F_bits_of (aCons (mVar 3) aNil)) aNil)) [5, 6]) (sFor (sSeq (mCall F_lot_of (aCons (mB gAnd (mVar 5) (mU gInv (mVar 6))) aNil))) (.nm 7) (sIf (tNotM (tTru (mCall F_can_go (aCons (mVar 1) (aCons (mVar 5) (aCons (mVar 6) (aCons (mVar 7) aNil))))))) (sRet (mTup (aCons (mVar 2) (aCons (mVar 3) (aCons (mVar 7) aNil))))) bNil))))) (sRet (mC .none))))
noncomputable def F_told_stuck : GA := runF 8 1 b_told_stuck
/-- slots: 0 value -/
noncomputable def b_is_choice : MS := (bSeq (sIf (tOrM (tNotM (tTru (mIsi (mVar 0) "tuple"))) (tOrM (mBo (mB gNe (mCall gLen (aCons (mVar 0) aNil)) (mC (.int 2)))) (tNotM (tTru (mCall F_is_int (aCons (mB gIx (mVar 0) (mC (.int 0))) (aCons (mC (.int 0)) (aCons (mC (.int 9)) aNil)))))))) (sRet (mC (.bool false))) bNil) (sRet (mAnd (mCall F_are_lots (aCons (mB gIx (mVar 0) (mC (.int 0))) (aCons (mB gIx (mVar 0) (mC (.int 1))) aNil))) (mAnd (mB gNe (mB gIx (mVar 0) (mC (.int 1))) (mTup aNil)) (mB gIsN (mCall F_told_stuck (aCons (mB gIx (mVar 0) (mC (.int 1))) aNil)) (mC .none))))))
noncomputable def F_is_choice : GA := runF 1 1 b_is_choice
/-- slots: 0 value, 1 tops, 2 at, 3 one, 4 top, 5 other -/
noncomputable def b_is_heap : MS := (bSeq (sIf (tOrM (tNotM (tTru (mIsi (mVar 0) "tuple"))) (tOrM (mBo (mB gNe (mCall gLen (aCons (mVar 0) aNil)) (mC (.int 2)))) (tNotM (tTru (mCall F_is_int (aCons (mB gIx (mVar 0) (mC (.int 0))) (aCons (mC (.int 0)) (aCons (mC (.int 9)) aNil)))))))) (sRet (mC (.bool false))) bNil) (bSeq (sIf (tOrM (tNotM (tTru (mCall F_are_lots (aCons (mB gIx (mVar 0) (mC (.int 0))) (aCons (mB gIx (mVar 0) (mC (.int 1))) aNil))))) (mBo (mB gEq (mB gIx (mVar 0) (mC (.int 1))) (mTup aNil)))) (sRet (mC (.bool false))) bNil) (bSeq (sAsg (mLc (sSeq (mB gIx (mVar 0) (mC (.int 1)))) (.nm 4) tYesM (mCall F_bits_of (aCons (mVar 4) aNil)) [4]) (.nm 1)) (bSeq (sFor (sEnumL (aCons (mVar 1) aNil)) (.tup [2, 3]) (sIf (tTru (mGc (mCall gAny (aCons (mGc (mLc (sSeq (mGc (mB gAdd (mSl (mVar 1) oNone (oSome (mVar 2))) (mSl (mVar 1) (oSome (mB gAdd (mVar 2) (mC (.int 1)))) oNone)))) (.nm 5) tYesM (mB gEq (mB gAnd (mVar 3) (mU gInv (mVar 5))) (mC (.int 0))) [5])) aNil)))) (sRet (mC (.bool false))) bNil)) (sRet (mC (.bool true)))))))
noncomputable def F_is_heap : GA := runF 6 1 b_is_heap
/-- slots: 0 heap -/
noncomputable def b_look_at_heap : MS := (sIf (tNotM (tTru (mCall F_is_heap (aCons (mVar 0) aNil)))) sNever bNil)
noncomputable def F_look_at_heap : GA := runF 1 1 b_look_at_heap
/-- slots: 0 many, 1 weights, 2 weight -/
noncomputable def b_look_at_weights : MS := (bSeq (sIf (tOrM (tNotM (tTru (mIsi (mVar 1) "tuple"))) (mBo (mB gNe (mCall gLen (aCons (mVar 1) aNil)) (mVar 0)))) sNever bNil) (sIf (tNotM (tTru (mGc (mCall gAll (aCons (mLc (sSeq (mVar 1)) (.nm 2) tYesM (mCall F_is_int (aCons (mVar 2) (aCons (mC (.int 0)) (aCons (mC (.int 1000)) aNil)))) [2]) aNil))))) sNever bNil))
noncomputable def F_look_at_weights : GA := runF 3 2 b_look_at_weights
/-- slots: 0 weights, 1 lot, 2 thing -/
noncomputable def b_weight_of : MS := (sRet (mGc (mCall gSum (aCons (mLc (sSeq (mVar 1)) (.nm 2) tYesM (mB gIx (mVar 0) (mVar 2)) [2]) aNil))))
noncomputable def F_weight_of : GA := runF 3 2 b_weight_of
/-- slots: 0 heap, 1 weights, 2 tops, 3 found, 4 thing, 5 more, 6 top -/
noncomputable def b_told_next : MS := (bSeq (sPar (aCons (mLc (sSeq (mB gIx (mVar 0) (mC (.int 1)))) (.nm 6) tYesM (mCall F_bits_of (aCons (mVar 6) aNil)) [6]) (aCons (mC (.int 0)) aNil)) [2, 3]) (bSeq (sFor (sSeq (mSortKey (mB gIx (mVar 0) (mC (.int 0))) (mTup (aCons (mU gNeg (mB gIx (mVar 1) (mVar 0))) (aCons (mVar 0) aNil))) [1] 0)) (.nm 4) (bSeq (sAsg (mB gOr (mVar 3) (mB gShl (mC (.int 1)) (mVar 4))) (.nm 5)) (sIf (tTru (mGc (mCall gAny (aCons (mLc (sSeq (mVar 2)) (.nm 6) tYesM (mB gEq (mB gAnd (mVar 5) (mU gInv (mVar 6))) (mC (.int 0))) [6]) aNil)))) (sAsg (mVar 5) (.nm 3)) bNil))) (sRet (mCall F_lot_of (aCons (mVar 3) aNil)))))
noncomputable def F_told_next : GA := runF 7 2 b_told_next
/-- slots: 0 heap, 1 weights -/
noncomputable def b_next_best : MS := (bSeq (sExp (mCall F_look_at_heap (aCons (mVar 0) aNil))) (bSeq (sExp (mCall F_look_at_weights (aCons (mB gIx (mVar 0) (mC (.int 0))) (aCons (mVar 1) aNil)))) (sRet (mCall F_told_next (aCons (mVar 0) (aCons (mVar 1) aNil))))))
noncomputable def F_next_best : GA := runF 2 2 b_next_best
/-- slots: 0 heap, 1 weights, 2 most, 3 top -/
noncomputable def b_told_best : MS := (bSeq (sAsg (mGc (mCall gMax1X (aCons (mLc (sSeq (mB gIx (mVar 0) (mC (.int 1)))) (.nm 3) tYesM (mCall F_weight_of (aCons (mVar 1) (aCons (mVar 3) aNil))) [3]) aNil))) (.nm 2)) (sRet (mTup (aCons (mVar 2) (aCons (mGc (mB gIx (mLc (sSeq (mB gIx (mVar 0) (mC (.int 1)))) (.nm 3) (mBo (mB gEq (mCall F_weight_of (aCons (mVar 1) (aCons (mVar 3) aNil))) (mVar 2))) (mVar 3) [3]) (mC (.int 0)))) aNil)))))
noncomputable def F_told_best : GA := runF 4 2 b_told_best
/-- slots: 0 heap, 1 weights -/
noncomputable def b_best : MS := (bSeq (sExp (mCall F_look_at_heap (aCons (mVar 0) aNil))) (bSeq (sExp (mCall F_look_at_weights (aCons (mB gIx (mVar 0) (mC (.int 0))) (aCons (mVar 1) aNil)))) (sRet (mCall F_told_best (aCons (mVar 0) (aCons (mVar 1) aNil))))))
noncomputable def F_best : GA := runF 2 2 b_best
/-- slots: 0 heap, 1 one, 2 stuck, 3 other, 4 thing -/
noncomputable def b_few_and_many : MS := (bSeq (sFor (sSeq (mB gIx (mVar 0) (mC (.int 1)))) (.nm 1) (sFor (sSeq (mB gIx (mVar 0) (mC (.int 1)))) (.nm 3) (sIf (mBo (mB gLtA (mCall gLen (aCons (mVar 1) aNil)) (mCall gLen (aCons (mVar 3) aNil)))) (sRet (mTup (aCons (mVar 1) (aCons (mVar 3) aNil)))) bNil))) (bSeq (sAsg (mCall F_told_stuck (aCons (mB gIx (mVar 0) (mC (.int 1))) aNil)) (.nm 2)) (bSeq (sIf (mBo (mB gIsN (mVar 2) (mC .none))) (sRet (mC .none)) bNil) (sRet (mTup (aCons (mGc (mCall gTuple (aCons (mLc (sSeq (mB gIx (mVar 2) (mC (.int 0)))) (.nm 4) (mBo (mB gNe (mVar 4) (mB gIx (mVar 2) (mC (.int 2))))) (mVar 4) [4]) aNil))) (aCons (mB gIx (mVar 2) (mC (.int 1))) aNil)))))))
noncomputable def F_few_and_many : GA := runF 5 1 b_few_and_many
/-- slots: 0 heap, 1 found, 2 lot, 3 top, 4 weights, 5 thing -/
noncomputable def b_always_best : MS := (bSeq (sExp (mCall F_look_at_heap (aCons (mVar 0) aNil))) (bSeq (sAsg (mCall F_few_and_many (aCons (mVar 0) aNil)) (.nm 1)) (bSeq (sIf (mBo (mB gIsN (mVar 1) (mC .none))) (sRet (mTup (aCons (mC (.str "choice")) aNil))) bNil) (bSeq (sAsg (mVar 1) (.tup [2, 3])) (bSeq (sAsg (mLst aNil) (.nm 4)) (bSeq (sFor (sRng1 (aCons (mB gIx (mVar 0) (mC (.int 0))) aNil)) (.nm 5) (sExp (mMet gAppend (mVar 4) (aCons (mIf (mBo (mB (gIn false) (mVar 5) (mVar 2))) (mB gAdd (mCall gLen (aCons (mVar 2) aNil)) (mC (.int 2))) (mIf (mBo (mB (gIn false) (mVar 5) (mVar 3))) (mB gAdd (mCall gLen (aCons (mVar 2) aNil)) (mC (.int 1))) (mC (.int 0)))) aNil)))) (sRet (mTup (aCons (mC (.str "weights")) (aCons (mCall gTuple (aCons (mVar 4) aNil)) (aCons (mVar 3) aNil)))))))))))
noncomputable def F_always_best : GA := runF 6 1 b_always_best
/-- slots: 0 many, 1 value, 2 weight -/
noncomputable def b_are_weights : MS := (bSeq (sIf (tOrM (tNotM (tTru (mIsi (mVar 1) "tuple"))) (mBo (mB gNe (mCall gLen (aCons (mVar 1) aNil)) (mVar 0)))) (sRet (mC (.bool false))) bNil) (sRet (mGc (mCall gAll (aCons (mLc (sSeq (mVar 1)) (.nm 2) tYesM (mCall F_is_int (aCons (mVar 2) (aCons (mC (.int 0)) (aCons (mC (.int 1000)) aNil)))) [2]) aNil)))))
noncomputable def F_are_weights : GA := runF 3 2 b_are_weights
/-- slots: 0 heap, 1 value, 2 top -/
noncomputable def b_is_allowed : MS := (bSeq (sIf (tNotM (tTru (mCall F_is_lot (aCons (mB gIx (mVar 0) (mC (.int 0))) (aCons (mVar 1) aNil))))) (sRet (mC (.bool false))) bNil) (sRet (mGc (mCall gAny (aCons (mLc (sSeq (mB gIx (mVar 0) (mC (.int 1)))) (.nm 2) tYesM (mB gEq (mB gAnd (mCall F_bits_of (aCons (mVar 1) aNil)) (mU gInv (mCall F_bits_of (aCons (mVar 2) aNil)))) (mC (.int 0))) [2]) aNil)))))
noncomputable def F_is_allowed : GA := runF 3 2 b_is_allowed
/-- slots: 0 heap, 1 value -/
noncomputable def b_shows_always_best : MS := (bSeq (sExp (mCall F_look_at_heap (aCons (mVar 0) aNil))) (bSeq (sIf (tOrM (tNotM (tTru (mIsi (mVar 1) "tuple"))) (tOrM (mBo (mB (gIn true) (mCall gLen (aCons (mVar 1) aNil)) (mTup (aCons (mC (.int 1)) (aCons (mB gAdd (mC (.int 1)) (mC (.int 2))) aNil))))) (tNotM (tTru (mIsi (mB gIx (mVar 1) (mC (.int 0))) "str"))))) (sRet (mC (.bool false))) bNil) (bSeq (sIf (mBo (mB gEq (mCall gLen (aCons (mVar 1) aNil)) (mC (.int 1)))) (sRet (mAnd (mB gEq (mB gIx (mVar 1) (mC (.int 0))) (mC (.str "choice"))) (mB gIsN (mCall F_few_and_many (aCons (mVar 0) aNil)) (mC .none)))) bNil) (bSeq (sIf (tOrM (mBo (mB gNe (mB gIx (mVar 1) (mC (.int 0))) (mC (.str "weights")))) (tOrM (tNotM (tTru (mCall F_are_weights (aCons (mB gIx (mVar 0) (mC (.int 0))) (aCons (mB gIx (mVar 1) (mC (.int 1))) aNil))))) (tNotM (tTru (mCall F_is_allowed (aCons (mVar 0) (aCons (mB gIx (mVar 1) (mC (.int 2))) aNil))))))) (sRet (mC (.bool false))) bNil) (sRet (mB gLtA (mCall F_weight_of (aCons (mB gIx (mVar 1) (mC (.int 1))) (aCons (mCall F_told_next (aCons (mVar 0) (aCons (mB gIx (mVar 1) (mC (.int 1))) aNil))) aNil))) (mCall F_weight_of (aCons (mB gIx (mVar 1) (mC (.int 1))) (aCons (mB gIx (mVar 1) (mC (.int 2))) aNil)))))))))
noncomputable def F_shows_always_best : GA := runF 2 2 b_shows_always_best
/-- slots: 0 script, 1 place, 2 cell, 3 own, 4 mixed -/
noncomputable def b__law_pot : MS := (bSeq (sAsg (mIf (mBo (mB gLtA (mVar 1) (mCall gLen (aCons (mVar 0) aNil)))) (mB gIx (mVar 0) (mVar 1)) (mB gAdd (mB gMul (mC (.int 73)) (mVar 1)) (mC (.int 43)))) (.nm 2)) (bSeq (sAsg (mB gMul (mB gMod (mCall gInt (aCons (mCall gAbs (aCons (mVar 2) aNil)) aNil)) (mB gPow (mB gPow (mC (.int 10)) (mC (.int 60))) (mC (.int 5)))) (mCall gInt (aCons (mB gGe (mCall gAbs (aCons (mVar 2) aNil)) (mB gPow (mC (.int 10)) (mC (.int 18)))) aNil))) (.nm 3)) (bSeq (sAsg (mB gAdd (mB gAdd (mB gMul (mB gMod (mCall gInt (aCons (mVar 2) aNil)) (mC (.int 2305843009213693951))) (mC (.int 74608))) (mB gMul (mB gMul (mC (.int 7089)) (mVar 1)) (mVar 1))) (mC (.int 71))) (.nm 4)) (sRet (mLst (aCons (mVar 3) (aCons (mB gMod (mCall gInt (aCons (mVar 4) aNil)) (mC (.int 2305843009213693921))) (aCons (mC (.int 0)) aNil))))))))
noncomputable def F__law_pot : GA := runF 5 2 b__law_pot
/-- slots: 0 pot, 1 upto, 2 prime, 3 blend, 4 digit -/
noncomputable def b__law_take : MS := (bSeq (sIf (mBo (mB gGt (mB gIx (mVar 0) (mC (.int 0))) (mC (.int 0)))) (bSeq (sAsg (mB gMod (mCall gInt (aCons (mB gIx (mVar 0) (mC (.int 0))) aNil)) (mVar 1)) (.nm 4)) (bSeq (sSub (mVar 0) (mC (.int 0)) (mB gDiv (mB gIx (mVar 0) (mC (.int 0))) (mVar 1))) (sRet (mVar 4)))) bNil) (bSeq (sSub (mVar 0) (mC (.int 2)) (mB gAdd (mB gIx (mVar 0) (mC (.int 2))) (mC (.int 1)))) (bSeq (sAsg (mGc (mB gIx (mLst (aCons (mC (.int 2147483647)) (aCons (mC (.int 2147483629)) (aCons (mC (.int 2147483587)) (aCons (mC (.int 2147483579)) (aCons (mC (.int 2147483563)) (aCons (mC (.int 2147483549)) aNil))))))) (mB gMod (mCall gInt (aCons (mB gIx (mVar 0) (mC (.int 2))) aNil)) (mC (.int 6))))) (.nm 2)) (bSeq (sAsg (mB gMod (mCall gInt (aCons (mB gPow (mCall gInt (aCons (mB gAdd (mB gAdd (mB gIx (mVar 0) (mC (.int 1))) (mB gMul (mB gMul (mC (.int 97712)) (mB gIx (mVar 0) (mC (.int 2)))) (mB gIx (mVar 0) (mC (.int 2))))) (mC (.int 61))) aNil)) (mC (.int 3))) aNil)) (mVar 2)) (.nm 3)) (bSeq (sAsg (mB gMod (mCall gInt (aCons (mB gMul (mVar 3) (mB gAdd (mB gMod (mCall gInt (aCons (mVar 3) aNil)) (mC (.int 10217))) (mB gMul (mC (.int 83)) (mB gIx (mVar 0) (mC (.int 2)))))) aNil)) (mC (.int 2305843009213693907))) (.nm 3)) (sRet (mB gMod (mCall gInt (aCons (mB gDiv (mVar 3) (mC (.int 107))) aNil)) (mVar 1))))))))
noncomputable def F__law_take : GA := runF 5 2 b__law_take
/-- slots: 0 pot, 1 some -/
noncomputable def b__law_of : MS := (sRet (mB gIx (mVar 1) (mCall F__law_take (aCons (mVar 0) (aCons (mCall gLen (aCons (mVar 1) aNil)) aNil)))))
noncomputable def F__law_of : GA := runF 2 2 b__law_of
/-- slots: 0 script, 1 most -/
noncomputable def b__law_places : MS := (sRet (mLR1 (mCall gMax2 (aCons (mC (.int 1)) (aCons (mCall gMin2 (aCons (mVar 1) (aCons (mCall gLen (aCons (mVar 0) aNil)) aNil))) aNil)))))
noncomputable def F__law_places : GA := runF 2 2 b__law_places
/-- slots: 0 things, 1 found, 2 thing, 3 lot -/
noncomputable def b__law_lots : MS := (bSeq (sAsg (mLst (aCons (mTup aNil) aNil)) (.nm 1)) (bSeq (sFor (sSeq (mVar 0)) (.nm 2) (sExp (mGc (mMet gExtend (mVar 1) (aCons (mGc (mLc (sSeq (mCall gList (aCons (mVar 1) aNil))) (.nm 3) tYesM (mB gAdd (mVar 3) (mTup (aCons (mVar 2) aNil))) [3])) aNil))))) (sRet (mVar 1))))
noncomputable def F__law_lots : GA := runF 4 1 b__law_lots
/-- slots: 0 choice, 1 lot, 2 full, 3 thing -/
noncomputable def b__law_rank : MS := (sRet (mGc (mCall gMax1X (aCons (mLc (sSeq (mB gIx (mVar 0) (mC (.int 1)))) (.nm 2) tYesM (mGc (mCall gLen (aCons (mLc (sSeq (mVar 2)) (.nm 3) (mBo (mB (gIn false) (mVar 3) (mVar 1))) (mVar 3) [3]) aNil))) [2]) aNil))))
noncomputable def F__law_rank : GA := runF 4 2 b__law_rank
/-- slots: 0 choice, 1 lot -/
noncomputable def b__law_is_free : MS := (sRet (mB gEq (mCall F__law_rank (aCons (mVar 0) (aCons (mVar 1) aNil))) (mCall gLen (aCons (mVar 1) aNil))))
noncomputable def F__law_is_free : GA := runF 2 2 b__law_is_free
/-- slots: 0 many, 1 lots, 2 most, 3 lot -/
noncomputable def b__law_best_of : MS := (bSeq (sAsg (mGc (mCall gMax1X (aCons (mLc (sSeq (mVar 1)) (.nm 3) tYesM (mCall gLen (aCons (mVar 3) aNil)) [3]) aNil))) (.nm 2)) (sRet (mTup (aCons (mVar 0) (aCons (mGc (mCall gTuple (aCons (mSortSet (mLc (sSeq (mVar 1)) (.nm 3) (mBo (mB gEq (mCall gLen (aCons (mVar 3) aNil)) (mVar 2))) (mVar 3) [3])) aNil))) aNil)))))
noncomputable def F__law_best_of : GA := runF 4 2 b__law_best_of
/-- slots: 0 columns, 1 prime, 2 rows, 3 at_row, 4 place, 5 some, 6 back, 7 at, 8 column, 9 times, 10 number, 11 one, 12 its -/
noncomputable def b__law_loose_by : MS := (bSeq (sPar (aCons (mLc (sSeq (mVar 0)) (.nm 8) tYesM (mLc (sSeq (mVar 8)) (.nm 10) tYesM (mB gMod (mCall gInt (aCons (mVar 10) aNil)) (mVar 1)) [10]) [8]) (aCons (mC (.int 0)) aNil)) [2, 3]) (bSeq (sFor (sRng1 (aCons (mIf (tGc (mBo (mB gNe (mVar 2) (mLst aNil)))) (mCall gLen (aCons (mB gIx (mVar 2) (mC (.int 0))) aNil)) (mC (.int 0))) aNil)) (.nm 4) (bSeq (sAsg (mLc (sRng2 (aCons (mVar 3) (aCons (mCall gLen (aCons (mVar 2) aNil)) aNil))) (.nm 7) (mBo (mB gNe (mB gIx (mB gIx (mVar 2) (mVar 7)) (mVar 4)) (mC (.int 0)))) (mVar 7) [7]) (.nm 5)) (sIf (tGc (mBo (mB gNe (mVar 5) (mLst aNil)))) (bSeq (sSwap (aCons (mB gIx (mVar 2) (mB gIx (mVar 5) (mC (.int 0)))) (aCons (mB gIx (mVar 2) (mVar 3)) aNil)) (mVar 2) (mVar 3) (mVar 2) (mB gIx (mVar 5) (mC (.int 0)))) (bSeq (sAsg (mGc (mB gIx (mLc (sRng2 (aCons (mC (.int 1)) (aCons (mVar 1) aNil))) (.nm 11) (mBo (mB gEq (mB gMod (mCall gInt (aCons (mB gMul (mVar 11) (mB gIx (mB gIx (mVar 2) (mVar 3)) (mVar 4))) aNil)) (mVar 1)) (mC (.int 1)))) (mVar 11) [11]) (mC (.int 0)))) (.nm 6)) (bSeq (sFor (sRng2 (aCons (mB gAdd (mVar 3) (mC (.int 1))) (aCons (mCall gLen (aCons (mVar 2) aNil)) aNil))) (.nm 7) (bSeq (sAsg (mB gMod (mCall gInt (aCons (mB gMul (mB gIx (mB gIx (mVar 2) (mVar 7)) (mVar 4)) (mVar 6)) aNil)) (mVar 1)) (.nm 9)) (sSub (mVar 2) (mVar 7) (mLc (sZip (aCons (mB gIx (mVar 2) (mVar 7)) (aCons (mB gIx (mVar 2) (mVar 3)) aNil))) (.tup [11, 12]) tYesM (mB gMod (mCall gInt (aCons (mB gSub (mVar 11) (mB gMul (mVar 9) (mVar 12))) aNil)) (mVar 1)) [11, 12])))) (sAsg (mB gAdd (mVar 3) (mC (.int 1))) (.nm 3))))) bNil))) (sRet (mB gEq (mVar 3) (mCall gLen (aCons (mVar 2) aNil))))))
noncomputable def F__law_loose_by : GA := runF 13 2 b__law_loose_by
/-- slots: 0 columns, 1 prime, 2 lots, 3 lot, 4 at -/
noncomputable def b__law_made : MS := (bSeq (sAsg (mLc (sSeq (mGc (mCall F__law_lots (aCons (mLR1 (mCall gLen (aCons (mVar 0) aNil))) aNil)))) (.nm 3) (tTru (mGc (mCall F__law_loose_by (aCons (mLc (sSeq (mVar 3)) (.nm 4) tYesM (mB gIx (mVar 0) (mVar 4)) [4]) (aCons (mVar 1) aNil))))) (mVar 3) [3]) (.nm 2)) (sRet (mCall F__law_best_of (aCons (mCall gLen (aCons (mVar 0) aNil)) (aCons (mVar 2) aNil)))))
noncomputable def F__law_made : GA := runF 5 2 b__law_made
/-- slots: 0 pot, 1 many, 2 prime, 3 rows, 4 columns, 5 thing, 6 row -/
noncomputable def b__law_drawn_plain : MS := (bSeq (sPar (aCons (mGc (mCall F__law_of (aCons (mVar 0) (aCons (mLst (aCons (mC (.int 2)) (aCons (mC (.int 2)) (aCons (mC (.int 3)) (aCons (mC (.int 5)) aNil))))) aNil)))) (aCons (mCall F__law_take (aCons (mVar 0) (aCons (mB gAdd (mCall gMin2 (aCons (mC (.int 4)) (aCons (mVar 1) aNil))) (mC (.int 1))) aNil))) aNil)) [2, 3]) (bSeq (sAsg (mLc (sRng1 (aCons (mVar 1) aNil)) (.nm 5) tYesM (mGc (mCall gTuple (aCons (mLc (sRng1 (aCons (mVar 3) aNil)) (.nm 6) tYesM (mCall F__law_take (aCons (mVar 0) (aCons (mVar 2) aNil))) [6]) aNil))) [5]) (.nm 4)) (sRet (mCall F__law_made (aCons (mVar 4) (aCons (mVar 2) aNil))))))
noncomputable def F__law_drawn_plain : GA := runF 7 2 b__law_drawn_plain
/-- slots: 0 pot, 1 many, 2 most, 3 thing -/
noncomputable def b__law_weights : MS := (sRet (mGc (mCall gTuple (aCons (mLc (sRng1 (aCons (mVar 1) aNil)) (.nm 3) tYesM (mCall F__law_take (aCons (mVar 0) (aCons (mVar 2) aNil))) [3]) aNil))))
noncomputable def F__law_weights : GA := runF 4 3 b__law_weights
/-- slots: 0 weights, 1 lot, 2 thing -/
noncomputable def b__law_weighs : MS := (sRet (mGc (mCall gSum (aCons (mLc (sSeq (mVar 1)) (.nm 2) tYesM (mB gIx (mVar 0) (mVar 2)) [2]) aNil))))
noncomputable def F__law_weighs : GA := runF 3 2 b__law_weighs
/-- slots: 0 lots, 1 some, 2 found, 3 lot, 4 other, 5 thing -/
noncomputable def b__law_tops : MS := (bSeq (sAsg (mSortSet (mVar 0)) (.nm 1)) (bSeq (sAsg (mLst aNil) (.nm 2)) (bSeq (sFor (sSeq (mVar 1)) (.nm 3) (sIf (tNotM (tTru (mGc (mCall gAny (aCons (mLc (sSeq (mVar 1)) (.nm 4) tYesM (mAnd (mB gNe (mVar 3) (mVar 4)) (mGc (mCall gAll (aCons (mLc (sSeq (mVar 3)) (.nm 5) tYesM (mB (gIn false) (mVar 5) (mVar 4)) [5]) aNil)))) [4]) aNil))))) (sExp (mMet gAppend (mVar 2) (aCons (mVar 3) aNil))) bNil)) (sRet (mCall gTuple (aCons (mVar 2) aNil))))))
noncomputable def F__law_tops : GA := runF 6 1 b__law_tops
/-- slots: 0 pot, 1 many, 2 kind, 3 every, 4 lots, 5 some, 6 ends, 7 lot, 8 nodes, 9 at, 10 lap, 11 edge, 12 thing, 13 one -/
noncomputable def b__law_heap : MS := (bSeq (sPar (aCons (mB gAdd (mC (.int 1)) (mCall F__law_take (aCons (mVar 0) (aCons (mC (.int 6)) aNil)))) (aCons (mCall F__law_take (aCons (mVar 0) (aCons (mC (.int 5)) aNil))) aNil)) [1, 2]) (bSeq (sAsg (mGc (mCall F__law_lots (aCons (mLR1 (mVar 1)) aNil))) (.nm 3)) (bSeq (sIf (mBo (mB gLtA (mVar 2) (mC (.int 3)))) (bSeq (sAsg (mLc (sRng1 (aCons (mB gAdd (mC (.int 1)) (mVar 2)) aNil)) (.nm 10) tYesM (mCall F__law_drawn_plain (aCons (mVar 0) (aCons (mVar 1) aNil))) [10]) (.nm 5)) (sRet (mTup (aCons (mTup (aCons (mVar 1) (aCons (mGc (mCall F__law_tops (aCons (mLc (sSeq (mVar 3)) (.nm 7) (tTru (mGc (mCall gAll (aCons (mLc (sSeq (mVar 5)) (.nm 13) tYesM (mCall F__law_is_free (aCons (mVar 13) (aCons (mVar 7) aNil))) [13]) aNil)))) (mVar 7) [7]) aNil))) aNil))) (aCons (mB gAdd (mC (.int 1)) (mVar 2)) aNil))))) bNil) (bSeq (sIf (mBo (mB gEq (mVar 2) (mC (.int 3)))) (bSeq (sAsg (mLc (sRng1 (aCons (mVar 1) aNil)) (.nm 11) tYesM (mTup (aCons (mCall F__law_take (aCons (mVar 0) (aCons (mC (.int 3)) aNil))) (aCons (mB gAdd (mC (.int 3)) (mCall F__law_take (aCons (mVar 0) (aCons (mC (.int 3)) aNil)))) aNil))) [11]) (.nm 6)) (bSeq (sAsg (mLst aNil) (.nm 4)) (bSeq (sFor (sSeq (mVar 3)) (.nm 7) (bSeq (sAsg (mLst aNil) (.nm 8)) (bSeq (sFor (sSeq (mVar 7)) (.nm 9) (sExp (mGc (mMet gExtend (mVar 8) (aCons (mCall gList (aCons (mB gIx (mVar 6) (mVar 9)) aNil)) aNil))))) (sIf (mBo (mB gEq (mCall gLen (aCons (mVar 8) aNil)) (mLenSet (mVar 8)))) (sExp (mMet gAppend (mVar 4) (aCons (mVar 7) aNil))) bNil)))) (sRet (mTup (aCons (mTup (aCons (mVar 1) (aCons (mCall F__law_tops (aCons (mVar 4) aNil)) aNil))) (aCons (mC (.int 2)) aNil))))))) bNil) (bSeq (sAsg (mLc (sRng1 (aCons (mB gAdd (mC (.int 1)) (mCall F__law_take (aCons (mVar 0) (aCons (mC (.int 4)) aNil)))) aNil)) (.nm 10) tYesM (mGc (mCall gTuple (aCons (mLc (sRng1 (aCons (mVar 1) aNil)) (.nm 12) (mBo (mB gEq (mCall F__law_take (aCons (mVar 0) (aCons (mC (.int 2)) aNil))) (mC (.int 0)))) (mVar 12) [12]) aNil))) [10]) (.nm 4)) (sRet (mTup (aCons (mTup (aCons (mVar 1) (aCons (mCall F__law_tops (aCons (mVar 4) aNil)) aNil))) (aCons (mC (.int 0)) aNil)))))))))
noncomputable def F__law_heap : GA := runF 14 1 b__law_heap
/-- slots: 0 heap, 1 lot, 2 some, 3 top, 4 thing -/
noncomputable def b__law_grown : MS := (bSeq (sAsg (mLst aNil) (.nm 2)) (bSeq (sFor (sSeq (mB gIx (mVar 0) (mC (.int 1)))) (.nm 3) (sExp (mMet gAppend (mVar 2) (aCons (mGc (mCall gTuple (aCons (mLc (sSeq (mVar 3)) (.nm 4) (mBo (mB (gIn false) (mVar 4) (mVar 1))) (mVar 4) [4]) aNil))) aNil)))) (sRet (mCall F__law_tops (aCons (mVar 2) aNil)))))
noncomputable def F__law_grown : GA := runF 5 2 b__law_grown
/-- slots: 0 heap, 1 best_one, 2 lot, 3 some, 4 few, 5 most, 6 one -/
noncomputable def b__law_share : MS := (bSeq (sAsg (mTup (aCons (mC (.int 1)) (aCons (mC (.int 1)) (aCons (mTup aNil) (aCons (mTup aNil) aNil))))) (.nm 1)) (bSeq (sFor (sSeq (mGc (mCall F__law_lots (aCons (mLR1 (mB gIx (mVar 0) (mC (.int 0)))) aNil)))) (.nm 2) (bSeq (sAsg (mCall F__law_grown (aCons (mVar 0) (aCons (mVar 2) aNil))) (.nm 3)) (bSeq (sPar (aCons (mGc (mCall gMin1X (aCons (mLc (sSeq (mVar 3)) (.nm 6) tYesM (mTup (aCons (mCall gLen (aCons (mVar 6) aNil)) (aCons (mVar 6) aNil))) [6]) aNil))) (aCons (mGc (mCall gMax1X (aCons (mLc (sSeq (mVar 3)) (.nm 6) tYesM (mCall gLen (aCons (mVar 6) aNil)) [6]) aNil))) aNil)) [4, 5]) (sIf (mBo (mB gLtA (mB gMul (mB gIx (mVar 4) (mC (.int 0))) (mB gIx (mVar 1) (mC (.int 1)))) (mB gMul (mB gIx (mVar 1) (mC (.int 0))) (mVar 5)))) (sAsg (mTup (aCons (mB gIx (mVar 4) (mC (.int 0))) (aCons (mVar 5) (aCons (mB gIx (mVar 4) (mC (.int 1))) (aCons (mVar 2) aNil))))) (.nm 1)) bNil)))) (sRet (mVar 1))))
noncomputable def F__law_share : GA := runF 7 1 b__law_share
/-- slots: 0 pot, 1 heap, 2 choices, 3 many, 4 few, 5 most, 6 small, 7 lot, 8 lap, 9 weights, 10 got, 11 can, 12 thing -/
noncomputable def b__law_right : MS := (bSeq (sAsg (mCall F__law_heap (aCons (mVar 0) aNil)) (.tup [1, 2])) (bSeq (sAsg (mB gIx (mVar 1) (mC (.int 0))) (.nm 3)) (bSeq (sAsg (mCall F__law_share (aCons (mVar 1) aNil)) (.tup [4, 5, 6, 7])) (bSeq (sIf (tOrM (mBo (mB gNotN (mCall F_is_heap (aCons (mVar 1) aNil)) (mC (.bool true)))) (mBo (mB gNe (mB gEq (mCall F_always_best (aCons (mVar 1) aNil)) (mTup (aCons (mC (.str "choice")) aNil))) (mB gEq (mVar 4) (mVar 5))))) (sRet (mC (.bool false))) bNil) (bSeq (sIf (tOrM (mBo (mB gNe (mCall F_is_choice (aCons (mVar 1) aNil)) (mB gEq (mVar 4) (mVar 5)))) (tAndM (mBo (mB gGt (mVar 2) (mC (.int 0)))) (mBo (mB gLtA (mB gMul (mVar 4) (mVar 2)) (mVar 5))))) (sRet (mC (.bool false))) bNil) (bSeq (sFor (sRng1 (aCons (mC (.int 4)) aNil)) (.nm 8) (bSeq (sAsg (mCall F__law_weights (aCons (mVar 0) (aCons (mVar 3) (aCons (mGc (mCall F__law_of (aCons (mVar 0) (aCons (mLst (aCons (mC (.int 2)) (aCons (mC (.int 5)) (aCons (mC (.int 1001)) aNil)))) aNil)))) aNil)))) (.nm 9)) (bSeq (sPar (aCons (mCall F__law_weighs (aCons (mVar 9) (aCons (mCall F_next_best (aCons (mVar 1) (aCons (mVar 9) aNil))) aNil))) (aCons (mB gIx (mCall F_best (aCons (mVar 1) (aCons (mVar 9) aNil))) (mC (.int 0))) aNil)) [10, 11]) (sIf (tOrM (mBo (mB gLtA (mB gMul (mVar 10) (mVar 5)) (mB gMul (mVar 4) (mVar 11)))) (mBo (mB gGt (mVar 10) (mVar 11)))) (sRet (mC (.bool false))) bNil)))) (bSeq (sIf (mBo (mB gEq (mVar 4) (mVar 5))) (sRet (mC (.bool true))) bNil) (bSeq (sAsg (mGc (mCall gTuple (aCons (mLc (sRng1 (aCons (mVar 3) aNil)) (.nm 12) tYesM (mIf (mBo (mB (gIn false) (mVar 12) (mVar 7))) (mIf (mBo (mB (gIn false) (mVar 12) (mVar 6))) (mC (.int 1000)) (mC (.int 999))) (mC (.int 0))) [12]) aNil))) (.nm 9)) (bSeq (sPar (aCons (mCall F__law_weighs (aCons (mVar 9) (aCons (mCall F_next_best (aCons (mVar 1) (aCons (mVar 9) aNil))) aNil))) (aCons (mB gIx (mCall F_best (aCons (mVar 1) (aCons (mVar 9) aNil))) (mC (.int 0))) aNil)) [10, 11]) (bSeq (sIf (tOrM (mBo (mB gNe (mVar 10) (mB gMul (mC (.int 1000)) (mVar 4)))) (mBo (mB gLtA (mVar 11) (mB gMul (mC (.int 999)) (mVar 5))))) (sRet (mC (.bool false))) bNil) (sRet (mB gIsN (mCall F_shows_always_best (aCons (mVar 1) (aCons (mTup (aCons (mC (.str "weights")) (aCons (mVar 9) (aCons (mB gIx (mCall F_best (aCons (mVar 1) (aCons (mVar 9) aNil))) (mC (.int 1))) aNil)))) aNil))) (mC (.bool true))))))))))))))
noncomputable def F__law_right : GA := runF 13 1 b__law_right
/-- slots: 0 script, 1 number, 2 heap, 3 place, 4 pot, 5 lap -/
noncomputable def b_law : MS := (bSeq (sAsg (mB gAdd (mC (.int 1)) (mB gMod (mCall gInt (aCons (mGc (mCall gSum (aCons (mSl (mVar 0) oNone (oSome (mC (.int 1)))) aNil))) aNil)) (mC (.int 999)))) (.nm 1)) (bSeq (sAsg (mTup (aCons (mC (.int 3)) (aCons (mTup (aCons (mTup (aCons (mC (.int 0)) (aCons (mC (.int 2)) aNil))) (aCons (mTup (aCons (mC (.int 1)) aNil)) aNil))) aNil))) (.nm 2)) (bSeq (sIf (tOrM (mBo (mB gNe (mCall F_next_best (aCons (mVar 2) (aCons (mTup (aCons (mVar 1) (aCons (mB gAdd (mVar 1) (mC (.int 1))) (aCons (mVar 1) aNil)))) aNil))) (mTup (aCons (mC (.int 1)) aNil)))) (mBo (mB gNe (mB gIx (mCall F_best (aCons (mVar 2) (aCons (mTup (aCons (mVar 1) (aCons (mB gAdd (mVar 1) (mC (.int 1))) (aCons (mVar 1) aNil)))) aNil))) (mC (.int 0))) (mCall gMax2 (aCons (mB gMul (mC (.int 2)) (mVar 1)) (aCons (mB gAdd (mVar 1) (mC (.int 1))) aNil)))))) (sRet (mC (.bool false))) bNil) (bSeq (sFor (sSeq (mCall F__law_places (aCons (mVar 0) (aCons (mC (.int 2)) aNil)))) (.nm 3) (bSeq (sAsg (mCall F__law_pot (aCons (mVar 0) (aCons (mVar 3) aNil))) (.nm 4)) (sIf (tNotM (tTru (mGc (mCall gAll (aCons (mLc (sRng1 (aCons (mC (.int 3)) aNil)) (.nm 5) tYesM (mCall F__law_right (aCons (mVar 4) aNil)) [5]) aNil))))) (sRet (mC (.bool false))) bNil))) (sRet (mC (.bool true)))))))
noncomputable def F_law : GA := runF 6 1 b_law
end Wk
set_option Elab.async false
set_option linter.all false
set_option autoImplicit false
namespace Mt
/-! ### sets of the first n numbers -/
abbrev S := Nat → Bool
def cd (n : Nat) (s : S) : Nat := (List.range n).countP s
theorem cd_zero (s : S) : cd 0 s = 0 := rfl
theorem cd_succ (n : Nat) (s : S) : cd (n + 1) s = cd n s + (if s n = true then 1 else 0) := by
  unfold cd
  rw [List.range_succ, List.countP_append]
  simp [List.countP_cons]
def Sub (n : Nat) (s t : S) : Prop := ∀ x, x < n → s x = true → t x = true
theorem Sub.refl (n : Nat) (s : S) : Sub n s s := fun _ _ h => h
theorem Sub.trans {n : Nat} {s t u : S} (a : Sub n s t) (b : Sub n t u) : Sub n s u := fun x hx h => b x hx (a x hx h)
def ins (s : S) (y : Nat) : S := fun x => s x || x == y
def del (s : S) (y : Nat) : S := fun x => s x && !(x == y)
def cap (s t : S) : S := fun x => s x && t x
def cup (s t : S) : S := fun x => s x || t x
def df (s t : S) : S := fun x => s x && !t x
def emp : S := fun _ => false
@[simp] theorem ins_ap (s : S) (y x : Nat) : ins s y x = (s x || x == y) := rfl
@[simp] theorem del_ap (s : S) (y x : Nat) : del s y x = (s x && !(x == y)) := rfl
@[simp] theorem cap_ap (s t : S) (x : Nat) : cap s t x = (s x && t x) := rfl
@[simp] theorem cup_ap (s t : S) (x : Nat) : cup s t x = (s x || t x) := rfl
@[simp] theorem df_ap (s t : S) (x : Nat) : df s t x = (s x && !t x) := rfl
@[simp] theorem emp_ap (x : Nat) : emp x = false := rfl
theorem cd_mono {s t : S} : ∀ {n : Nat}, Sub n s t → cd n s ≤ cd n t
  | 0, _ => Nat.le_refl _
  | n + 1, h => by
    have ih := cd_mono (s := s) (t := t) (n := n) fun x hx hs => h x (by omega) hs
    have := h n (by omega)
    rw [cd_succ, cd_succ]
    cases hs : s n <;> cases ht : t n <;> simp_all <;> omega
theorem cd_congr {n : Nat} {s t : S} (h : ∀ x, x < n → s x = t x) : cd n s = cd n t :=
  Nat.le_antisymm (cd_mono fun x hx e => by rw [← h x hx]; exact e) (cd_mono fun x hx e => by rw [h x hx]; exact e)
theorem cd_or_and (s t : S) : ∀ n, cd n (cup s t) + cd n (cap s t) = cd n s + cd n t
  | 0 => rfl
  | n + 1 => by
    have ih := cd_or_and s t n
    rw [cd_succ, cd_succ, cd_succ, cd_succ]
    cases hs : s n <;> cases ht : t n <;> simp [hs, ht] <;> omega
theorem cd_split (s t : S) : ∀ n, cd n s = cd n (cap s t) + cd n (df s t)
  | 0 => rfl
  | n + 1 => by
    have ih := cd_split s t n
    rw [cd_succ, cd_succ, cd_succ]
    cases hs : s n <;> cases ht : t n <;> simp [hs, ht] <;> omega
theorem cd_le (s : S) : ∀ n, cd n s ≤ n
  | 0 => Nat.le_refl _
  | n + 1 => by
    have ih := cd_le s n
    rw [cd_succ]
    split <;> omega
theorem cd_lt {s t : S} : ∀ {n : Nat}, cd n s < cd n t → ∃ x, x < n ∧ t x = true ∧ s x = false
  | 0, h => absurd h (Nat.lt_irrefl _)
  | n + 1, h => by
    rw [cd_succ, cd_succ] at h
    by_cases h2 : cd n s < cd n t
    · obtain ⟨x, hx, e⟩ := cd_lt h2
      exact ⟨x, by omega, e⟩
    · refine ⟨n, by omega, ?_⟩
      cases hs : s n <;> cases ht : t n <;> simp [hs, ht] at h ⊢ <;> omega
theorem cd_eq_sub {n : Nat} {s t : S} (h : Sub n s t) (c : cd n t ≤ cd n s) : Sub n t s := fun x hx ht => by
  cases hs : s x with
  | true => rfl
  | false =>
    have e := cd_split t s n
    have e1 : cd n (cap t s) = cd n s := cd_congr fun x hx => by
      have := h x hx
      cases hs : s x <;> cases ht : t x <;> simp_all
    have e2 : 0 < cd n (df t s) := by
      refine Nat.pos_of_ne_zero fun z => ?_
      have : (List.range n).countP (df t s) = 0 := z
      rw [List.countP_eq_zero] at this
      have := this x (List.mem_range.mpr hx)
      simp [ht, hs] at this
    omega
theorem cd_one (y : Nat) : ∀ n, cd n (fun x => x == y) = if y < n then 1 else 0
  | 0 => by simp [cd]
  | n + 1 => by
    rw [cd_succ, cd_one y n]
    by_cases h : n = y
    · subst h; simp
    · have : (n == y) = false := by simpa using h
      rw [this]
      by_cases h2 : y < n
      · simp [h2, Nat.lt_succ_of_lt h2]
      · have h3 : ¬ y < n + 1 := by omega
        simp [h2, h3]
theorem cd_ins {n : Nat} {s : S} {y : Nat} (hy : y < n) (h : s y = false) : cd n (ins s y) = cd n s + 1 := by
  have e := cd_or_and s (fun x => x == y) n
  rw [cd_one, if_pos hy] at e
  have e1 : cd n (cap s fun x => x == y) = 0 := by
    unfold cd
    rw [List.countP_eq_zero]
    intro x hx
    simp only [cap_ap]
    by_cases z : x = y
    · subst z; simp [h]
    · simp [z]
  have e2 : cd n (cup s fun x => x == y) = cd n (ins s y) := rfl
  omega
theorem cd_del {n : Nat} {s : S} {y : Nat} (hy : y < n) (h : s y = true) : cd n (del s y) + 1 = cd n s := by
  have e : cd n (ins (del s y) y) = cd n (del s y) + 1 := cd_ins hy (by simp)
  rw [← e]
  refine cd_congr fun x hx => ?_
  by_cases z : x = y
  · subst z; simp [h]
  · have zb : (x == y) = false := by simpa using z
    simp [zb]
theorem cd_emp (n : Nat) : cd n emp = 0 := by
  unfold cd
  rw [List.countP_eq_zero]
  simp
theorem cd_cap_le (n : Nat) (s t : S) : cd n (cap s t) ≤ cd n s := cd_mono fun x _ h => by simp at h; exact h.1

/-! ### families that let the part of a lot they let -/
structure Her (n : Nat) (F : S → Prop) : Prop where
  sub : ∀ {s t : S}, Sub n s t → F t → F s
structure MaxIn (n : Nat) (F : S → Prop) (U A : S) : Prop where
  sub : Sub n A U
  mem : F A
  max : ∀ y, y < n → U y = true → A y = false → ¬ F (ins A y)
theorem ins_sub {n : Nat} {s t : S} {y : Nat} (h : Sub n s t) (hy : t y = true) : Sub n (ins s y) t := fun x hx e => by
  simp at e
  rcases e with e | e
  · exact h x hx e
  · subst e; exact hy
theorem sub_ins (n : Nat) (s : S) (y : Nat) : Sub n s (ins s y) := fun x _ e => by simp [e]
theorem Her.congr {n : Nat} {F : S → Prop} (h : Her n F) {s t : S} (e : ∀ x, x < n → s x = t x) : F s ↔ F t :=
  ⟨fun f => h.sub (fun x hx q => by rw [e x hx]; exact q) f, fun f => h.sub (fun x hx q => by rw [← e x hx]; exact q) f⟩
theorem max_ex {n : Nat} {F : S → Prop} : ∀ (k : Nat) {U A : S}, n - cd n A ≤ k → Sub n A U → F A → ∃ M, MaxIn n F U M ∧ Sub n A M
  | k, U, A, hk, hs, hf => by
    by_cases h : ∃ y, y < n ∧ U y = true ∧ A y = false ∧ F (ins A y)
    · obtain ⟨y, hy, hu, ha, f⟩ := h
      have c := cd_ins hy ha
      have l := cd_le (ins A y) n
      match k with
      | 0 => omega
      | k + 1 =>
        obtain ⟨M, m, s⟩ := max_ex k (by omega) (ins_sub hs hu) f
        exact ⟨M, m, (sub_ins n A y).trans s⟩
    · exact ⟨A, ⟨hs, hf, fun y hy hu ha f => h ⟨y, hy, hu, ha, f⟩⟩, Sub.refl n A⟩
theorem max_of {n : Nat} {F : S → Prop} {U A : S} (hs : Sub n A U) (hf : F A) : ∃ M, MaxIn n F U M ∧ Sub n A M := max_ex _ (Nat.le_refl _) hs hf
/-- a lot that is let and has a greatest one within it is this one -/
theorem MaxIn.all {n : Nat} {F : S → Prop} (h : Her n F) {U A B : S} (m : MaxIn n F U A) (hb : F B) (hs : Sub n B U) (hab : Sub n A B) : Sub n B A := fun x hx hB => by
  cases ha : A x with
  | true => rfl
  | false => exact absurd (h.sub (ins_sub hab hB) hb) (m.max x hx (hs x hx hB) ha)
/-! ### taking the next one -/
open Classical in
noncomputable def gs (F : S → Prop) : List Nat → S
  | [] => emp
  | x :: l => if F (ins (gs F l) x) then ins (gs F l) x else gs F l
def lmem (l : List Nat) : S := fun x => decide (x ∈ l)
@[simp] theorem lmem_ap (l : List Nat) (x : Nat) : lmem l x = decide (x ∈ l) := rfl
theorem gs_mem {F : S → Prop} (h0 : F emp) : ∀ l, F (gs F l)
  | [] => h0
  | x :: l => by
    unfold gs
    split
    · assumption
    · exact gs_mem h0 l
theorem gs_in {F : S → Prop} : ∀ {l : List Nat} {x : Nat}, gs F l x = true → x ∈ l
  | [], x, h => by cases h
  | y :: l, x, h => by
    unfold gs at h
    split at h
    · simp at h
      rcases h with h | h
      · exact List.mem_cons_of_mem _ (gs_in h)
      · subst h; simp
    · exact List.mem_cons_of_mem _ (gs_in h)
theorem gs_max {n : Nat} {F : S → Prop} (h0 : F emp) (h : Her n F) : ∀ l, MaxIn n F (lmem l) (gs F l)
  | [] => ⟨(fun _ _ h => by cases h), h0, (fun y _ h => by simp at h)⟩
  | x :: l => by
    have ih := gs_max h0 h l
    refine ⟨fun y _ e => by simpa using gs_in e, gs_mem h0 _, fun y hy hu ha hf => ?_⟩
    unfold gs at ha hf
    by_cases f : F (ins (gs F l) x)
    · rw [if_pos f] at ha hf
      simp at ha hu
      rcases hu with hu | hu
      · exact ha.2 hu
      · refine ih.max y hy (by simpa using hu) ha.1 (h.sub (fun z hz e => ?_) hf)
        simp at e ⊢
        rcases e with e | e
        · exact .inl (.inl e)
        · exact .inr e
    · rw [if_neg f] at ha hf
      simp at hu
      rcases hu with hu | hu
      · subst hu; exact f hf
      · exact ih.max y hy (by simpa using hu) ha hf
/-- things as heavy as c at least -/
theorem gs_from {n : Nat} {F : S → Prop} (h0 : F emp) (h : Her n F) (w : Nat → Nat) (c : Nat) : ∀ l, l.Pairwise (fun a b => w a ≤ w b) →
    MaxIn n F (fun x => decide (x ∈ l) && decide (c ≤ w x)) (cap (gs F l) fun x => decide (c ≤ w x))
  | [], _ => ⟨(fun _ _ h => by simp [gs] at h), h.sub (fun x _ e => by simp [gs] at e) h0, (fun y _ h => by simp at h)⟩
  | x :: l, p => by
    rw [List.pairwise_cons] at p
    by_cases hc : c ≤ w x
    · have m := gs_max h0 h (x :: l)
      have hw : ∀ y, y ∈ x :: l → c ≤ w y := fun y hy => by
        simp at hy
        rcases hy with hy | hy
        · subst hy; exact hc
        · exact Nat.le_trans hc (p.1 y hy)
      have e1 : ∀ y, (cap (gs F (x :: l)) fun x => decide (c ≤ w x)) y = gs F (x :: l) y := fun y => by
        cases hg : gs F (x :: l) y with
        | true => simp [hg, hw y (gs_in hg)]
        | false => simp [hg]
      have e1' := funext e1
      rw [e1']
      refine ⟨fun y hy e => ?_, m.mem, fun y hy hu ha => m.max y hy (by simp at hu ⊢; exact hu.1) ha⟩
      have := gs_in e
      simp only [Bool.and_eq_true, decide_eq_true_eq]
      exact ⟨this, hw y this⟩
    · have ih := gs_from h0 h w c l p.2
      have e1 : (cap (gs F (x :: l)) fun x => decide (c ≤ w x)) = cap (gs F l) fun x => decide (c ≤ w x) := by
        funext y
        simp only [cap_ap]
        conv => lhs; unfold gs
        split
        · by_cases z : y = x
          · subst z; simp [hc]
          · have zb : (y == x) = false := by simpa using z
            simp [zb]
        · rfl
      have e2 : (fun y => decide (y ∈ x :: l) && decide (c ≤ w y)) = fun y => decide (y ∈ l) && decide (c ≤ w y) := by
        funext y
        by_cases z : y = x
        · subst z; simp [hc]
        · simp [z]
      rw [e1, e2]
      exact ih
/-- what a set weighs, over a list -/
def wl (w : Nat → Nat) (s : S) : List Nat → Nat
  | [] => 0
  | x :: l => (if s x = true then w x else 0) + wl w s l
theorem wl_congr {w : Nat → Nat} {s t : S} : ∀ {l : List Nat}, (∀ x ∈ l, s x = t x) → wl w s l = wl w t l
  | [], _ => rfl
  | x :: l, h => by
    unfold wl
    rw [h x (by simp), wl_congr fun y hy => h y (List.mem_cons_of_mem _ hy)]
def cl (s : S) (l : List Nat) : Nat := l.countP s
/-- the share -/
def Share (n : Nat) (F : S → Prop) (f m : Nat) : Prop := ∀ U A B, MaxIn n F U A → F B → Sub n B U → f * cd n B ≤ m * cd n A
theorem cl_cd {n : Nat} {s : S} {l : List Nat} (nd : l.Nodup) (hl : ∀ x ∈ l, x < n) : cl s l = cd n (fun x => s x && decide (x ∈ l)) := by
  unfold cl cd
  have p : (l.Perm ((List.range n).filter fun x => decide (x ∈ l))) := by
    refine (List.perm_ext_iff_of_nodup nd (List.nodup_range.filter _)).mpr fun x => ?_
    simp
    exact fun h => hl x h
  rw [p.countP_eq, List.countP_filter]
theorem ab_lin (f m c w g b C D V W : Int) (ih : f*V + w*(m*C - f*D) ≤ m*W) (pr : 0 ≤ (w-c)*(m*(g+C) - f*(b+D))) : f*(b*w+V) + c*(m*(g+C) - f*(b+D)) ≤ m*(g*w+W) := by
  have e : m*(g*w+W) - (f*(b*w+V) + c*(m*(g+C) - f*(b+D))) = (m*W - (f*V + w*(m*C - f*D))) + (w-c)*(m*(g+C) - f*(b+D)) := by grind
  omega
theorem gs_abel {n : Nat} {F : S → Prop} (h0 : F emp) (h : Her n F) {f m : Nat} (sh : Share n F f m) (w : Nat → Nat) {B : S} (hB : F B) : ∀ l, l.Nodup → (∀ x ∈ l, x < n) → l.Pairwise (fun a b => w a ≤ w b) →
    ∀ c : Nat, (∀ x ∈ l, c ≤ w x) → (f : Int) * wl w B l + c * ((m : Int) * cl (gs F l) l - f * cl B l) ≤ m * wl w (gs F l) l
  | [], _, _, _, c, _ => by simp [wl, cl]
  | x :: l, nd, hn, p, c, hc => by
    have nd' := nd
    rw [List.pairwise_cons] at p
    rw [List.nodup_cons] at nd
    have ih := gs_abel h0 h sh w hB l nd.2 (fun y hy => hn y (List.mem_cons_of_mem _ hy)) p.2 (w x) p.1
    have D : f * cl B (x :: l) ≤ m * cl (gs F (x :: l)) (x :: l) := by
      rw [cl_cd nd' hn, cl_cd nd' hn]
      have := sh (lmem (x :: l)) (gs F (x :: l)) (fun y => B y && decide (y ∈ x :: l)) (gs_max h0 h _) (h.sub (fun y _ e => by simp at e; exact e.1) hB) (fun y _ e => by simpa using (by simpa using e : B y = true ∧ _).2)
      have e : cd n (gs F (x :: l)) = cd n (fun y => gs F (x :: l) y && decide (y ∈ x :: l)) := cd_congr fun y _ => by
        cases hg : gs F (x :: l) y with
        | true => simp [gs_in hg]
        | false => simp
      rw [← e]
      exact this
    have e1 : wl w (gs F (x :: l)) (x :: l) = (if gs F (x :: l) x = true then w x else 0) + wl w (gs F l) l := by
      show (if gs F (x :: l) x = true then w x else 0) + wl w (gs F (x :: l)) l = _
      rw [wl_congr (t := gs F l) fun y hy => ?_]
      conv => lhs; unfold gs
      split
      · have : y ≠ x := fun z => nd.1 (z ▸ hy)
        simp [this]
      · rfl
    have e2 : cl (gs F (x :: l)) (x :: l) = (if gs F (x :: l) x = true then 1 else 0) + cl (gs F l) l := by
      unfold cl
      rw [List.countP_cons]
      rw [List.countP_congr (q := gs F l) fun y hy => ?_, Nat.add_comm]
      conv => lhs; unfold gs
      split
      · have : y ≠ x := fun z => nd.1 (z ▸ hy)
        simp [this]
      · rfl
    have e3 : cl B (x :: l) = (if B x = true then 1 else 0) + cl B l := by
      unfold cl
      rw [List.countP_cons, Nat.add_comm]
    have e4 : wl w B (x :: l) = (if B x = true then w x else 0) + wl w B l := rfl
    have D' : (0 : Int) ≤ (m : Int) * cl (gs F (x :: l)) (x :: l) - f * cl B (x :: l) := by
      have : ((f * cl B (x :: l) : Nat) : Int) ≤ ((m * cl (gs F (x :: l)) (x :: l) : Nat) : Int) := Int.ofNat_le.mpr D
      push_cast at this
      omega
    have cx : (0 : Int) ≤ (w x : Int) - c := by
      have := hc x (by simp)
      omega
    have pr := Int.mul_nonneg cx D'
    rw [e2, e3] at pr
    rw [e1, e2, e3, e4]
    have b1 : ((if B x = true then w x else 0 : Nat) : Int) = ((if B x = true then 1 else 0 : Nat) : Int) * w x := by cases B x <;> simp
    have b2 : ((if gs F (x :: l) x = true then w x else 0 : Nat) : Int) = ((if gs F (x :: l) x = true then 1 else 0 : Nat) : Int) * w x := by cases gs F (x :: l) x <;> simp
    rw [Int.natCast_add, Int.natCast_add] at pr ⊢
    rw [Int.natCast_add, Int.natCast_add, b1, b2]
    exact ab_lin _ _ _ _ _ _ _ _ _ _ ih pr
theorem gs_weight {n : Nat} {F : S → Prop} (h0 : F emp) (h : Her n F) {f m : Nat} (sh : Share n F f m) (w : Nat → Nat) {B : S} (hB : F B) {l : List Nat} (nd : l.Nodup) (hl : ∀ x ∈ l, x < n) (p : l.Pairwise (fun a b => w a ≤ w b)) : f * wl w B l ≤ m * wl w (gs F l) l := by
  have := gs_abel h0 h sh w hB l nd hl p 0 (fun _ _ => Nat.zero_le _)
  have e : ((f * wl w B l : Nat) : Int) ≤ ((m * wl w (gs F l) l : Nat) : Int) := by
    push_cast
    simpa using this
  exact Int.ofNat_le.mp e
end Mt
set_option Elab.async false
set_option linter.all false
set_option autoImplicit false
namespace Mt
def Aug (n : Nat) (F : S → Prop) : Prop := ∀ A B, F A → F B → cd n A < cd n B → ∃ y, y < n ∧ B y = true ∧ A y = false ∧ F (ins A y)
open Classical in
theorem meet_step {n : Nat} {A B : S} (Gs : List (S → Prop)) (her : ∀ G ∈ Gs, Her n G) (aug : ∀ G ∈ Gs, Aug n G) (hA : ∀ G ∈ Gs, G A) (hB : ∀ G ∈ Gs, G B) :
    cd n (fun b => B b && !A b && decide (∃ G ∈ Gs, ¬ G (ins A b))) + Gs.length * cd n (cap A B) ≤ Gs.length * cd n A := by
  induction Gs with
  | nil =>
    simp
    exact cd_emp n
  | cons G Gs ih =>
    have ih := ih (fun g hg => her g (List.mem_cons_of_mem _ hg)) (fun g hg => aug g (List.mem_cons_of_mem _ hg)) (fun g hg => hA g (List.mem_cons_of_mem _ hg)) (fun g hg => hB g (List.mem_cons_of_mem _ hg))
    have h1 : cd n (fun b => B b && !A b && decide (¬ G (ins A b))) + cd n (cap A B) ≤ cd n A := by
      have e := cd_or_and (fun b => B b && !A b && decide (¬ G (ins A b))) (cap A B) n
      have e0 : cd n (cap (fun b => B b && !A b && decide (¬ G (ins A b))) (cap A B)) = 0 := by
        rw [← cd_emp n]
        exact cd_congr fun x _ => by cases ha : A x <;> simp [ha]
      rw [e0] at e
      rw [← e, Nat.add_zero]
      refine Nat.le_of_not_lt fun c => ?_
      obtain ⟨y, hy, h2, h3, h4⟩ := aug G (by simp) A _ (hA G (by simp)) ((her G (by simp)).sub (t := B) (fun x _ q => by
        simp at q
        rcases q with q | q
        · exact q.1.1
        · exact q.2) (hB G (by simp))) c
      simp [h3] at h2
      exact h2.2 h4
    have h2 : cd n (fun b => B b && !A b && decide (∃ g ∈ G :: Gs, ¬ g (ins A b))) ≤ cd n (fun b => B b && !A b && decide (¬ G (ins A b))) + cd n (fun b => B b && !A b && decide (∃ g ∈ Gs, ¬ g (ins A b))) := by
      have e := cd_or_and (fun b => B b && !A b && decide (¬ G (ins A b))) (fun b => B b && !A b && decide (∃ g ∈ Gs, ¬ g (ins A b))) n
      rw [← e]
      refine Nat.le_trans (cd_mono fun x _ q => ?_) (Nat.le_add_right _ _)
      simp at q ⊢
      obtain ⟨⟨q1, q2⟩, q3⟩ := q
      rcases q3 with q3 | q3
      · exact .inl ⟨⟨q1, q2⟩, q3⟩
      · exact .inr ⟨⟨q1, q2⟩, q3⟩
    rw [List.length_cons, Nat.add_mul, Nat.add_mul]
    omega
open Classical in
theorem meet_share {n : Nat} {F : S → Prop} (Fs : List (S → Prop)) (hF : ∀ s, F s ↔ ∀ G ∈ Fs, G s) (her : ∀ G ∈ Fs, Her n G) (aug : ∀ G ∈ Fs, Aug n G) (ne : Fs ≠ []) : Share n F 1 Fs.length := by
  intro U A B m hB hs
  have st := meet_step Fs her aug ((hF A).mp m.mem) ((hF B).mp hB)
  have e : cd n (fun b => B b && !A b && decide (∃ G ∈ Fs, ¬ G (ins A b))) = cd n (df B A) := cd_congr fun b hb => by
    cases hB : B b with
    | false => simp [hB]
    | true =>
      cases hA : A b with
      | true => simp [hB, hA]
      | false =>
        have : ∃ G ∈ Fs, ¬ G (ins A b) := by
          have := m.max b hb (hs b hb hB) hA
          rw [hF] at this
          simpa using this
        simp [hB, hA]
        simpa using this
  rw [e] at st
  have e2 := cd_split B A n
  have e3 : cd n (cap A B) = cd n (cap B A) := cd_congr fun x _ => by simp [Bool.and_comm]
  have e4 : 1 ≤ Fs.length := by
    cases Fs with
    | nil => exact absurd rfl ne
    | cons _ _ => simp
  have e5 : 1 * cd n (cap A B) ≤ Fs.length * cd n (cap A B) := Nat.mul_le_mul_right _ e4
  omega
theorem aug_share {n : Nat} {F : S → Prop} (aug : Aug n F) : Share n F 1 1 := by
  intro U A B m hB hs
  simp only [Nat.one_mul]
  refine Nat.le_of_not_lt fun c => ?_
  obtain ⟨y, hy, h2, h3, h4⟩ := aug A B m.mem hB c
  exact m.max y hy (hs y hy h2) h3 h4
theorem share_aug {n : Nat} {F : S → Prop} (sh : ∀ U A B, MaxIn n F U A → MaxIn n F U B → cd n A = cd n B) : Aug n F := by
  intro A B hA hB c
  apply Classical.byContradiction
  intro no
  obtain ⟨M, mm, ms⟩ := max_of (U := cup A B) (A := B) (fun x _ h => by simp [h]) hB
  have : MaxIn n F (cup A B) A := ⟨fun x _ h => by simp [h], hA, fun y hy hu ha f => no ⟨y, hy, by simpa [ha] using hu, ha, f⟩⟩
  have e := sh _ _ _ this mm
  have := cd_mono ms
  omega
/-! ### tops -/
def Fam (n : Nat) (ts : List S) (s : S) : Prop := ∃ t ∈ ts, Sub n s t
theorem fam_her (n : Nat) (ts : List S) : Her n (Fam n ts) := ⟨fun h ⟨t, ht, hs⟩ => ⟨t, ht, h.trans hs⟩⟩
def Exch (n : Nat) (ts : List S) : Prop := ∀ t ∈ ts, ∀ u ∈ ts, ∀ x, x < n → t x = true → u x = false → ∃ y, y < n ∧ u y = true ∧ t y = false ∧ ∃ v ∈ ts, ∀ z, z < n → v z = ins (del t x) y z
def AntiS (n : Nat) (ts : List S) : Prop := ∀ t ∈ ts, ∀ u ∈ ts, Sub n t u → Sub n u t
theorem exch_cd {n : Nat} {t : S} {x y : Nat} (hx : x < n) (hy : y < n) (h1 : t x = true) (h2 : t y = false) {v : S} (hv : ∀ z, z < n → v z = ins (del t x) y z) : cd n v = cd n t := by
  rw [cd_congr hv, cd_ins hy (by simp [h2])]
  exact cd_del hx h1
theorem exch_le {n : Nat} {ts : List S} (ex : Exch n ts) : ∀ (k : Nat) {t u : S}, t ∈ ts → u ∈ ts → cd n (df t u) ≤ k → cd n t ≤ cd n u
  | k, t, u, ht, hu, hk => by
    by_cases h : ∃ x, x < n ∧ t x = true ∧ u x = false
    · obtain ⟨x, hx, h1, h2⟩ := h
      obtain ⟨y, hy, h3, h4, v, hv, e⟩ := ex t ht u hu x hx h1 h2
      have c : cd n (df v u) + 1 ≤ cd n (df t u) := by
        rw [← cd_del (s := df t u) hx (by simp [h1, h2])]
        refine Nat.succ_le_succ (cd_mono fun z hz q => ?_)
        simp [e z hz] at q ⊢
        obtain ⟨q1, q2⟩ := q
        rcases q1 with q1 | q1
        · exact ⟨⟨q1.1, q2⟩, q1.2⟩
        · subst q1; rw [h3] at q2; cases q2
      match k with
      | 0 => omega
      | k + 1 =>
        rw [← exch_cd hx hy h1 h4 e]
        exact exch_le ex k hv hu (by omega)
    · refine cd_mono fun x hx e => ?_
      cases hu : u x with
      | true => rfl
      | false => exact absurd ⟨x, hx, e, hu⟩ h
theorem exch_eq {n : Nat} {ts : List S} (ex : Exch n ts) {t u : S} (ht : t ∈ ts) (hu : u ∈ ts) : cd n t = cd n u :=
  Nat.le_antisymm (exch_le ex _ ht hu (Nat.le_refl _)) (exch_le ex _ hu ht (Nat.le_refl _))
theorem exch_aug1 {n : Nat} {ts : List S} (ex : Exch n ts) {A B T1 : S} (h1 : T1 ∈ ts) (s1 : Sub n A T1) (c : cd n A < cd n B) : ∀ (k : Nat) {T2 : S}, T2 ∈ ts → Sub n B T2 → cd n (df T2 (cup B T1)) ≤ k → ∃ y, y < n ∧ B y = true ∧ A y = false ∧ Fam n ts (ins A y)
  | k, T2, h2, s2, hk => by
    by_cases h : ∃ x, x < n ∧ T2 x = true ∧ B x = false ∧ T1 x = false
    · obtain ⟨x, hx, p1, p2, p3⟩ := h
      obtain ⟨y, hy, h3, h4, v, hv, e⟩ := ex T2 h2 T1 h1 x hx p1 p3
      have c2 : cd n (df v (cup B T1)) + 1 ≤ cd n (df T2 (cup B T1)) := by
        rw [← cd_del (s := df T2 (cup B T1)) hx (by simp [p1, p2, p3])]
        refine Nat.succ_le_succ (cd_mono fun z hz q => ?_)
        simp [e z hz] at q ⊢
        obtain ⟨q1, q2⟩ := q
        rcases q1 with q1 | q1
        · exact ⟨⟨q1.1, q2⟩, q1.2⟩
        · subst q1; rw [h3] at q2; cases q2.2
      match k with
      | 0 => omega
      | k + 1 =>
        refine exch_aug1 ex h1 s1 c k hv (fun z hz q => ?_) (by omega)
        rw [e z hz]
        have := s2 z hz q
        by_cases zx : z = x
        · subst zx; rw [p2] at q; cases q
        · have zb : (z == x) = false := by simpa using zx
          simp [this, zb]
    · by_cases h' : ∃ x, x < n ∧ T1 x = true ∧ A x = false ∧ T2 x = false
      · obtain ⟨x, hx, p1, p2, p3⟩ := h'
        obtain ⟨y, hy, h3, h4, v, hv, e⟩ := ex T1 h1 T2 h2 x hx p1 p3
        have ay : A y = false := by
          cases ha : A y with
          | false => rfl
          | true => rw [s1 y hy ha] at h4; cases h4
        refine ⟨y, hy, ?_, ay, v, hv, fun z hz q => ?_⟩
        · cases hb : B y with
          | true => rfl
          | false => exact absurd ⟨y, hy, h3, hb, h4⟩ h
        · rw [e z hz]
          simp at q ⊢
          rcases q with q | q
          · left
            refine ⟨s1 z hz q, fun zx => ?_⟩
            subst zx; rw [p2] at q; cases q
          · exact .inr q
      · by_cases h'' : ∃ y, y < n ∧ B y = true ∧ A y = false ∧ T1 y = true
        · obtain ⟨y, hy, q1, q2, q3⟩ := h''
          exact ⟨y, hy, q1, q2, T1, h1, ins_sub s1 q3⟩
        · exfalso
          have e := exch_eq ex h1 h2
          have e1 := cd_split T1 T2 n
          have e2 := cd_split T2 T1 n
          have e3 : cd n (cap T1 T2) = cd n (cap T2 T1) := cd_congr fun x _ => by simp [Bool.and_comm]
          have e4 : cd n (df T1 T2) ≤ cd n (df A B) := cd_mono fun x hx q => by
            simp at q ⊢
            refine ⟨?_, ?_⟩
            · cases ha : A x with
              | true => rfl
              | false => exact absurd ⟨x, hx, q.1, ha, q.2⟩ h'
            · cases hb : B x with
              | false => rfl
              | true => rw [s2 x hx hb] at q; cases q.2
          have e5 : cd n (df B A) ≤ cd n (df T2 T1) := cd_mono fun x hx q => by
            simp at q ⊢
            refine ⟨s2 x hx q.1, ?_⟩
            cases ht : T1 x with
            | false => rfl
            | true => exact absurd ⟨x, hx, q.1, q.2, ht⟩ h''
          have e6 := cd_split A B n
          have e7 := cd_split B A n
          have e8 : cd n (cap A B) = cd n (cap B A) := cd_congr fun x _ => by simp [Bool.and_comm]
          omega
theorem exch_aug {n : Nat} {ts : List S} (ex : Exch n ts) : Aug n (Fam n ts) := fun A B ⟨T1, h1, s1⟩ ⟨T2, h2, s2⟩ c => exch_aug1 ex h1 s1 c _ h2 s2 (Nat.le_refl _)
theorem aug_eq {n : Nat} {ts : List S} (an : AntiS n ts) (aug : Aug n (Fam n ts)) {t u : S} (ht : t ∈ ts) (hu : u ∈ ts) : cd n u ≤ cd n t := by
  refine Nat.le_of_not_lt fun c => ?_
  obtain ⟨y, hy, h1, h2, v, hv, s⟩ := aug t u ⟨t, ht, Sub.refl n t⟩ ⟨u, hu, Sub.refl n u⟩ c
  have := an t ht v hv ((sub_ins n t y).trans s) y hy (s y hy (by simp))
  rw [h2] at this; cases this
theorem aug_exch {n : Nat} {ts : List S} (an : AntiS n ts) (aug : Aug n (Fam n ts)) : Exch n ts := by
  intro t ht u hu x hx h1 h2
  have c := cd_del hx h1
  have e := aug_eq an aug hu ht
  obtain ⟨y, hy, h3, h4, v, hv, s⟩ := aug (del t x) u ⟨t, ht, fun z _ q => by simp at q; exact q.1⟩ ⟨u, hu, Sub.refl n u⟩ (by omega)
  have yx : (y == x) = false := by
    refine beq_eq_false_iff_ne.mpr fun z => ?_
    subst z; rw [h2] at h3; cases h3
  have h5 : t y = false := by simpa [yx] using h4
  refine ⟨y, hy, h3, h5, v, hv, fun z hz => ?_⟩
  have c2 := cd_ins hy h4
  have e2 := aug_eq an aug ht hv
  have := cd_eq_sub s (by omega)
  cases hv : v z with
  | true => rw [this z hz hv]
  | false =>
    cases hi : ins (del t x) y z with
    | false => rfl
    | true => rw [s z hz hi] at hv; cases hv
end Mt
set_option Elab.async false
set_option linter.all false
set_option autoImplicit false
namespace Mt
/-! ### sums over lists -/
def sm (l : List Nat) (f : Nat → Int) : Int := (l.map f).sum
@[simp] theorem sm_nil (f : Nat → Int) : sm [] f = 0 := rfl
@[simp] theorem sm_cons (x : Nat) (l : List Nat) (f : Nat → Int) : sm (x :: l) f = f x + sm l f := by simp [sm]
theorem sm_congr {l : List Nat} {f g : Nat → Int} (h : ∀ x ∈ l, f x = g x) : sm l f = sm l g := by
  induction l with
  | nil => rfl
  | cons x l ih => rw [sm_cons, sm_cons, h x (by simp), ih fun y hy => h y (List.mem_cons_of_mem _ hy)]
theorem sm_add (l : List Nat) (f g : Nat → Int) : sm l (fun x => f x + g x) = sm l f + sm l g := by
  induction l with
  | nil => rfl
  | cons x l ih => rw [sm_cons, sm_cons, sm_cons, ih]; omega
theorem sm_mul (l : List Nat) (f : Nat → Int) (a : Int) : sm l (fun x => f x * a) = sm l f * a := by
  induction l with
  | nil => simp
  | cons x l ih => rw [sm_cons, sm_cons, ih, Int.add_mul]
theorem sm_neg (l : List Nat) (f : Nat → Int) : sm l (fun x => - f x) = - sm l f := by
  induction l with
  | nil => rfl
  | cons x l ih => rw [sm_cons, sm_cons, ih]; omega
theorem sm_sub (l : List Nat) (f g : Nat → Int) : sm l (fun x => f x - g x) = sm l f - sm l g := by
  induction l with
  | nil => rfl
  | cons x l ih => rw [sm_cons, sm_cons, sm_cons, ih]; omega
theorem sm_perm {l m : List Nat} (h : l.Perm m) (f : Nat → Int) : sm l f = sm m f := by
  induction h with
  | nil => rfl
  | cons x _ ih => rw [sm_cons, sm_cons, ih]
  | swap x y l => rw [sm_cons, sm_cons, sm_cons, sm_cons]; omega
  | trans _ _ a b => exact a.trans b
theorem sm_dvd {p : Int} {l : List Nat} {f : Nat → Int} (h : ∀ x ∈ l, p ∣ f x) : p ∣ sm l f := by
  induction l with
  | nil => exact Int.dvd_zero _
  | cons x l ih => rw [sm_cons]; exact Int.dvd_add (h x (by simp)) (ih fun y hy => h y (List.mem_cons_of_mem _ hy))
theorem sm_filter (l : List Nat) (s : S) (f : Nat → Int) : sm (l.filter s) f = sm l fun x => if s x = true then f x else 0 := by
  induction l with
  | nil => rfl
  | cons x l ih =>
    rw [List.filter_cons, sm_cons]
    cases h : s x
    · simp [ih]
    · simp [ih]
theorem sm_one {l : List Nat} (nd : l.Nodup) {y : Nat} (hy : y ∈ l) (f : Nat → Int) : sm l (fun x => if x = y then f x else 0) = f y := by
  induction l with
  | nil => cases hy
  | cons x l ih =>
    rw [List.nodup_cons] at nd
    rw [sm_cons]
    simp at hy
    by_cases h : x = y
    · subst h
      rw [if_pos rfl, sm_congr (g := fun _ => 0) fun z hz => if_neg (show ¬ z = x from fun e => nd.1 (e ▸ hz))]
      have : ∀ l : List Nat, sm l (fun _ => 0) = 0 := fun l => by
        induction l with
        | nil => rfl
        | cons _ l ih => rw [sm_cons, ih]; rfl
      rw [this]; simp
    · rw [if_neg h, ih nd.2 (by rcases hy with hy | hy; exact absurd hy.symm h; exact hy)]; simp
/-! ### numbers that can be divided by -/
def Inv (p : Int) : Prop := (∀ x : Int, ¬ p ∣ x → ∃ y, p ∣ x * y - 1) ∧ ¬ p ∣ 1
theorem inv2 : Inv 2 := ⟨fun x h => ⟨1, by omega⟩, by decide⟩
theorem inv3 : Inv 3 := ⟨fun x h => by
  have : x % 3 = 1 ∨ x % 3 = 2 := by omega
  rcases this with e | e
  · exact ⟨1, by omega⟩
  · exact ⟨2, by omega⟩, by decide⟩
theorem inv5 : Inv 5 := ⟨fun x h => by
  have : x % 5 = 1 ∨ x % 5 = 2 ∨ x % 5 = 3 ∨ x % 5 = 4 := by omega
  rcases this with e | e | e | e
  · exact ⟨1, by omega⟩
  · exact ⟨3, by omega⟩
  · exact ⟨2, by omega⟩
  · exact ⟨4, by omega⟩, by decide⟩
/-- a factor that can be divided by falls out -/
theorem Inv.cut {p : Int} (h : Inv p) {a b : Int} (hb : ¬ p ∣ b) (hd : p ∣ a * b) : p ∣ a := by
  obtain ⟨y, hy⟩ := h.1 b hb
  have h1 : p ∣ a * b * y := Int.dvd_trans hd (Int.dvd_mul_right _ _)
  have h2 : p ∣ a * (b * y - 1) := Int.dvd_trans hy (Int.dvd_mul_left _ _)
  have e : a = a * b * y - a * (b * y - 1) := by grind
  rw [e]
  exact Int.dvd_sub h1 h2
abbrev Vf := Nat → Nat → Int
/-- nothing is a sum of the others, at the places from k to r -/
def IndK (p : Int) (k r : Nat) (v : Vf) (l : List Nat) : Prop := ∀ c : Nat → Int, (∀ j, k ≤ j → j < r → p ∣ sm l fun x => c x * v x j) → ∀ x ∈ l, p ∣ c x
def InSp (p : Int) (r : Nat) (v : Vf) (l : List Nat) (b : Nat → Int) : Prop := ∃ d : Nat → Int, ∀ j, j < r → p ∣ b j - sm l fun x => d x * v x j
theorem IndK.perm {p : Int} {k r : Nat} {v : Vf} {l m : List Nat} (h : l.Perm m) (i : IndK p k r v l) : IndK p k r v m := fun c hc x hx =>
  i c (fun j h1 h2 => by rw [sm_perm h]; exact hc j h1 h2) x (h.mem_iff.mpr hx)
theorem stz {p : Int} (hp : Inv p) {r : Nat} {v : Vf} : ∀ (l m : List Nat) (u : Vf), m.Nodup → l.length < m.length → (∀ x ∈ m, InSp p r v l (u x)) →
    ∃ c : Nat → Int, (∀ j, j < r → p ∣ sm m fun x => c x * u x j) ∧ ∃ x ∈ m, ¬ p ∣ c x
  | [], m, u, nd, hl, hs => by
    cases m with
    | nil => exact absurd hl (by simp)
    | cons x m =>
      refine ⟨fun _ => 1, fun j hj => sm_dvd fun y hy => ?_, x, by simp, hp.2⟩
      obtain ⟨d, hd⟩ := hs y hy
      have := hd j hj
      simpa using this
  | a :: l, m, u, nd, hl, hs => by
    have hs' : ∀ x, ∃ d : Nat → Int, x ∈ m → ∀ j, j < r → p ∣ u x j - sm (a :: l) fun y => d y * v y j := fun x => by
      by_cases h : x ∈ m
      · obtain ⟨d, hd⟩ := hs x h
        exact ⟨d, fun _ => hd⟩
      · exact ⟨fun _ => 0, fun z => absurd z h⟩
    let d : Nat → Nat → Int := fun x => (hs' x).choose
    have hd : ∀ x ∈ m, ∀ j, j < r → p ∣ u x j - sm (a :: l) fun y => d x y * v y j := fun x hx => (hs' x).choose_spec hx
    by_cases h : ∃ x ∈ m, ¬ p ∣ d x a
    · obtain ⟨z, hz, hnz⟩ := h
      obtain ⟨e, he⟩ := hp.1 _ hnz
      have pm := List.perm_cons_erase hz
      have nd' : (m.erase z).Nodup := nd.erase z
      have nz : z ∉ m.erase z := fun q => ((List.Nodup.mem_erase_iff nd).mp q).1 rfl
      let t : Nat → Int := fun x => d x a * e
      have ih := stz hp l (m.erase z) (fun x j => u x j - t x * u z j) nd' (by rw [List.length_erase_of_mem hz]; simp at hl; omega) fun x hx => by
        have hxm : x ∈ m := List.mem_of_mem_erase hx
        refine ⟨fun y => d x y - t x * d z y, fun j hj => ?_⟩
        have h1 := hd x hxm j hj
        have h2 := hd z hz j hj
        rw [sm_cons] at h1 h2
        have h3 : (sm l fun y => (d x y - t x * d z y) * v y j) = (sm l fun y => d x y * v y j) - (sm l fun y => d z y * v y j) * t x := by
          rw [← sm_mul, ← sm_sub]
          exact sm_congr fun y _ => by grind
        rw [h3]
        have h4 := Int.dvd_trans h2 (Int.dvd_mul_right _ (t x))
        have h5 := Int.dvd_trans he (Int.dvd_mul_right _ (d x a * v a j))
        have h6 := Int.dvd_sub (Int.dvd_sub h1 h4) h5
        have h7 : u x j - t x * u z j - ((sm l fun y => d x y * v y j) - (sm l fun y => d z y * v y j) * t x) = u x j - (d x a * v a j + sm l fun y => d x y * v y j) - (u z j - (d z a * v a j + sm l fun y => d z y * v y j)) * t x - (d z a * e - 1) * (d x a * v a j) := by
          show u x j - d x a * e * u z j - ((sm l fun y => d x y * v y j) - (sm l fun y => d z y * v y j) * (d x a * e)) = u x j - (d x a * v a j + sm l fun y => d x y * v y j) - (u z j - (d z a * v a j + sm l fun y => d z y * v y j)) * (d x a * e) - (d z a * e - 1) * (d x a * v a j)
          generalize (sm l fun y => d x y * v y j) = A
          generalize (sm l fun y => d z y * v y j) = B
          grind
        rw [h7]
        exact h6
      obtain ⟨c, hc, x, hx, hcx⟩ := ih
      refine ⟨fun y => if y = z then - sm (m.erase z) (fun w => c w * t w) else c y, fun j hj => ?_, x, List.mem_of_mem_erase hx, ?_⟩
      · rw [sm_perm pm, sm_cons]
        dsimp only
        rw [if_pos rfl]
        have e1 : (sm (m.erase z) fun y => (if y = z then - sm (m.erase z) (fun w => c w * t w) else c y) * u y j) = sm (m.erase z) fun y => c y * u y j := sm_congr fun y hy => by
          rw [if_neg (show ¬ y = z from fun q => nz (q ▸ hy))]
        rw [e1]
        have e2 := hc j hj
        have e3 : (sm (m.erase z) fun x => c x * (u x j - t x * u z j)) = - sm (m.erase z) (fun w => c w * t w) * u z j + sm (m.erase z) fun y => c y * u y j := by
          have : (sm (m.erase z) fun x => c x * (u x j - t x * u z j)) = (sm (m.erase z) fun y => c y * u y j) - sm (m.erase z) (fun w => c w * t w) * u z j := by
            rw [← sm_mul, ← sm_sub]
            exact sm_congr fun y _ => by grind
          rw [this, Int.neg_mul]
          omega
        rw [e3] at e2
        exact e2
      · dsimp only
        rw [if_neg (show ¬ x = z from fun q => nz (q ▸ hx))]
        exact hcx
    · have h' : ∀ x ∈ m, p ∣ d x a := fun x hx => Classical.byContradiction fun q => h ⟨x, hx, q⟩
      refine stz (v := v) hp l m u nd (by simp at hl; omega) fun x hx => ⟨d x, fun j hj => ?_⟩
      have h1 := hd x hx j hj
      rw [sm_cons] at h1
      have h2 := Int.dvd_trans (h' x hx) (Int.dvd_mul_right _ (v a j))
      have h3 := Int.dvd_add h1 h2
      have e : u x j - (sm l fun y => d x y * v y j) = u x j - (d x a * v a j + sm l fun y => d x y * v y j) + d x a * v a j := by omega
      rw [e]
      exact h3
def els (n : Nat) (s : S) : List Nat := (List.range n).filter s
theorem els_nd (n : Nat) (s : S) : (els n s).Nodup := List.nodup_range.filter _
theorem els_mem {n : Nat} {s : S} {x : Nat} : x ∈ els n s ↔ x < n ∧ s x = true := by simp [els]
theorem els_len (n : Nat) (s : S) : (els n s).length = cd n s := List.countP_eq_length_filter.symm
def IndS (p : Int) (n r : Nat) (v : Vf) (s : S) : Prop := IndK p 0 r v (els n s)
theorem ind_her (p : Int) (n r : Nat) (v : Vf) : Her n (IndS p n r v) := ⟨fun {s t} h i c hc x hx => by
  rw [els_mem] at hx
  have := i (fun x => if s x = true then c x else 0) (fun j h1 h2 => by
    have e : (sm (els n t) fun x => (if s x = true then c x else 0) * v x j) = sm (els n s) fun x => c x * v x j := by
      unfold els
      rw [sm_filter, sm_filter]
      refine sm_congr fun x hx => ?_
      have := h x (List.mem_range.mp hx)
      cases hs : s x <;> cases ht : t x <;> simp_all
    rw [e]
    exact hc j h1 h2) x (els_mem.mpr ⟨hx.1, h x hx.1 hx.2⟩)
  rw [if_pos hx.2] at this
  exact this⟩
theorem els_ins {n : Nat} {s : S} {y : Nat} (hy : y < n) (h : s y = false) : (y :: els n s).Perm (els n (ins s y)) := by
  refine (List.perm_ext_iff_of_nodup ?_ (els_nd _ _)).mpr fun x => ?_
  · rw [List.nodup_cons]
    refine ⟨fun q => ?_, els_nd _ _⟩
    rw [els_mem, h] at q
    cases q.2
  · rw [List.mem_cons, els_mem, els_mem]
    simp
    constructor
    · rintro (rfl | q)
      · exact ⟨hy, .inr rfl⟩
      · exact ⟨q.1, .inl q.2⟩
    · rintro ⟨q1, q2 | q2⟩
      · exact .inr ⟨q1, q2⟩
      · exact .inl q2
theorem ind_aug {p : Int} (hp : Inv p) (n r : Nat) (v : Vf) : Aug n (IndS p n r v) := by
  intro A B hA hB c
  apply Classical.byContradiction
  intro no
  obtain ⟨k, hk, x, hx, nx⟩ := stz hp (r := r) (v := v) (els n A) (els n B) v (els_nd _ _) (by rw [els_len, els_len]; exact c) fun y hy => by
    rw [els_mem] at hy
    cases ha : A y with
    | true =>
      refine ⟨fun x => if x = y then 1 else 0, fun j hj => ?_⟩
      have e : (sm (els n A) fun x => (if x = y then 1 else 0) * v x j) = v y j := by
        rw [← sm_one (els_nd n A) (els_mem.mpr ⟨hy.1, ha⟩) (fun x => v x j)]
        exact sm_congr fun z _ => by split <;> simp
      rw [e, Int.sub_self]
      exact Int.dvd_zero _
    | false =>
      have hn : ¬ IndS p n r v (ins A y) := fun f => no ⟨y, hy.1, hy.2, ha, f⟩
      have hn2 : ¬ IndK p 0 r v (y :: els n A) := fun f => hn (f.perm (els_ins hy.1 ha))
      unfold IndK at hn2
      simp only [Classical.not_forall] at hn2
      obtain ⟨k, hk, x, hx, nx⟩ := hn2
      have hky : ¬ p ∣ k y := fun q => by
        have := hA k (fun j h1 h2 => by
          have := hk j h1 h2
          rw [sm_cons] at this
          have h3 := Int.dvd_sub this (Int.dvd_trans q (Int.dvd_mul_right _ (v y j)))
          have e : k y * v y j + (sm (els n A) fun x => k x * v x j) - k y * v y j = sm (els n A) fun x => k x * v x j := by omega
          rw [e] at h3
          exact h3)
        rcases List.mem_cons.mp hx with z | z
        · subst z; exact nx q
        · exact nx (this x z)
      obtain ⟨e, he⟩ := hp.1 _ hky
      refine ⟨fun x => k x * (-e), fun j hj => ?_⟩
      have h1 := hk j (Nat.zero_le _) hj
      rw [sm_cons] at h1
      have e1 : (sm (els n A) fun x => k x * (-e) * v x j) = (sm (els n A) fun x => k x * v x j) * (-e) := by
        rw [← sm_mul]
        exact sm_congr fun z _ => by grind
      rw [e1]
      have h2 := Int.dvd_sub (Int.dvd_trans h1 (Int.dvd_mul_right _ e)) (Int.dvd_trans he (Int.dvd_mul_right _ (v y j)))
      generalize (sm (els n A) fun x => k x * v x j) = Z at h2 ⊢
      have e2 : v y j - Z * -e = (k y * v y j + Z) * e - (k y * e - 1) * v y j := by grind
      rw [e2]
      exact h2
  exact nx (hB k (fun j _ h2 => hk j h2) x hx)
/-! ### one step of the going down -/
theorem elim_none {p : Int} {k r : Nat} {v : Vf} {l : List Nat} (h : ∀ x ∈ l, p ∣ v x k) : IndK p k r v l ↔ IndK p (k + 1) r v l := by
  refine ⟨fun i c hc => i c fun j h1 h2 => ?_, fun i c hc => i c fun j h1 h2 => hc j (by omega) h2⟩
  by_cases hj : j = k
  · subst hj
    exact sm_dvd fun x hx => Int.dvd_trans (h x hx) (Int.dvd_mul_left _ _)
  · exact hc j (by omega) h2
theorem elim_step {p : Int} (hp : Inv p) {k r : Nat} (hk : k < r) {v v' : Vf} {z : Nat} {l : List Nat} (t : Nat → Int) (hz : ¬ p ∣ v z k) (nz : z ∉ l)
    (h0 : ∀ x ∈ l, p ∣ v' x k) (h : ∀ x ∈ l, ∀ j, k ≤ j → j < r → p ∣ v' x j - (v x j - t x * v z j)) : IndK p k r v (z :: l) ↔ IndK p (k + 1) r v' l := by
  have key : ∀ (c : Nat → Int) (j : Nat), k ≤ j → j < r → p ∣ (sm l fun x => c x * v' x j) - ((sm l fun x => c x * v x j) - (sm l fun x => c x * t x) * v z j) := by
    intro c j h1 h2
    rw [← sm_mul, ← sm_sub, ← sm_sub]
    refine sm_dvd fun x hx => ?_
    have e : c x * v' x j - (c x * v x j - c x * t x * v z j) = c x * (v' x j - (v x j - t x * v z j)) := by grind
    rw [e]
    exact Int.dvd_trans (h x hx j h1 h2) (Int.dvd_mul_left _ _)
  constructor
  · intro i c hc x hx
    have := i (fun y => if y = z then - sm l (fun w => c w * t w) else c y) (fun j h1 h2 => ?_) x (List.mem_cons_of_mem _ hx)
    · simpa [show x ≠ z from fun q => nz (q ▸ hx)] using this
    · rw [sm_cons, if_pos rfl]
      have e1 : (sm l fun y => (if y = z then - sm l (fun w => c w * t w) else c y) * v y j) = sm l fun y => c y * v y j := sm_congr fun y hy => by
        rw [if_neg (show ¬ y = z from fun q => nz (q ▸ hy))]
      rw [e1]
      have k1 := key c j h1 h2
      have k2 : p ∣ sm l fun x => c x * v' x j := by
        by_cases hj : j = k
        · subst hj
          exact sm_dvd fun x hx => Int.dvd_trans (h0 x hx) (Int.dvd_mul_left _ _)
        · exact hc j (by omega) h2
      have := Int.dvd_sub k2 k1
      generalize (sm l fun x => c x * v' x j) = P at *
      generalize (sm l fun x => c x * v x j) = Q at *
      generalize (sm l fun x => c x * t x) = R at *
      have e : -R * v z j + Q = P - (P - (Q - R * v z j)) := by grind
      rw [e]
      exact this
  · intro i c hc
    have q1 : p ∣ c z + sm l fun x => c x * t x := by
      refine hp.cut hz ?_
      have k1 := key c k (Nat.le_refl _) hk
      have k2 : p ∣ sm l fun x => c x * v' x k := sm_dvd fun x hx => Int.dvd_trans (h0 x hx) (Int.dvd_mul_left _ _)
      have k3 := hc k (Nat.le_refl _) hk
      rw [sm_cons] at k3
      have := Int.dvd_sub (Int.dvd_add k3 k1) k2
      generalize (sm l fun x => c x * v' x k) = P at *
      generalize (sm l fun x => c x * v x k) = Q at *
      generalize (sm l fun x => c x * t x) = R at *
      have e : (c z + R) * v z k = c z * v z k + Q + (P - (Q - R * v z k)) - P := by grind
      rw [e]
      exact this
    have q2 := i c fun j h1 h2 => by
      have k1 := key c j (by omega) h2
      have k3 := hc j (by omega) h2
      rw [sm_cons] at k3
      have k4 := Int.dvd_trans q1 (Int.dvd_mul_right _ (v z j))
      have := Int.dvd_sub (Int.dvd_add k3 k1) k4
      generalize (sm l fun x => c x * v' x j) = P at *
      generalize (sm l fun x => c x * v x j) = Q at *
      generalize (sm l fun x => c x * t x) = R at *
      have e : P = c z * v z j + Q + (P - (Q - R * v z j)) - (c z + R) * v z j := by grind
      rw [e]
      exact this
    intro x hx
    rcases List.mem_cons.mp hx with e | e
    · subst e
      have : p ∣ sm l fun y => c y * t y := sm_dvd fun y hy => Int.dvd_trans (q2 y hy) (Int.dvd_mul_right _ _)
      have := Int.dvd_sub q1 this
      rw [Int.add_sub_cancel] at this
      exact this
    · exact q2 x e
theorem elim_end {p : Int} (hp : Inv p) {r : Nat} {v : Vf} {l : List Nat} : IndK p r r v l ↔ l = [] := by
  refine ⟨fun i => ?_, fun e => by subst e; exact fun _ _ x hx => by cases hx⟩
  cases l with
  | nil => rfl
  | cons x l => exact absurd (i (fun _ => 1) (fun j h1 h2 => by omega) x (by simp)) hp.2
/-- two rows change places -/
theorem ind_swap {p : Int} {k r : Nat} {v v' : Vf} {l : List Nat} (nd : l.Nodup) {a b : Nat} (ha : a ∈ l) (hb : b ∈ l)
    (h : ∀ x ∈ l, ∀ j, v' x j = v (if x = a then b else if x = b then a else x) j) : IndK p k r v l ↔ IndK p k r v' l := by
  let σ : Nat → Nat := fun x => if x = a then b else if x = b then a else x
  have σσ : ∀ x, σ (σ x) = x := fun x => by
    show (if (if x = a then b else if x = b then a else x) = a then b else if (if x = a then b else if x = b then a else x) = b then a else (if x = a then b else if x = b then a else x)) = x
    by_cases h1 : x = a <;> by_cases h2 : x = b <;> simp_all
  have σm : ∀ x, x ∈ l → σ x ∈ l := fun x hx => by
    show (if x = a then b else if x = b then a else x) ∈ l
    split
    · exact hb
    · split
      · exact ha
      · exact hx
  have pm : (l.map σ).Perm l := by
    refine (List.perm_ext_iff_of_nodup (List.pairwise_map.mpr (nd.imp fun {x y} q z => q (by rw [← σσ x, ← σσ y, z]))) nd).mpr fun x => ?_
    rw [List.mem_map]
    exact ⟨fun ⟨y, hy, e⟩ => e ▸ σm y hy, fun hx => ⟨σ x, σm x hx, σσ x⟩⟩
  have sms : ∀ f : Nat → Int, sm l (fun x => f (σ x)) = sm l f := fun f => by
    rw [← sm_perm pm f]
    unfold sm
    rw [List.map_map]
    rfl
  constructor
  · intro i c hc x hx
    have := i (fun x => c (σ x)) (fun j h1 h2 => by
      have e := sms fun x => c x * v' x j
      rw [← sms]
      have e2 : (sm l fun x => c (σ (σ x)) * v (σ x) j) = sm l fun x => c x * v' x j := sm_congr fun x hx => by rw [σσ, h x hx]
      rw [e2]
      exact hc j h1 h2) (σ x) (σm x hx)
    rw [σσ] at this
    exact this
  · intro i c hc x hx
    have := i (fun x => c (σ x)) (fun j h1 h2 => by
      have e2 : (sm l fun x => c (σ x) * v' x j) = sm l fun x => (fun x => c x * v x j) (σ x) := sm_congr fun x hx => by rw [h x hx]
      rw [e2, sms (fun x => c x * v x j)]
      exact hc j h1 h2) (σ x) (σm x hx)
    rw [σσ] at this
    exact this
end Mt
set_option Elab.async false
set_option linter.all false
set_option autoImplicit false
namespace Mt
theorem nodup_len {l m : List Nat} (nd : l.Nodup) (h : ∀ x ∈ l, x ∈ m) : l.length ≤ m.length := nd.length_le_of_subset fun x hx => h x hx
/-- no two of a lot are of one kind -/
def Dist (n : Nat) (f : Nat → Nat) (s : S) : Prop := ∀ x y, x < n → y < n → s x = true → s y = true → f x = f y → x = y
theorem dist_her (n : Nat) (f : Nat → Nat) : Her n (Dist n f) := ⟨fun h d x y hx hy h1 h2 => d x y hx hy (h x hx h1) (h y hy h2)⟩
theorem dist_aug (n : Nat) (f : Nat → Nat) : Aug n (Dist n f) := by
  intro A B hA hB c
  apply Classical.byContradiction
  intro no
  have sub : ∀ y ∈ (els n B).map f, y ∈ (els n A).map f := fun z hz => by
    obtain ⟨y, hy, e⟩ := List.mem_map.mp hz
    rw [els_mem] at hy
    subst e
    cases ha : A y with
    | true => exact List.mem_map.mpr ⟨y, els_mem.mpr ⟨hy.1, ha⟩, rfl⟩
    | false =>
      have : ¬ Dist n f (ins A y) := fun d => no ⟨y, hy.1, hy.2, ha, d⟩
      apply Classical.byContradiction
      intro nm
      apply this
      intro a b h1 h2 h3 h4 e
      simp at h3 h4
      rcases h3 with h3 | h3 <;> rcases h4 with h4 | h4
      · exact hA a b h1 h2 h3 h4 e
      · subst h4
        exact absurd (List.mem_map.mpr ⟨a, els_mem.mpr ⟨h1, h3⟩, e⟩) nm
      · subst h3
        exact absurd (List.mem_map.mpr ⟨b, els_mem.mpr ⟨h2, h4⟩, e.symm⟩) nm
      · rw [h3, h4]
  have nd : ((els n B).map f).Nodup := by
    refine List.pairwise_map.mpr ((List.pairwise_iff_forall_sublist.mpr ?_))
    intro a b hs e
    have ha : a ∈ els n B := hs.subset (by simp)
    have hb : b ∈ els n B := hs.subset (by simp)
    have ab := (List.nodup_cons.mp (hs.nodup (els_nd n B))).1
    rw [els_mem] at ha hb
    have := hB a b ha.1 hb.1 ha.2 hb.2 e
    exact ab (by simp [this])
  have := nodup_len nd sub
  rw [List.length_map, List.length_map, els_len, els_len] at this
  omega
/-! ### what a set weighs -/
theorem wl_perm {w : Nat → Nat} {s : S} {l m : List Nat} (h : l.Perm m) : wl w s l = wl w s m := by
  induction h with
  | nil => rfl
  | cons x _ ih => simp only [wl, ih]
  | swap x y l => simp only [wl]; omega
  | trans _ _ a b => exact a.trans b
theorem wl_filter (w : Nat → Nat) (s : S) (l : List Nat) : wl w s l = ((l.filter s).map w).sum := by
  induction l with
  | nil => rfl
  | cons x l ih =>
    rw [List.filter_cons, wl, ih]
    cases s x <;> simp
theorem wl_const {w : Nat → Nat} {s : S} {c : Nat} {l : List Nat} (h : ∀ x ∈ l, s x = true → w x = c) : wl w s l = c * l.countP s := by
  induction l with
  | nil => rfl
  | cons x l ih =>
    rw [wl, ih fun y hy => h y (List.mem_cons_of_mem _ hy), List.countP_cons]
    cases hs : s x with
    | false => simp
    | true => simp [h x (by simp) hs]; rw [Nat.mul_add]; omega
theorem wl_or {w : Nat → Nat} {s t u : S} {l : List Nat} (h : ∀ x ∈ l, s x = (t x || u x)) (d : ∀ x ∈ l, (t x && u x) = false) : wl w s l = wl w t l + wl w u l := by
  induction l with
  | nil => rfl
  | cons x l ih =>
    rw [wl, wl, wl, ih (fun y hy => h y (List.mem_cons_of_mem _ hy)) (fun y hy => d y (List.mem_cons_of_mem _ hy)), h x (by simp)]
    have := d x (by simp)
    cases ht : t x <;> cases hu : u x <;> simp_all <;> omega
theorem wl_le {w w' : Nat → Nat} {s : S} {l : List Nat} (h : ∀ x ∈ l, s x = true → w x ≤ w' x) : wl w s l ≤ wl w' s l := by
  induction l with
  | nil => exact Nat.le_refl _
  | cons x l ih =>
    have := ih fun y hy => h y (List.mem_cons_of_mem _ hy)
    have h0 := h x (by simp)
    rw [wl, wl]
    cases hs : s x with
    | false => simpa using this
    | true => simp; have := h0 hs; omega
theorem wl_mono {w : Nat → Nat} {s t : S} {l : List Nat} (h : ∀ x ∈ l, s x = true → t x = true) : wl w s l ≤ wl w t l := by
  induction l with
  | nil => exact Nat.le_refl _
  | cons x l ih =>
    have := ih fun y hy => h y (List.mem_cons_of_mem _ hy)
    have h0 := h x (by simp)
    rw [wl, wl]
    cases hs : s x with
    | false => simp; omega
    | true => rw [h0 hs]; simp; omega
/-- weights of the worst lot: the few 1000, the lot's others 999, nothing besides -/
theorem gs_worst {n : Nat} {F : S → Prop} (h0 : F emp) (h : Her n F) {U A : S} (m : MaxIn n F U A) (w : Nat → Nat)
    (w1 : ∀ x, x < n → w x = if U x = true then (if A x = true then 1000 else 999) else 0) {l : List Nat} (pm : l.Perm (List.range n)) (p : l.Pairwise (fun a b => w a ≤ w b)) :
    wl w (gs F l) l = 1000 * cd n A := by
  have hl : ∀ x, x ∈ l ↔ x < n := fun x => by rw [pm.mem_iff, List.mem_range]
  have f1 := gs_from h0 h w 1000 l p
  have f2 := gs_from h0 h w 999 l p
  have g1 : ∀ x, x < n → A x = true → gs F l x = true := fun x hx ha => by
    have := f1.all h (B := A) m.mem (fun y hy e => by
      have := w1 y hy
      rw [if_pos (m.sub y hy e), if_pos e] at this
      simp [hl, hy, this]) (fun y hy e => by
      simp at e
      have hw := w1 y hy
      cases hA : A y with
      | true => rfl
      | false =>
        exfalso
        simp [hA] at hw
        split at hw <;> omega) x hx ha
    simp at this
    exact this.1
  have g2 : ∀ x, x < n → gs F l x = true → U x = true → A x = true := fun x hx hg hu => by
    refine m.all h (B := cap (gs F l) fun x => decide (999 ≤ w x)) f2.mem (fun y hy e => ?_) (fun y hy e => ?_) x hx ?_
    · simp at e
      cases hU : U y with
      | true => rfl
      | false =>
        have := w1 y hy
        simp [hU] at this
        omega
    · have := w1 y hy
      rw [if_pos (m.sub y hy e), if_pos e] at this
      simp [g1 y hy e, this]
    · have := w1 x hx
      rw [if_pos hu] at this
      simp [hg]
      split at this <;> omega
  have e1 : wl w (gs F l) l = wl w A l := by
    have e2 := wl_or (w := w) (s := gs F l) (t := A) (u := df (gs F l) A) (l := l) (fun x hx => by
      have := g1 x ((hl x).mp hx)
      cases ha : A x <;> cases hg : gs F l x <;> simp_all) (fun x _ => by cases ha : A x <;> simp [ha])
    have e3 : wl w (df (gs F l) A) l = 0 := by
      rw [wl_const (c := 0) fun x hx hs => ?_]
      · simp
      · simp at hs
        have hx := (hl x).mp hx
        have := w1 x hx
        cases hu : U x with
        | false => simpa [hu] using this
        | true => rw [g2 x hx hs.1 hu] at hs; cases hs.2
    omega
  rw [e1, wl_const (c := 1000) fun x hx ha => by
    have hx := (hl x).mp hx
    have := w1 x hx
    rw [if_pos (m.sub x hx ha), if_pos ha] at this
    exact this]
  unfold cd
  rw [pm.countP_eq]
theorem best_worst {n : Nat} {U A B : S} (w : Nat → Nat) (w1 : ∀ x, x < n → w x = if U x = true then (if A x = true then 1000 else 999) else 0) (hB : Sub n B U) {T : S} (hT : Sub n B T) : 999 * cd n B ≤ wl w T (List.range n) := by
  refine Nat.le_trans ?_ (wl_mono (s := B) fun x hx e => hT x (List.mem_range.mp hx) e)
  have := wl_const (w := fun _ => 999) (s := B) (c := 999) (l := List.range n) fun _ _ _ => rfl
  unfold cd
  rw [← this]
  refine wl_le fun x hx e => ?_
  have hx := List.mem_range.mp hx
  have := w1 x hx
  rw [if_pos (hB x hx e)] at this
  show 999 ≤ w x
  split at this <;> omega
end Mt
set_option Elab.async false
set_option linter.all false
set_option maxRecDepth 100000
set_option maxHeartbeats 1000000
set_option autoImplicit false
namespace Wk
open PySem PySem.Spec L2 MX
theorem e_is_int (v lo hi : Int) (h : Hq) : F_is_int [.p (.int v), .p (.int lo), .p (.int hi)] h = some (.p (.bool (decide (lo ≤ v) && decide (v ≤ hi))), h) := by
  refine runF_p0 (e' := _) rfl (sRet_p ?_)
  rw [r_and (k := true) (h' := h) _ _ _ _ (by simp), if_pos rfl]
  rw [r_and (k := true) (h' := h) _ _ _ _ (r_not (k := false) (h' := h) _ _ _ (by simp)), if_pos rfl]
  rw [r_chain (k := decide (lo ≤ v)) (d1 := .p (.int lo)) (d2 := .p (.int v)) (h1 := h) (h2 := h) (h3 := h) _ _ _ _ _ _ _ (by simp) (by simp) (by simp)]
  cases decide (lo ≤ v) <;> simp
/-- all neighbours -/
def rise {α : Type} (r : α → α → Bool) (l : List α) : Bool := (l.zip l.tail).all fun p => r p.1 p.2
theorem cut_tail {α : Type} (l : List α) : cutL l (some 1) none = l.tail := by
  unfold cutL
  cases l with
  | nil => rfl
  | cons x r =>
    have h1 : HT.sIx (x :: r).length 0 (some ((1 : Nat) : Int)) = min 1 (x :: r).length := HT.sIx_nat _ _ _
    have h2 : HT.sIx (x :: r).length (x :: r).length none = (x :: r).length := rfl
    have h3 : min 1 (x :: r).length = 1 := by simp
    rw [h3] at h1
    show List.take (HT.sIx (x :: r).length (x :: r).length none - HT.sIx (x :: r).length 0 (some ((1 : Nat) : Int))) (List.drop (HT.sIx (x :: r).length 0 (some ((1 : Nat) : Int))) (x :: r)) = _
    rw [h1, h2]
    simp
/-- is_rising of things that < tells -/
theorem e_is_rising {α : Type} (enc : α → Pd) (r : α → α → Bool) (l : List α) (h : Hq) (hz : l.length ≤ sizeLine) (hr : ∀ a b : α, ∀ h : Hq, gLtA (.p (enc a)) (.p (enc b)) h = some (.p (.bool (r a b)), h)) :
    F_is_rising [.p (.tuple (l.map enc))] h = some (.p (.bool (rise r l)), h) := by
  refine runF_p0 (e' := _) rfl (sRet_p ?_)
  have ha : (aCons (mVar 0) (aCons (mSl (mVar 0) (oSome (mC (.int 1))) oNone) aNil)) ([.p (.tuple (l.map enc))] ++ List.replicate 2 .und) h = some ([.p (.tuple (l.map enc)), .p (.tuple (l.tail.map enc))], h) := by
    simp [mSl, oSome, oNone, cut_tail, ← List.map_tail]
  have hs := src_zip ha rfl rfl
  have hl : EvN (mLc (sZip (aCons (mVar 0) (aCons (mSl (mVar 0) (oSome (mC (.int 1))) oNone) aNil))) (.tup [1, 2]) tYesM (mB gLtA (mVar 1) (mVar 2)) [1, 2]) ([.p (.tuple (l.map enc))] ++ List.replicate 2 .und) h ((l.zip l.tail).map fun p => .p (.bool (r p.1 p.2))) := by
    refine lc_mapT (g := []) (S := SAny) (l.zip l.tail) (fun p => .p (.tuple [enc p.1, enc p.2])) (fun p => .p (.bool (r p.1 p.2))) ?_ (fun _ => trivial) (by rw [List.length_zip]; omega) fun p hp g' => ⟨_, rfl, ?_⟩
    · rw [List.append_nil]
      have e : ((List.map Mv.p (l.map enc)).zip (List.map Mv.p (l.tail.map enc))).map (fun p => mkT [p.1, p.2]) = (l.zip l.tail).map fun p => Mv.p (.tuple [enc p.1, enc p.2]) := by
        rw [List.map_map, List.map_map, List.zip_map, List.map_map]
        rfl
      rw [← e]
      exact hs
    · simp [hr, wipeE]
  exact hl.gcp.all
/-- lots -/
abbrev nInt (x : Nat) : Pd := .int (x : Int)
abbrev lot (l : List Nat) : Pd := .tuple (l.map nInt)
def ltN (a b : Nat) : Bool := decide (a < b)
def zsN (l : List Nat) : List Int := l.map fun x : Nat => (x : Int)
def ltL (a b : List Nat) : Bool := HT.lexLt (zsN a) (zsN b)
theorem intsD_nat (l : List Nat) : intsD (l.map nInt) = some (zsN l) := by
  have := intsD_map (zsN l)
  unfold zsN at this
  rw [List.map_map] at this
  exact this
theorem lt_lot (a b : List Nat) (h : Hq) : gLtA (.p (lot a)) (.p (lot b)) h = some (.p (.bool (ltL a b)), h) := by
  simp [gLtA, lot, intsD_nat, ltL]
theorem e_rise_lot (l : List Nat) (h : Hq) (hz : l.length ≤ sizeLine) : F_is_rising [.p (lot l)] h = some (.p (.bool (rise ltN l)), h) :=
  e_is_rising nInt ltN l h hz fun a b h => by simp [ltN]
theorem e_rise_lots (ls : List (List Nat)) (h : Hq) (hz : ls.length ≤ sizeLine) : F_is_rising [.p (.tuple (ls.map lot))] h = some (.p (.bool (rise ltL ls)), h) :=
  e_is_rising lot ltL ls h hz lt_lot
def isLot (many : Nat) (l : List Nat) : Bool := (l.all fun x => decide (x < many)) && rise ltN l
theorem e_is_lot (many : Nat) (l : List Nat) (h : Hq) (hz : l.length ≤ sizeLine) : F_is_lot [.p (.int (many : Int)), .p (lot l)] h = some (.p (.bool (isLot many l)), h) := by
  have hl : EvN (mLc (sSeq (mVar 1)) (.nm 2) tYesM (mCall F_is_int (aCons (mVar 2) (aCons (mC (.int 0)) (aCons (mB gSub (mVar 0) (mC (.int 1))) aNil)))) [2]) [.p (.int (many : Int)), .p (lot l), .und] h (l.map fun x => .p (.bool (decide (x < many)))) := by
    refine lc_tup l nInt (fun x => .p (.bool (decide (x < many)))) (by simp) hz fun x hx g' => ⟨_, rfl, ?_⟩
    simp [wipeE, e_is_int, nInt]
    omega
  have h2 := hl.all
  refine runF_r [.p (.int (many : Int)), .p (lot l), .und] ?_
  unfold b_is_lot isLot
  generalize (l.all fun x => decide (x < many)) = b at h2 ⊢
  cases b <;> simp [h2, e_rise_lot l h hz]
theorem e_are_lots (many : Nat) (ls : List (List Nat)) (h : Hq) (hz : ls.length ≤ sizeLine) (hz2 : ∀ l ∈ ls, l.length ≤ sizeLine) : F_are_lots [.p (.int (many : Int)), .p (.tuple (ls.map lot))] h = some (.p (.bool ((ls.all fun l => isLot many l) && rise ltL ls)), h) := by
  have hl : EvN (mLc (sSeq (mVar 1)) (.nm 2) tYesM (mCall F_is_lot (aCons (mVar 0) (aCons (mVar 2) aNil))) [2]) [.p (.int (many : Int)), .p (.tuple (ls.map lot)), .und] h (ls.map fun l => .p (.bool (isLot many l))) := by
    refine lc_tup ls lot (fun l => .p (.bool (isLot many l))) (by simp) hz fun l hx g' => ⟨_, rfl, ?_⟩
    simp [wipeE, e_is_lot many l _ (hz2 l hx)]
  refine runF_r [.p (.int (many : Int)), .p (.tuple (ls.map lot)), .und] ?_
  unfold b_are_lots
  rw [retOf_sRet]
  rw [r_and (k := true) (h' := h) _ _ _ _ (by simp), if_pos rfl]
  rw [r_and (k := ls.all fun l => isLot many l) (h' := h) _ _ _ _ hl.all]
  cases ls.all fun l => isLot many l <;> simp [e_rise_lots ls h hz]
end Wk
set_option Elab.async false
set_option linter.all false
set_option maxRecDepth 100000
set_option maxHeartbeats 1000000
set_option autoImplicit false
namespace Wk
open PySem PySem.Spec L2 MX
/-! ### bits -/
/-- a without b -/
def dif (a b : Nat) : Nat := a - (a &&& b)
theorem and_le (a b : Nat) : a &&& b ≤ a := Nat.and_le_left
theorem dif_bit (b : Nat) : ∀ (i a : Nat), (dif a b).testBit i = (a.testBit i && !b.testBit i) := by
  have h2 : ∀ a b : Nat, (dif a b) / 2 = dif (a / 2) (b / 2) ∧ (dif a b) % 2 = a % 2 - (a % 2) * (b % 2) := by
    intro a b
    unfold dif
    have h1 : (a &&& b) / 2 = a / 2 &&& b / 2 := by
      have := Nat.shiftRight_and_distrib (a := a) (b := b) (i := 1)
      simpa [Nat.shiftRight_eq_div_pow] using this
    have h3 : (a &&& b) % 2 = (a % 2) * (b % 2) := by
      have := Nat.and_mod_two_pow (a := a) (b := b) (n := 1)
      rw [Nat.pow_one] at this
      rw [this]
      rcases Nat.mod_two_eq_zero_or_one a with h | h <;> rcases Nat.mod_two_eq_zero_or_one b with k | k <;> rw [h, k] <;> rfl
    have h4 := and_le a b
    have h5 := and_le (a / 2) (b / 2)
    have h6 : (a % 2) * (b % 2) ≤ a % 2 := by
      rcases Nat.mod_two_eq_zero_or_one a with h | h <;> rcases Nat.mod_two_eq_zero_or_one b with k | k <;> rw [h, k] <;> decide
    constructor <;> omega
  intro i
  induction i generalizing b with
  | zero =>
    intro a
    have h := (h2 a b).2
    simp only [Nat.testBit_zero]
    rw [h]
    rcases Nat.mod_two_eq_zero_or_one a with h | h <;> rcases Nat.mod_two_eq_zero_or_one b with k | k <;> rw [h, k] <;> rfl
  | succ i ih =>
    intro a
    rw [Nat.testBit_succ, Nat.testBit_succ, Nat.testBit_succ, (h2 a b).1]
    exact ih (b / 2) (a / 2)
theorem i_and (a b : Nat) : Builtin.bitAnd (a : Int) (b : Int) = ((a &&& b : Nat) : Int) := PySem.W.os_band a b
theorem i_dif (a b : Nat) : Builtin.bitAnd (a : Int) (Builtin.bitNot (b : Int)) = ((dif a b : Nat) : Int) := by
  have e1 : Builtin.bitNot (b : Int) = -(b : Int) - 1 := rfl
  have e2 : (Builtin.bitNot (Builtin.bitNot (b : Int))).toNat = b := by
    have : Builtin.bitNot (Builtin.bitNot (b : Int)) = (b : Int) := by
      rw [e1]
      show -(-(b : Int) - 1) - 1 = (b : Int)
      omega
    rw [this]
    rfl
  unfold Builtin.bitAnd
  rw [decide_eq_true (Int.natCast_nonneg a), decide_eq_false (show ¬ (0 ≤ Builtin.bitNot (b : Int)) by rw [e1]; omega)]
  simp only
  rw [e2, Int.toNat_natCast]
  unfold dif
  have := and_le a b
  omega
theorem i_or (a b : Nat) : Builtin.bitOr (a : Int) (b : Int) = ((a ||| b : Nat) : Int) := by
  unfold Builtin.bitOr
  have e1 : ∀ b : Nat, Builtin.bitNot (b : Int) = -(b : Int) - 1 := fun b => rfl
  have e2 : ∀ b : Nat, (Builtin.bitNot (Builtin.bitNot (b : Int))).toNat = b := by
    intro b
    have : Builtin.bitNot (Builtin.bitNot (b : Int)) = (b : Int) := by
      rw [e1]
      show -(-(b : Int) - 1) - 1 = (b : Int)
      omega
    rw [this]
    rfl
  unfold Builtin.bitAnd
  rw [decide_eq_false (show ¬ (0 ≤ Builtin.bitNot (a : Int)) by rw [e1]; omega), decide_eq_false (show ¬ (0 ≤ Builtin.bitNot (b : Int)) by rw [e1]; omega)]
  simp only
  rw [e2, e2]
  show -(-((a ||| b : Nat) : Int) - 1) - 1 = _
  omega
/-- the bits of a lot -/
def mask (l : List Nat) : Nat := (l.map fun x => 2 ^ x).sum
theorem mask_cons (x : Nat) (l : List Nat) : mask (x :: l) = 2 ^ x + mask l := rfl
theorem e_bits_of (l : List Nat) (h : Hq) (hz : l.length ≤ sizeLine) (hb : ∀ x ∈ l, x ≤ 1000000) : F_bits_of [.p (lot l)] h = some (.p (.int (mask l : Nat)), h) := by
  have hl : EvN (mLc (sSeq (mVar 0)) (.nm 1) tYesM (mB gShl (mC (.int 1)) (mVar 1)) [1]) [.p (lot l), .und] h (l.map fun x => .p (.int ((2 ^ x : Nat) : Int))) := by
    refine lc_tup l nInt (fun x => .p (.int ((2 ^ x : Nat) : Int))) (by simp) hz fun x hx g' => ⟨_, rfl, ?_⟩
    have hc : cPow 1 (x : Int) = true := by
      have := hb x hx
      unfold cPow
      rw [decide_eq_true_iff]
      refine ⟨by omega, by omega, by decide⟩
    simp [wipeE, nInt, hc]
  refine runF_r [.p (lot l), .und] ?_
  unfold b_bits_of
  rw [retOf_sRet, hl.sum]
  have : (l.map fun x => ((2 ^ x : Nat) : Int)).sum = ((mask l : Nat) : Int) := by
    unfold mask
    induction l with
    | nil => rfl
    | cons x l ih =>
      rw [List.map_cons, List.sum_cons, List.map_cons, List.sum_cons, ih (by simp at hz; omega) (fun y hy => hb y (List.mem_cons_of_mem _ hy)) (by
        refine lc_tup l nInt (fun x => .p (.int ((2 ^ x : Nat) : Int))) (by simp) (by simp at hz; omega) fun x hx g' => ⟨_, rfl, ?_⟩
        have hc : cPow 1 (x : Int) = true := by
          have := hb x (List.mem_cons_of_mem _ hx)
          unfold cPow
          rw [decide_eq_true_iff]
          refine ⟨by omega, by omega, by decide⟩
        simp [wipeE, nInt, hc])]
      rfl
  rw [this]
end Wk
set_option Elab.async false
set_option linter.all false
set_option maxRecDepth 100000
set_option maxHeartbeats 1000000
set_option autoImplicit false
namespace Wk
open PySem PySem.Spec L2 MX
/-- the set bits from t on, below t + m -/
def bitsFrom (n t m : Nat) : List Nat := ((List.range m).map (· + t)).filter n.testBit
theorem bitsFrom_succ (n t m : Nat) : bitsFrom n t (m + 1) = (if n.testBit t then [t] else []) ++ bitsFrom n (t + 1) m := by
  unfold bitsFrom
  rw [List.range_succ_eq_map, List.map_cons, List.filter_cons, List.map_map]
  have : ((· + t) ∘ Nat.succ) = fun x => x + (t + 1) := by funext x; simp; omega
  rw [this]
  by_cases h : n.testBit (0 + t) = true
  · rw [if_pos h]
    rw [Nat.zero_add] at h
    rw [if_pos h, Nat.zero_add]; rfl
  · rw [if_neg h]
    rw [Nat.zero_add] at h
    rw [if_neg h]; rfl
theorem bitsFrom_nil {n t : Nat} (h : n / 2 ^ t = 0) (m : Nat) : bitsFrom n t m = [] := by
  unfold bitsFrom
  rw [List.filter_eq_nil_iff]
  intro x hx
  obtain ⟨y, _, rfl⟩ := List.mem_map.mp hx
  have hlt : n < 2 ^ t := by
    rcases Nat.lt_or_ge n (2 ^ t) with h' | h'
    · exact h'
    · have := Nat.div_pos h' (Nat.two_pow_pos t)
      omega
  have : n < 2 ^ (y + t) := Nat.lt_of_lt_of_le hlt (Nat.pow_le_pow_right (by decide) (by omega))
  rw [Nat.testBit_lt_two_pow this]
  simp
def lotOf (n m : Nat) : List Nat := (List.range m).filter n.testBit
theorem lotOf_eq (n m : Nat) : lotOf n m = bitsFrom n 0 m := by
  unfold lotOf bitsFrom
  have : ((· + 0) : Nat → Nat) = id := by funext x; rfl
  rw [this, List.map_id]
theorem shr_int (n t : Nat) : (n : Int) / 2 ^ t = ((n / 2 ^ t : Nat) : Int) := by
  rw [Int.natCast_ediv]
  congr 1
theorem bit_int (n t : Nat) : Builtin.bitAnd ((n : Int) / 2 ^ t) 1 = if n.testBit t then 1 else 0 := by
  rw [shr_int]
  have := i_and (n / 2 ^ t) 1
  rw [show ((1 : Nat) : Int) = 1 from rfl] at this
  rw [this, Nat.and_one_is_mod, Nat.testBit_eq_decide_div_mod_eq]
  rcases Nat.mod_two_eq_zero_or_one (n / 2 ^ t) with h | h <;> rw [h] <;> rfl
theorem lot_of_loop (n : Nat) (h : Hq) : ∀ (m t : Nat) (acc : List Nat), n / 2 ^ t < 2 ^ m → acc.length ≤ t → t + m ≤ 100 → ∃ t',
    whN (mBo (mB gGt (mB gShr (mVar 0) (mVar 2)) (mC (.int 0)))) (bSeq (sIf (tTru (mB gAnd (mB gShr (mVar 0) (mVar 2)) (mC (.int 1)))) (sExp (mMet gAppend (mVar 1) (aCons (mVar 2) aNil))) bNil) (sAug 2 (gI (fun _ _ => true) fun i j => .int (i + j)) (mC (.int 1)))) (m + 1)
      [.p (.int (n : Int)), .loc h.length, .p (.int (t : Int))] (h ++ [.lst (acc.map fun x => .p (nInt x))]) = some (.nx, [.p (.int (n : Int)), .loc h.length, .p (.int (t' : Nat))], h ++ [.lst ((acc ++ bitsFrom n t m).map fun x => .p (nInt x))]) := by
  intro m
  induction m with
  | zero =>
    intro t acc hn _ _
    have h0 : n / 2 ^ t = 0 := by simpa using hn
    refine ⟨t, ?_⟩
    unfold whN
    have : decide ((0 : Int) < (n : Int) / 2 ^ t) = false := by rw [shr_int, h0]; rfl
    simp [this, bitsFrom]
  | succ m ih =>
    intro t acc hn ha ht
    by_cases h0 : n / 2 ^ t = 0
    · refine ⟨t, ?_⟩
      unfold whN
      have : decide ((0 : Int) < (n : Int) / 2 ^ t) = false := by rw [shr_int, h0]; rfl
      simp [this, bitsFrom_nil h0]
    · have hp : decide ((0 : Int) < (n : Int) / 2 ^ t) = true := by
        rw [shr_int, decide_eq_true_iff]
        exact Int.natCast_pos.mpr (Nat.pos_of_ne_zero h0)
      have hn' : n / 2 ^ (t + 1) < 2 ^ m := by
        rw [Nat.pow_succ, ← Nat.div_div_eq_div_mul]
        rw [Nat.pow_succ] at hn
        omega
      have hlen : (acc.map fun x => Mv.p (nInt x)).length < sizeLine := by rw [List.length_map, sizeLine_eq]; omega
      obtain ⟨t', e⟩ := ih (t + 1) (acc ++ if n.testBit t then [t] else []) hn' (by split <;> simp <;> omega) (by omega)
      refine ⟨t', ?_⟩
      rw [bitsFrom_succ, ← List.append_assoc, ← e]
      rw [whN]
      have hb := bit_int n t
      by_cases hbit : n.testBit t = true
      · rw [if_pos hbit] at hb
        rw [List.length_map] at hlen
        simp [hp, hb, hbit, hlen, sAug]
      · rw [if_neg hbit] at hb
        simp [hp, hb, hbit, sAug]
theorem e_lot_of (n m : Nat) (h : Hq) (hn : n < 2 ^ m) (hm : m ≤ 100) : F_lot_of [.p (.int (n : Int))] h = some (.p (lot (lotOf n m)), h) := by
  obtain ⟨t', e⟩ := lot_of_loop n h m 0 [] (by simpa using hn) (by simp) (by omega)
  have ew := sWh_of e
  refine runF_rg [.p (.int (n : Int)), .und, .und] [.lst ((bitsFrom n 0 m).map fun x => .p (nInt x))] ?_
  unfold b_lot_of
  simp only [List.map_nil, List.nil_append] at ew
  have e1 : (sPar (aCons (mLst aNil) (aCons (mC (.int 0)) aNil)) [1, 2]) [.p (.int (n : Int)), .und, .und] h = some (.nx, [.p (.int (n : Int)), .loc h.length, .p (.int ((0 : Nat) : Int))], h ++ [.lst []]) := by
    simp
  rw [r_seq, e1]
  simp only [Option.bind_some]
  rw [r_seq, ew]
  simp [gTuple, lotOf_eq]
end Wk
set_option Elab.async false
set_option linter.all false
set_option maxRecDepth 100000
set_option maxHeartbeats 1000000
set_option autoImplicit false
namespace Wk
open PySem PySem.Spec L2 MX
def canGo (p : Nat → Bool) (one other thing : Nat) : Bool := (lotOf (dif other one) 10).any fun later => p (dif one (2 ^ thing) ||| 2 ^ later)
theorem shl1 (x : Nat) (hx : x ≤ 1000000) (h : Hq) : gShl (.p (.int 1)) (.p (.int (x : Int))) h = some (.p (.int ((2 ^ x : Nat) : Int)), h) := by
  have hc : cPow 1 (x : Int) = true := by
    unfold cPow
    rw [decide_eq_true_iff]
    refine ⟨by omega, by omega, by decide⟩
  simp [hc]
theorem pow_cast (x : Nat) : ((2 : Int) ^ x) = ((2 ^ x : Nat) : Int) := by simp
theorem i_or_p (a x : Nat) : Builtin.bitOr (a : Int) ((2 : Int) ^ x) = ((a ||| 2 ^ x : Nat) : Int) := by rw [pow_cast, i_or]
theorem i_dif_p (a x : Nat) : Builtin.bitAnd (a : Int) (Builtin.bitNot ((2 : Int) ^ x)) = ((dif a (2 ^ x) : Nat) : Int) := by rw [pow_cast, i_dif]
theorem dif_lt {a b m : Nat} (h : a < 2 ^ m) : dif a b < 2 ^ m := Nat.lt_of_le_of_lt (Nat.sub_le _ _) h
theorem e_can_go (d : Mv) (p : Nat → Bool) (one other thing : Nat) (h : Hq) (hd : DK h d p) (h1 : one < 2 ^ 10) (h2 : other < 2 ^ 10) (ht : thing < 10) (hm : mvB h.length d = true) :
    F_can_go [d, .p (.int (one : Int)), .p (.int (other : Int)), .p (.int (thing : Int))] h = some (.p (.bool (canGo p one other thing)), h) := by
  obtain ⟨n, kvs, rfl, hd1, hd2⟩ := id hd
  have hl : EvN (mLc (sSeq (mCall F_lot_of (aCons (mB gAnd (mVar 2) (mU gInv (mVar 1))) aNil))) (.nm 5) tYesM (mB (gIn false) (mB gOr (mVar 4) (mB gShl (mC (.int 1)) (mVar 5))) (mVar 0)) [5])
      [.loc n, .p (.int (one : Int)), .p (.int (other : Int)), .p (.int (thing : Int)), .p (.int (dif one (2 ^ thing) : Nat)), .und] h ((lotOf (dif other one) 10).map fun later => .p (.bool (p (dif one (2 ^ thing) ||| 2 ^ later)))) := by
    have hs : (mCall F_lot_of (aCons (mB gAnd (mVar 2) (mU gInv (mVar 1))) aNil)) [.loc n, .p (.int (one : Int)), .p (.int (other : Int)), .p (.int (thing : Int)), .p (.int (dif one (2 ^ thing) : Nat)), .und] h = some (.p (lot (lotOf (dif other one) 10)), h) := by
      simp [i_dif, e_lot_of (dif other one) 10 h (dif_lt h2) (by decide)]
    have hlen : (lotOf (dif other one) 10).length ≤ sizeLine := by
      have : (lotOf (dif other one) 10).length ≤ 10 := by
        unfold lotOf
        exact Nat.le_trans (List.length_filter_le _ _) (by simp)
      rw [sizeLine_eq]; omega
    refine lc_tup _ nInt _ hs hlen fun later hx g' => ⟨_, rfl, ?_⟩
    have hlt : later < 10 := by
      unfold lotOf at hx
      exact List.mem_range.mp (List.mem_filter.mp hx).1
    have := (hd.app (g := g')).isIn (dif one (2 ^ thing) ||| 2 ^ later)
    have s1 := shl1 later (by omega)
    simp only [r_b, r_var, r_c, wipeE, List.getElem?_set, List.getElem?_cons_zero, List.getElem?_cons_succ, nInt]
    simp [s1, i_or_p, this]
  refine runF_r [.loc n, .p (.int (one : Int)), .p (.int (other : Int)), .p (.int (thing : Int)), .und, .und] ?_
  unfold b_can_go
  have s1 := shl1 thing (by omega) h
  have e1 : (sAsg (mB gAnd (mVar 1) (mU gInv (mB gShl (mC (.int 1)) (mVar 3)))) (.nm 4)) [.loc n, .p (.int (one : Int)), .p (.int (other : Int)), .p (.int (thing : Int)), .und, .und] h = some (.nx, [.loc n, .p (.int (one : Int)), .p (.int (other : Int)), .p (.int (thing : Int)), .p (.int (dif one (2 ^ thing) : Nat)), .und], h) := by
    simp only [r_asg, r_b, r_u, r_var, r_c, List.getElem?_cons_zero, List.getElem?_cons_succ, Option.bind_some, s1]
    simp [i_dif_p]
  rw [r_seq, e1]
  simp only [Option.bind_some]
  rw [retOf_sRet, hl.any]
  rfl
end Wk
set_option Elab.async false
set_option linter.all false
set_option maxRecDepth 100000
set_option maxHeartbeats 1000000
set_option autoImplicit false
namespace Wk
open PySem PySem.Spec L2 MX
/-! ### masks of lots -/
theorem add_or {n y : Nat} (h : n.testBit y = false) : 2 ^ y + n = 2 ^ y ||| n := by
  have e1 : dif (2 ^ y ||| n) n = 2 ^ y := by
    apply Nat.eq_of_testBit_eq
    intro i
    rw [dif_bit, Nat.testBit_or, Nat.testBit_two_pow]
    by_cases z : y = i
    · subst z
      simp [h]
    · simp [z]
  have e2 : (2 ^ y ||| n) &&& n = n := by
    apply Nat.eq_of_testBit_eq
    intro i
    rw [Nat.testBit_and, Nat.testBit_or]
    cases n.testBit i <;> simp
  unfold dif at e1
  rw [e2] at e1
  have : n ≤ 2 ^ y ||| n := Nat.right_le_or
  omega
theorem mask_bit : ∀ {l : List Nat}, l.Nodup → ∀ x, (mask l).testBit x = decide (x ∈ l)
  | [], _, x => by simp [mask]
  | y :: l, h, x => by
    rw [List.nodup_cons] at h
    have ih := mask_bit h.2
    rw [mask_cons, add_or (by rw [ih]; simpa using h.1), Nat.testBit_or, ih, Nat.testBit_two_pow, Bool.eq_iff_iff]
    simp only [Bool.or_eq_true, decide_eq_true_iff, List.mem_cons]
    exact ⟨fun h => h.elim (fun e => .inl e.symm) .inr, fun h => h.elim (fun e => .inl e.symm) .inr⟩
theorem mask_lt {l : List Nat} {m : Nat} (h : l.Nodup) (hm : ∀ x ∈ l, x < m) : mask l < 2 ^ m := by
  apply Nat.lt_pow_two_of_testBit
  intro i hi
  rw [mask_bit h, decide_eq_false_iff_not]
  exact fun z => absurd (hm i z) (by omega)
/-- a lot of things below ten -/
def Lot (m : Nat) (l : List Nat) : Prop := l.Pairwise (· < ·) ∧ ∀ x ∈ l, x < m
theorem Lot.nodup {m : Nat} {l : List Nat} (h : Lot m l) : l.Nodup := h.1.imp fun h => Nat.ne_of_lt h
theorem Lot.lt {m : Nat} {l : List Nat} (h : Lot m l) : mask l < 2 ^ m := mask_lt h.nodup h.2
theorem Lot.len : ∀ {m : Nat} {l : List Nat}, Lot m l → l.length ≤ m := by
  intro m l h
  have : ∀ (l : List Nat) (k : Nat), l.Pairwise (· < ·) → (∀ x ∈ l, k ≤ x ∧ x < m) → l.length + k ≤ m ∨ l = [] := by
    intro l
    induction l with
    | nil => intro k _ _; exact .inr rfl
    | cons x l ih =>
      intro k hp hx
      rw [List.pairwise_cons] at hp
      have h1 := hx x List.mem_cons_self
      rcases ih (x + 1) hp.2 (fun y hy => ⟨hp.1 y hy, (hx y (List.mem_cons_of_mem _ hy)).2⟩) with h2 | h2
      · left; simp; omega
      · left; subst h2; simp; omega
  rcases this l 0 h.1 (fun x hx => ⟨Nat.zero_le _, h.2 x hx⟩) with h2 | h2
  · omega
  · subst h2; simp
theorem Lot.mono {m n : Nat} {l : List Nat} (h : Lot m l) (k : m ≤ n) : Lot n l := ⟨h.1, fun x hx => Nat.lt_of_lt_of_le (h.2 x hx) k⟩
theorem lotOf_lot (n m : Nat) : Lot m (lotOf n m) := by
  unfold lotOf
  refine ⟨List.Pairwise.filter _ List.pairwise_lt_range, fun x hx => List.mem_range.mp (List.mem_filter.mp hx).1⟩
theorem mem_lotOf {n m x : Nat} : x ∈ lotOf n m ↔ x < m ∧ n.testBit x = true := by
  unfold lotOf
  rw [List.mem_filter, List.mem_range]
def pIn (ls : List (List Nat)) : Nat → Bool := fun x => decide (x ∈ ls.map mask)
def stuckP (ls : List (List Nat)) : Option Pd := ls.findSome? fun one => ls.findSome? fun other => (lotOf (dif (mask one) (mask other)) 10).findSome? fun thing =>
  if canGo (pIn ls) (mask one) (mask other) thing = true then none else some (.tuple [lot one, lot other, nInt thing])
theorem e_bits (l : List Nat) (h : Hq) (hl : Lot 10 l) : F_bits_of [.p (lot l)] h = some (.p (.int (mask l : Nat)), h) :=
  e_bits_of l h (by have := hl.len; rw [sizeLine_eq]; omega) fun x hx => by have := hl.2 x hx; omega
/-- the walk of told_stuck, the dict at d -/
theorem stuck_loop (ls : List (List Nat)) (hh : Hq) (d : Mv) (hd : DK hh d (pIn ls)) (hmv : mvB hh.length d = true) (hl : ∀ l ∈ ls, Lot 10 l) : FindEnd (fun _ => True) hh (stuckP ls)
    ((sFor (sSeq (mVar 0)) (.nm 2) (sFor (sSeq (mVar 0)) (.nm 3) (bSeq (sPar (aCons (mCall F_bits_of (aCons (mVar 2) aNil)) (aCons (mCall F_bits_of (aCons (mVar 3) aNil)) aNil)) [5, 6]) (sFor (sSeq (mCall F_lot_of (aCons (mB gAnd (mVar 5) (mU gInv (mVar 6))) aNil))) (.nm 7) (sIf (tNotM (tTru (mCall F_can_go (aCons (mVar 1) (aCons (mVar 5) (aCons (mVar 6) (aCons (mVar 7) aNil))))))) (sRet (mTup (aCons (mVar 2) (aCons (mVar 3) (aCons (mVar 7) aNil))))) bNil))))) [.p (.tuple (ls.map lot)), d, .und, .und, .und, .und, .und, .und] hh) := by
  obtain ⟨n0, kvs, rfl, hd1, hd2⟩ := id hd
  have src0 : ∀ e : En, e[0]? = some (.p (.tuple (ls.map lot))) → SrcR (sSeq (mVar 0)) e hh (ls.map fun l => Mv.p (lot l)) hh SAny := fun e he => by
    have := src_p (ma := mVar 0) (e := e) (h := hh) (h1 := hh) (xs := ls.map lot) (by simp [he])
    rw [List.map_map] at this
    exact this
  have wk : ∀ {P : En → Prop} {o : Option Pd} {r : Option (Fl × En × Hq)}, FindEnd P hh o r → FindEnd (fun _ => True) hh o r := by
    intro P o r q
    cases o with
    | none => obtain ⟨e, _, q⟩ := q; exact ⟨e, trivial, q⟩
    | some v => exact q
  refine wk (for_find (fun e => ∃ a b c d' f, e = [.p (.tuple (ls.map lot)), .loc n0, a, b, .und, c, d', f]) ls (fun l => .p (lot l)) _ (src0 _ rfl) trivial ⟨_, _, _, _, _, rfl⟩ ?_)
  rintro one h1 _ ⟨a, b, c, d', f, rfl⟩
  refine ⟨_, rfl, ?_⟩
  have q1 := for_find (s := sSeq (mVar 0)) (t := .nm 3) (b := (bSeq (sPar (aCons (mCall F_bits_of (aCons (mVar 2) aNil)) (aCons (mCall F_bits_of (aCons (mVar 3) aNil)) aNil)) [5, 6]) (sFor (sSeq (mCall F_lot_of (aCons (mB gAnd (mVar 5) (mU gInv (mVar 6))) aNil))) (.nm 7) (sIf (tNotM (tTru (mCall F_can_go (aCons (mVar 1) (aCons (mVar 5) (aCons (mVar 6) (aCons (mVar 7) aNil))))))) (sRet (mTup (aCons (mVar 2) (aCons (mVar 3) (aCons (mVar 7) aNil))))) bNil)))) (e := [.p (.tuple (ls.map lot)), .loc n0, .p (lot one), b, .und, c, d', f]) (fun e => ∃ b c d' f, e = [.p (.tuple (ls.map lot)), .loc n0, .p (lot one), b, .und, c, d', f]) ls (fun l => .p (lot l))
    (fun other => (lotOf (dif (mask one) (mask other)) 10).findSome? fun thing => if canGo (pIn ls) (mask one) (mask other) thing = true then none else some (.tuple [lot one, lot other, nInt thing])) (src0 _ rfl) trivial ⟨_, _, _, _, rfl⟩ (by
    rintro other h2 _ ⟨b, c, d', f, rfl⟩
    refine ⟨_, rfl, ?_⟩
    have hs : (mCall F_lot_of (aCons (mB gAnd (mVar 5) (mU gInv (mVar 6))) aNil)) [.p (.tuple (ls.map lot)), .loc n0, .p (lot one), .p (lot other), .und, .p (.int (mask one : Nat)), .p (.int (mask other : Nat)), f] hh = some (.p (lot (lotOf (dif (mask one) (mask other)) 10)), hh) := by
      simp [i_dif, e_lot_of (dif (mask one) (mask other)) 10 _ (dif_lt (hl one h1).lt) (by decide)]
    have src2 := src_p hs
    rw [List.map_map] at src2
    have lp := for_find (b := (sIf (tNotM (tTru (mCall F_can_go (aCons (mVar 1) (aCons (mVar 5) (aCons (mVar 6) (aCons (mVar 7) aNil))))))) (sRet (mTup (aCons (mVar 2) (aCons (mVar 3) (aCons (mVar 7) aNil))))) bNil)) (t := .nm 7) (fun e => ∃ f, e = [.p (.tuple (ls.map lot)), .loc n0, .p (lot one), .p (lot other), .und, .p (.int (mask one : Nat)), .p (.int (mask other : Nat)), f]) (lotOf (dif (mask one) (mask other)) 10) (fun x => Mv.p (nInt x))
      (fun thing => if canGo (pIn ls) (mask one) (mask other) thing = true then none else some (.tuple [lot one, lot other, nInt thing])) src2 trivial ⟨_, rfl⟩ (by
        rintro thing h3 _ ⟨f, rfl⟩
        refine ⟨_, rfl, ?_⟩
        have hc := e_can_go (.loc n0) (pIn ls) (mask one) (mask other) thing hh hd (hl one h1).lt (hl other h2).lt ((lotOf_lot _ _).2 thing h3) hmv
        cases hg : canGo (pIn ls) (mask one) (mask other) thing with
        | true =>
          rw [hg] at hc
          rw [if_pos rfl]
          exact ⟨[.p (.tuple (ls.map lot)), .loc n0, .p (lot one), .p (lot other), .und, .p (.int (mask one : Nat)), .p (.int (mask other : Nat)), .p (nInt thing)], ⟨_, rfl⟩, by simp [hc, nInt]⟩
        | false =>
          rw [hg] at hc
          rw [if_neg (by decide)]
          exact ⟨[.p (.tuple (ls.map lot)), .loc n0, .p (lot one), .p (lot other), .und, .p (.int (mask one : Nat)), .p (.int (mask other : Nat)), .p (nInt thing)], by simp [hc, nInt]⟩)
    have ep : (sPar (aCons (mCall F_bits_of (aCons (mVar 2) aNil)) (aCons (mCall F_bits_of (aCons (mVar 3) aNil)) aNil)) [5, 6]) [.p (.tuple (ls.map lot)), .loc n0, .p (lot one), .p (lot other), .und, c, d', f] hh = some (.nx, [.p (.tuple (ls.map lot)), .loc n0, .p (lot one), .p (lot other), .und, .p (.int (mask one : Nat)), .p (.int (mask other : Nat)), f], hh) := by
      simp [e_bits one hh (hl one h1), e_bits other hh (hl other h2)]
    show FindEnd _ hh _ (bSeq _ _ [.p (.tuple (ls.map lot)), .loc n0, .p (lot one), .p (lot other), .und, c, d', f] hh)
    rw [r_seq, ep]
    simp only [Option.bind_some]
    revert lp
    cases (lotOf (dif (mask one) (mask other)) 10).findSome? fun thing => if canGo (pIn ls) (mask one) (mask other) thing = true then none else some (PyData.tuple [lot one, lot other, nInt thing]) with
    | none => rintro ⟨e, ⟨f', rfl⟩, q⟩; exact ⟨_, ⟨_, _, _, _, rfl⟩, q⟩
    | some v => rintro ⟨e, q⟩; exact ⟨e, q⟩)
  show FindEnd _ hh _ (sFor _ _ _ [.p (.tuple (ls.map lot)), .loc n0, .p (lot one), b, .und, c, d', f] hh)
  revert q1
  cases ls.findSome? fun other => (lotOf (dif (mask one) (mask other)) 10).findSome? fun thing => if canGo (pIn ls) (mask one) (mask other) thing = true then none else some (PyData.tuple [lot one, lot other, nInt thing]) with
  | none => rintro ⟨e, ⟨b, c, d', f, rfl⟩, q⟩; exact ⟨_, ⟨_, _, _, _, _, rfl⟩, q⟩
  | some v => rintro ⟨e, q⟩; exact ⟨e, q⟩
theorem e_told_stuck (ls : List (List Nat)) (h : Hq) (hz : ls.length ≤ sizeLine) (hl : ∀ l ∈ ls, Lot 10 l) : F_told_stuck [.p (.tuple (ls.map lot))] h = some (.p ((stuckP ls).getD .none), h) := by
  obtain ⟨kvs, hk1, hk2⟩ := dc_tup (ma := mVar 0) (tk := mCall F_bits_of (aCons (mVar 4) aNil)) (tv := mC (.bool true)) (t := .nm 4) (vs := [4]) (e := [.p (.tuple (ls.map lot)), .und, .und, .und, .und, .und, .und, .und]) (h := h) ls lot mask (.p (.bool true)) (by simp) hz
    fun l hx g' => ⟨_, rfl, by simp [wipeE, e_bits l _ (hl l hx)], by simp⟩
  have hd : DK (h ++ [Mo.dct false kvs]) (.loc h.length) (pIn ls) := ⟨h.length, kvs, rfl, by simp, hk2⟩
  have hmv : mvB (h ++ [Mo.dct false kvs]).length (.loc h.length) = true := by simp [mvB]
  have lp := stuck_loop ls _ _ hd hmv hl
  refine runF_rg [.p (.tuple (ls.map lot)), .und, .und, .und, .und, .und, .und, .und] [Mo.dct false kvs] ?_
  unfold b_told_stuck
  have e1 : (sAsg (mDc (sSeq (mVar 0)) (.nm 4) tYesM (mCall F_bits_of (aCons (mVar 4) aNil)) (mC (.bool true)) [4]) (.nm 1)) [.p (.tuple (ls.map lot)), .und, .und, .und, .und, .und, .und, .und] h = some (.nx, [.p (.tuple (ls.map lot)), .loc h.length, .und, .und, .und, .und, .und, .und], h ++ [Mo.dct false kvs]) := by
    rw [r_asg, hk1]
    simp
  rw [r_seq, e1]
  simp only [Option.bind_some]
  rw [r_seq]
  revert lp
  cases stuckP ls with
  | none =>
    rintro ⟨e, _, q⟩
    rw [q]
    simp
  | some v =>
    rintro ⟨e, q⟩
    rw [q]
    simp
end Wk
set_option Elab.async false
set_option linter.all false
set_option maxRecDepth 100000
set_option maxHeartbeats 1000000
set_option autoImplicit false
namespace Wk
open PySem PySem.Spec L2 MX
abbrev heapP (many : Nat) (ls : List (List Nat)) : Pd := .tuple [nInt many, .tuple (ls.map lot)]
theorem rise_lot : ∀ {l : List Nat}, l.Pairwise (· < ·) → rise ltN l = true
  | [], _ => rfl
  | [x], _ => rfl
  | x :: y :: l, h => by
    rw [List.pairwise_cons] at h
    have ih := rise_lot h.2
    unfold rise at ih ⊢
    simp only [List.tail_cons, List.zip_cons_cons, List.all_cons] at ih ⊢
    rw [ih, Bool.and_true]
    exact decide_eq_true (h.1 y List.mem_cons_self)
theorem isLot_of {many : Nat} {l : List Nat} (h : Lot many l) : isLot many l = true := by
  unfold isLot
  rw [rise_lot h.1, Bool.and_true, List.all_eq_true]
  exact fun x hx => decide_eq_true (h.2 x hx)
theorem plns_lots (ls : List (List Nat)) : plns 59 (ls.map lot) = true := by
  have h1 : ∀ l : List Nat, plns 58 (l.map nInt) = true := by
    intro l
    induction l with
    | nil => rfl
    | cons x l ih => simp [plns, pln, ih]
  induction ls with
  | nil => rfl
  | cons l ls ih => simp [plns, pln, ih, h1]
theorem pln_lots (ls : List (List Nat)) : pln 60 (.tuple (ls.map lot)) = true := by
  have := plns_lots ls
  simpa [pln] using this
/-- a heap's shape -/
structure HeapOk (many : Nat) (ls : List (List Nat)) : Prop where
  few : many ≤ 9
  lots : ∀ l ∈ ls, Lot many l
  ris : rise ltL ls = true
  ne : ls ≠ []
  sz : ls.length ≤ sizeLine
section
variable {many : Nat} {ls : List (List Nat)} (k : HeapOk many ls)
include k
theorem HeapOk.len {l : List Nat} (h : l ∈ ls) : l.length ≤ sizeLine := by
  have := (k.lots l h).len
  have := k.few
  rw [sizeLine_eq]; omega
theorem HeapOk.are (h : Hq) : F_are_lots [.p (.int (many : Int)), .p (.tuple (ls.map lot))] h = some (.p (.bool true), h) := by
  rw [e_are_lots many ls h k.sz (fun l hl => k.len hl), k.ris]
  have : (ls.all fun l => isLot many l) = true := List.all_eq_true.mpr fun l hl => isLot_of (k.lots l hl)
  rw [this]; rfl
theorem HeapOk.int9 (h : Hq) : F_is_int [.p (.int (many : Int)), .p (.int 0), .p (.int 9)] h = some (.p (.bool true), h) := by
  rw [e_is_int]
  have := k.few
  have h1 : decide ((0 : Int) ≤ (many : Int)) = true := by rw [decide_eq_true_iff]; omega
  have h2 : decide ((many : Int) ≤ 9) = true := by rw [decide_eq_true_iff]; omega
  rw [h1, h2]; rfl
theorem HeapOk.neE (h : Hq) : gNe (.p (.tuple (ls.map lot))) (.p (.tuple [])) h = some (.p (.bool true), h) := by
  rw [ne_pln (pln_lots ls) rfl false (by simpa using k.ne) h]; rfl
theorem HeapOk.eqE (h : Hq) : gEq (.p (.tuple (ls.map lot))) (.p (.tuple [])) h = some (.p (.bool false), h) := eq_pln (pln_lots ls) rfl false (by simpa using k.ne) h
theorem HeapOk.lots10 : ∀ l ∈ ls, Lot 10 l := fun l hl => (k.lots l hl).mono (by have := k.few; omega)
theorem HeapOk.stuck (h : Hq) : F_told_stuck [.p (.tuple (ls.map lot))] h = some (.p ((stuckP ls).getD .none), h) := e_told_stuck ls h k.sz k.lots10
end
@[simp] theorem ix0 (x : Pd) (xs : List Pd) (h : Hq) : gIx (.p (.tuple (x :: xs))) (.p (.int 0)) h = some (.p x, h) := by
  unfold gIx
  simp [dctOf, seqOf, atI, ixN]
theorem ixN_nat {n i : Nat} (hi : i < n) : ixN n (i : Int) = some i := by
  unfold ixN
  rw [if_pos (by omega), if_pos (by omega)]
  rfl
theorem ixT {xs : List Pd} {i : Nat} {x : Pd} (e : xs[i]? = some x) (h : Hq) : gIx (.p (.tuple xs)) (.p (.int (i : Int))) h = some (.p x, h) := by
  have hi : i < xs.length := (List.getElem?_eq_some_iff.mp e).1
  unfold gIx
  simp [dctOf, seqOf, atI, ixN_nat hi, e]
@[simp] theorem ix1 (x y : Pd) (xs : List Pd) (h : Hq) : gIx (.p (.tuple (x :: y :: xs))) (.p (.int 1)) h = some (.p y, h) := ixT (i := 1) rfl h
@[simp] theorem ix2 (x y z : Pd) (xs : List Pd) (h : Hq) : gIx (.p (.tuple (x :: y :: z :: xs))) (.p (.int 2)) h = some (.p z, h) := ixT (i := 2) rfl h
theorem ixL {h : Hq} {d : Mv} {ds : List Mv} {i : Nat} {x : Mv} (el : lstOf h d = some ds) (e : ds[i]? = some x) : gIx d (.p (.int (i : Int))) h = some (x, h) := by
  have hi : i < ds.length := (List.getElem?_eq_some_iff.mp e).1
  have e1 : dctOf h d = none := by
    unfold lstOf at el
    split at el
    · rename_i n
      show (match h[n]? with
        | some (.dct t kvs) => some (t, kvs)
        | _ => none) = none
      split at el
      · rename_i q
        rw [q]
      · cases el
    · rfl
    · cases el
  have e2 : ∀ z, d ≠ .p (.str z) := fun z q => by
    subst q
    cases el
  unfold gIx
  rw [e1]
  simp only [seqOf, lstOf_tup el, el, Option.bind_some, atI, ixN_nat hi, e, Option.map_some]
section
variable {many : Nat} {ls : List (List Nat)} (k : HeapOk many ls)
include k
theorem HeapOk.choice (h : Hq) : F_is_choice [.p (heapP many ls)] h = some (.p (.bool (stuckP ls).isNone), h) := by
  refine runF_r [.p (heapP many ls)] ?_
  unfold b_is_choice heapP nInt
  have a := r_and (a := mCall F_are_lots (aCons (mB gIx (mVar 0) (mC (.int 0))) (aCons (mB gIx (mVar 0) (mC (.int 1))) aNil))) (b := mAnd (mB gNe (mB gIx (mVar 0) (mC (.int 1))) (mTup aNil)) (mB gIsN (mCall F_told_stuck (aCons (mB gIx (mVar 0) (mC (.int 1))) aNil)) (mC .none)))
    (e := [.p (.tuple [.int (many : Int), .tuple (ls.map lot)])]) (h := h) (k := true) (h' := h) (by simp [k.are h])
  have b := r_and (a := mB gNe (mB gIx (mVar 0) (mC (.int 1))) (mTup aNil)) (b := mB gIsN (mCall F_told_stuck (aCons (mB gIx (mVar 0) (mC (.int 1))) aNil)) (mC .none))
    (e := [.p (.tuple [.int (many : Int), .tuple (ls.map lot)])]) (h := h) (k := true) (h' := h) (by simp [k.neE h])
  rw [if_pos rfl] at a b
  rw [b] at a
  have c : (mB gIsN (mCall F_told_stuck (aCons (mB gIx (mVar 0) (mC (.int 1))) aNil)) (mC .none)) [.p (.tuple [.int (many : Int), .tuple (ls.map lot)])] h = some (.p (.bool (stuckP ls).isNone), h) := by
    simp only [r_b, r_call, r_cons, r_nil, r_var, r_c, List.getElem?_cons_zero, Option.bind_some, ix1, k.stuck h]
    cases hs : stuckP ls with
    | none => rfl
    | some v =>
      have : ∃ xs, v = .tuple xs := by
        unfold stuckP at hs
        obtain ⟨one, h1, hs⟩ := List.exists_of_findSome?_eq_some hs
        obtain ⟨other, h2, hs⟩ := List.exists_of_findSome?_eq_some hs
        obtain ⟨thing, h3, hs⟩ := List.exists_of_findSome?_eq_some hs
        split at hs
        · cases hs
        · cases hs; exact ⟨_, rfl⟩
      obtain ⟨xs, rfl⟩ := this
      rfl
  rw [c] at a
  simp [k.int9 h, a]
end
end Wk
set_option Elab.async false
set_option linter.all false
set_option maxRecDepth 100000
set_option maxHeartbeats 1000000
set_option autoImplicit false
namespace Wk
open PySem PySem.Spec L2 MX
def weigh (ws l : List Nat) : Nat := (l.map fun x => ws.getD x 0).sum
theorem sum_cast (l : List Nat) : (l.map fun x : Nat => (x : Int)).sum = ((l.sum : Nat) : Int) := by
  induction l with
  | nil => rfl
  | cons x l ih => rw [List.map_cons, List.sum_cons, List.sum_cons, ih]; simp
theorem weigh_int (ws l : List Nat) : (l.map fun x => ((ws.getD x 0 : Nat) : Int)).sum = ((weigh ws l : Nat) : Int) := by
  have := sum_cast (l.map fun x => ws.getD x 0)
  rw [List.map_map] at this
  exact this
theorem ixN_lot {ws : List Nat} {x : Nat} (hx : x < ws.length) (h : Hq) : gIx (.p (lot ws)) (.p (.int (x : Int))) h = some (.p (.int ((ws.getD x 0 : Nat) : Int)), h) := by
  refine ixT ?_ h
  rw [List.getElem?_map, List.getElem?_eq_getElem hx, List.getD_eq_getElem?_getD, List.getElem?_eq_getElem hx]
  rfl
theorem e_weight_of (ws l : List Nat) (h : Hq) (hz : l.length ≤ sizeLine) (hl : ∀ x ∈ l, x < ws.length) : F_weight_of [.p (lot ws), .p (lot l)] h = some (.p (.int (weigh ws l : Nat)), h) := by
  have q : EvN (mLc (sSeq (mVar 1)) (.nm 2) tYesM (mB gIx (mVar 0) (mVar 2)) [2]) [.p (lot ws), .p (lot l), .und] h (l.map fun x => .p (.int ((ws.getD x 0 : Nat) : Int))) := by
    refine lc_tup l nInt (fun x => .p (.int ((ws.getD x 0 : Nat) : Int))) (by simp) hz fun x hx g' => ⟨_, rfl, ?_⟩
    have := ixN_lot (hl x hx) (h ++ g')
    simp [wipeE] at this ⊢
    exact this
  refine runF_r [.p (lot ws), .p (lot l), .und] ?_
  unfold b_weight_of
  rw [retOf_sRet, q.sum, weigh_int]
theorem e_weighs (ws l : List Nat) (h : Hq) (hz : l.length ≤ sizeLine) (hl : ∀ x ∈ l, x < ws.length) : F__law_weighs [.p (lot ws), .p (lot l)] h = some (.p (.int (weigh ws l : Nat)), h) := by
  have q : EvN (mLc (sSeq (mVar 1)) (.nm 2) tYesM (mB gIx (mVar 0) (mVar 2)) [2]) [.p (lot ws), .p (lot l), .und] h (l.map fun x => .p (.int ((ws.getD x 0 : Nat) : Int))) := by
    refine lc_tup l nInt (fun x => .p (.int ((ws.getD x 0 : Nat) : Int))) (by simp) hz fun x hx g' => ⟨_, rfl, ?_⟩
    have := ixN_lot (hl x hx) (h ++ g')
    simp [wipeE] at this ⊢
    exact this
  refine runF_r [.p (lot ws), .p (lot l), .und] ?_
  unfold b__law_weighs
  rw [retOf_sRet, q.sum, weigh_int]
/-- weights as they must be -/
def WOk (many : Nat) (ws : List Nat) : Prop := ws.length = many ∧ ∀ w ∈ ws, w ≤ 1000
theorem e_are_w (many : Nat) (ws : List Nat) (hw : WOk many ws) (h : Hq) (hz : ws.length ≤ sizeLine) : EvN (mLc (sSeq (mVar 1)) (.nm 2) tYesM (mCall F_is_int (aCons (mVar 2) (aCons (mC (.int 0)) (aCons (mC (.int 1000)) aNil)))) [2]) [.p (nInt many), .p (lot ws), .und] h (ws.map fun w => .p (.bool true)) := by
  refine lc_tup ws nInt (fun w => .p (.bool true)) (by simp) hz fun w hx g' => ⟨_, rfl, ?_⟩
  have h1 : decide ((0 : Int) ≤ (w : Int)) = true := by rw [decide_eq_true_iff]; omega
  have h2 : decide ((w : Int) ≤ 1000) = true := by
    have := hw.2 w hx
    rw [decide_eq_true_iff]; omega
  simp [wipeE, e_is_int, nInt]
  have := hw.2 w hx
  omega
theorem e_are_weights (many : Nat) (ws : List Nat) (hw : WOk many ws) (h : Hq) (hz : ws.length ≤ sizeLine) : F_are_weights [.p (nInt many), .p (lot ws)] h = some (.p (.bool true), h) := by
  have q := (e_are_w many ws hw h hz).all
  have e0 : (ws.all fun _ => true) = true := by simp
  rw [e0] at q
  refine runF_r [.p (nInt many), .p (lot ws), .und] ?_
  unfold b_are_weights
  have hl := hw.1
  simp [q, nInt, hl]
theorem e_look_weights (many : Nat) (ws : List Nat) (hw : WOk many ws) (h : Hq) (hz : ws.length ≤ sizeLine) : F_look_at_weights [.p (nInt many), .p (lot ws)] h = some (.p .none, h) := by
  have q := (e_are_w many ws hw h hz).all
  have e0 : (ws.all fun _ => true) = true := by simp
  rw [e0] at q
  refine runF_r [.p (nInt many), .p (lot ws), .und] ?_
  unfold b_look_at_weights
  have hl := hw.1
  simp [q, nInt, hl]
section
variable {many : Nat} {ls : List (List Nat)} (k : HeapOk many ls)
include k
theorem HeapOk.best (ws : List Nat) (hw : ws.length = many) (h : Hq) : ∃ top ∈ ls, (∀ l ∈ ls, weigh ws l ≤ weigh ws top) ∧
    F_told_best [.p (heapP many ls), .p (lot ws)] h = some (.p (.tuple [.int (weigh ws top : Nat), lot top]), h) := by
  have hwl : ∀ l ∈ ls, ∀ x ∈ l, x < ws.length := fun l hl x hx => by rw [hw]; exact (k.lots l hl).2 x hx
  have q : ∀ e : En, e[0]? = some (.p (heapP many ls)) → e[1]? = some (.p (lot ws)) → e.length = 4 → EvN (mLc (sSeq (mB gIx (mVar 0) (mC (.int 1)))) (.nm 3) tYesM (mCall F_weight_of (aCons (mVar 1) (aCons (mVar 3) aNil))) [3]) e h (ls.map fun l => .p (.int ((weigh ws l : Nat) : Int))) := fun e h0 h1 h2 => by
    refine lc_tup ls lot (fun l => .p (.int ((weigh ws l : Nat) : Int))) (by simp [h0, heapP]) k.sz fun l hl g' => ?_
    have := e_weight_of ws l (h ++ g') (k.len hl) (hwl l hl)
    have hl3 : (wipeE e [3]).length = 4 := by simp [wipeE, h2]
    refine ⟨(wipeE e [3]).set 3 (.p (lot l)), by simp [hl3], ?_⟩
    have e1 : ((wipeE e [3]).set 3 (.p (lot l)))[1]? = some (.p (lot ws)) := by
      rw [List.getElem?_set_ne (by decide)]
      show (e.set 3 .und)[1]? = _
      rw [List.getElem?_set_ne (by decide), h1]
    have e3 : ((wipeE e [3]).set 3 (.p (lot l)))[3]? = some (.p (lot l)) := by
      rw [List.getElem?_set_self (by rw [hl3]; decide)]
    simp only [r_call, r_cons, r_nil, r_var, e1, e3, Option.bind_some]
    exact this
  have hne : ls.map (fun l => ((weigh ws l : Nat) : Int)) ≠ [] := by simpa using k.ne
  obtain ⟨m1, m2⟩ := maxL_spec hne
  generalize hM : maxL (ls.map fun l => ((weigh ws l : Nat) : Int)) = M at m1 m2
  have q1 := (q [.p (heapP many ls), .p (lot ws), .und, .und] rfl rfl rfl).ext (f := maxL) (q := PySem.W.maxD) k.ne
  rw [hM] at q1
  obtain ⟨t0, ht0, et0⟩ := List.mem_map.mp m1
  have q2 : EvN (mLc (sSeq (mB gIx (mVar 0) (mC (.int 1)))) (.nm 3) (mBo (mB gEq (mCall F_weight_of (aCons (mVar 1) (aCons (mVar 3) aNil))) (mVar 2))) (mVar 3) [3]) [.p (heapP many ls), .p (lot ws), .p (.int M), .und] h
      ((ls.filter fun l => decide (((weigh ws l : Nat) : Int) = M)).map fun l => .p (lot l)) := by
    refine lc_tupF ls lot (fun l => .p (lot l)) _ (by simp [heapP]) k.sz fun l hl g' => ⟨_, rfl, ?_, fun _ => by simp [wipeE]⟩
    have := e_weight_of ws l (h ++ g') (k.len hl) (hwl l hl)
    simp [wipeE] at this ⊢
    simp [this]
  cases hf : ls.filter fun l => decide (((weigh ws l : Nat) : Int) = M) with
  | nil =>
    have := List.filter_eq_nil_iff.mp hf t0 ht0
    simp [et0] at this
  | cons top rest =>
    have htop : top ∈ ls.filter fun l => decide (((weigh ws l : Nat) : Int) = M) := by rw [hf]; exact List.mem_cons_self
    have ht := List.mem_filter.mp htop
    have eM : ((weigh ws top : Nat) : Int) = M := by simpa using ht.2
    refine ⟨top, ht.1, fun l hl => ?_, ?_⟩
    · have := m2 _ (List.mem_map.mpr ⟨l, hl, rfl⟩)
      omega
    · rw [hf] at q2
      obtain ⟨n, g, e1, e2, hn⟩ := q2
      have q3 : (mGc (mB gIx (mLc (sSeq (mB gIx (mVar 0) (mC (.int 1)))) (.nm 3) (mBo (mB gEq (mCall F_weight_of (aCons (mVar 1) (aCons (mVar 3) aNil))) (mVar 2))) (mVar 3) [3]) (mC (.int 0)))) [.p (heapP many ls), .p (lot ws), .p (.int M), .und] h = some (.p (lot top), h) := by
        unfold mGc
        rw [r_b, e1]
        have := ixL (h := h ++ g) (d := .loc n) (ds := (top :: rest).map fun l => .p (lot l)) (i := 0) (x := .p (lot top)) (by simp only [lstOf, e2]) rfl
        simp only [Option.bind_some, r_c]
        rw [show ((0 : Nat) : Int) = 0 from rfl] at this
        rw [this]
        simp
      refine runF_r [.p (heapP many ls), .p (lot ws), .und, .und] ?_
      unfold b_told_best
      rw [r_seq, r_asg, q1]
      simp only [Option.bind_some, r_nm, List.length_cons, List.length_nil, Option.map_some]
      simp only [show (2 : Nat) < 0 + 1 + 1 + 1 + 1 from by decide, if_true, List.set_cons_succ, List.set_cons_zero, Option.map_some, Option.bind_some]
      simp [q3, eM]
end
end Wk
set_option Elab.async false
set_option linter.all false
set_option maxRecDepth 100000
set_option maxHeartbeats 1000000
set_option autoImplicit false
namespace Wk
open PySem PySem.Spec L2 MX
theorem cut_take {α : Type} (l : List α) (k : Nat) (hk : k ≤ l.length) : cutL l none (some (k : Int)) = l.take k := by
  unfold cutL
  have h1 : HT.sIx l.length 0 none = 0 := rfl
  rw [h1, HT.sIx_nat]
  simp [Nat.min_eq_left hk]
theorem cut_drop {α : Type} (l : List α) (k : Nat) (hk : k ≤ l.length) : cutL l (some (k : Int)) none = l.drop k := by
  unfold cutL
  have h1 : HT.sIx l.length l.length none = l.length := rfl
  rw [h1, HT.sIx_nat, Nat.min_eq_left hk]
  rw [List.take_of_length_le]
  simp
/-- no lot within another -/
def Anti (ls : List (List Nat)) : Prop := ls.Pairwise fun a b => dif (mask a) (mask b) ≠ 0 ∧ dif (mask b) (mask a) ≠ 0
theorem sl_cat {d : Mv} {e : En} {h : Hq} (xs : List Pd) (at_ : Nat) (hx : lstOf h d = some (xs.map Mv.p)) (ha : at_ < xs.length) (hz : xs.length ≤ sizeLine) (h1 : e[1]? = some d) (h2 : e[2]? = some (.p (.int (at_ : Int)))) (hd : d ≠ .und) :
    mGc (mB gAdd (mSl (mVar 1) oNone (oSome (mVar 2))) (mSl (mVar 1) (oSome (mB gAdd (mVar 2) (mC (.int 1)))) oNone)) e h = some (.loc h.length, h ++ [.lst ((xs.take at_ ++ xs.drop (at_ + 1)).map Mv.p)]) := by
  have tn := lstOf_tup hx
  have v1 : ∀ h', mVar 1 e h' = some (d, h') := fun h' => by
    rw [r_var, h1]
    cases d <;> first | rfl | exact absurd rfl hd
  have e1 : mSl (mVar 1) oNone (oSome (mVar 2)) e h = some (.loc h.length, h ++ [.lst ((xs.take at_).map Mv.p)]) := by
    unfold mSl oNone oSome
    simp only [v1, r_var, h2, Option.bind_some, tn, hx, Option.map_some]
    rw [cut_take _ _ (by simp; omega), List.map_take]
  have e2 : mSl (mVar 1) (oSome (mB gAdd (mVar 2) (mC (.int 1)))) oNone e (h ++ [.lst ((xs.take at_).map Mv.p)]) = some (.loc (h.length + 1), (h ++ [.lst ((xs.take at_).map Mv.p)]) ++ [.lst ((xs.drop (at_ + 1)).map Mv.p)]) := by
    unfold mSl oNone oSome
    have hx2 := lstOf_app (g := [.lst ((xs.take at_).map Mv.p)]) hx
    simp only [v1, r_b, r_var, r_c, h2, Option.bind_some, r_addI, tn, hx2, Option.map_some]
    rw [show ((at_ : Int) + 1) = ((at_ + 1 : Nat) : Int) from rfl, cut_drop _ _ (by simp; omega), List.map_drop]
    simp
  unfold mGc
  rw [r_b, e1]
  simp only [Option.bind_some, e2]
  have e3 : gAdd (.loc h.length) (.loc (h.length + 1)) ((h ++ [.lst ((xs.take at_).map Mv.p)]) ++ [.lst ((xs.drop (at_ + 1)).map Mv.p)]) = some (.loc (h.length + 2), ((h ++ [.lst ((xs.take at_).map Mv.p)]) ++ [.lst ((xs.drop (at_ + 1)).map Mv.p)]) ++ [.lst ((xs.take at_).map Mv.p ++ (xs.drop (at_ + 1)).map Mv.p)]) := by
    unfold gAdd
    have a1 : ((h ++ [Mo.lst ((xs.take at_).map Mv.p)]) ++ [Mo.lst ((xs.drop (at_ + 1)).map Mv.p)])[h.length]? = some (.lst ((xs.take at_).map Mv.p)) := by simp
    have a2 : ((h ++ [Mo.lst ((xs.take at_).map Mv.p)]) ++ [Mo.lst ((xs.drop (at_ + 1)).map Mv.p)])[h.length + 1]? = some (.lst ((xs.drop (at_ + 1)).map Mv.p)) := by simp
    simp only [a1, a2]
    rw [if_pos (by simp; omega)]
    simp
  rw [e3]
  simp only [Option.map_some]
  rw [List.append_assoc, List.append_assoc, gc_l (h := h) (o := .lst ((xs.take at_ ++ xs.drop (at_ + 1)).map Mv.p)) (by omega) (by simp) (by rw [moB, mvsB_p])]
section
variable {many : Nat} {ls : List (List Nat)} (k : HeapOk many ls)
include k
theorem HeapOk.heap (an : Anti ls) (h : Hq) : F_is_heap [.p (heapP many ls)] h = some (.p (.bool true), h) := by
  have q : EvN (mLc (sSeq (mB gIx (mVar 0) (mC (.int 1)))) (.nm 4) tYesM (mCall F_bits_of (aCons (mVar 4) aNil)) [4]) [.p (heapP many ls), .und, .und, .und, .und, .und] h (ls.map fun l => .p (.int (mask l : Nat))) := by
    refine lc_tup ls lot (fun l => .p (.int (mask l : Nat))) (by simp [heapP]) k.sz fun l hl g' => ⟨_, rfl, ?_⟩
    simp [wipeE, e_bits l (h ++ g') (k.lots10 l hl)]
  obtain ⟨n, g, e1, e2, hn⟩ := q
  have el : lstOf (h ++ g) (.loc n) = some ((ls.map fun l => PyData.int (mask l : Nat)).map Mv.p) := by
    rw [List.map_map]
    simp only [lstOf, e2]
    rfl
  have src := src_enum (args := aCons (mVar 1) aNil) (e := [.p (heapP many ls), .loc n, .und, .und, .und, .und]) (h := h ++ g) (h1 := h ++ g) (x := .loc n) (by simp) el
  have lp := for_find (t := .tup [2, 3]) (b := sIf (tTru (mGc (mCall gAny (aCons (mGc (mLc (sSeq (mGc (mB gAdd (mSl (mVar 1) oNone (oSome (mVar 2))) (mSl (mVar 1) (oSome (mB gAdd (mVar 2) (mC (.int 1)))) oNone)))) (.nm 5) tYesM (mB gEq (mB gAnd (mVar 3) (mU gInv (mVar 5))) (mC (.int 0))) [5])) aNil)))) (sRet (mC (.bool false))) bNil)
    (fun e => ∃ a b c d, e = [.p (heapP many ls), .loc n, a, b, c, d]) (List.range ls.length) (fun i => mkT [.p (.int (i : Nat)), .p (.int (mask (ls.getD i []) : Nat))]) (fun _ => none) (S := SLst (.loc n) ((ls.map fun l => PyData.int (mask l : Nat)).map Mv.p)) (h1 := h ++ g) (s := sEnumL (aCons (mVar 1) aNil)) (e := [.p (heapP many ls), .loc n, .und, .und, .und, .und]) (h := h ++ g)
    (by
      have : ((ls.map fun l => PyData.int (mask l : Nat)).map Mv.p).mapIdx (fun i d => mkT [.p (.int i), d]) = (List.range ls.length).map fun i => mkT [.p (.int (i : Nat)), .p (.int (mask (ls.getD i []) : Nat))] := by
        apply List.ext_getElem
        · simp
        · intro i h1 h2
          simp at h1
          simp [List.getD_eq_getElem?_getD, List.getElem?_eq_getElem h1]
      rw [← this]
      exact src) el ⟨_, _, _, _, rfl⟩ (by
      rintro i hi _ ⟨a, b, c, d, rfl⟩
      have hi := List.mem_range.mp hi
      have hne : ∀ l ∈ ls.take i ++ ls.drop (i + 1), dif (mask (ls.getD i [])) (mask l) ≠ 0 := fun l hl => by
        have hgi : ls.getD i [] = ls[i] := by rw [List.getD_eq_getElem?_getD, List.getElem?_eq_getElem hi]; rfl
        rw [hgi]
        have hp := List.pairwise_iff_getElem.mp an
        rcases List.mem_append.mp hl with hl | hl
        · obtain ⟨j, hj, rfl⟩ := List.mem_take_iff_getElem.mp hl
          exact (hp j i (by omega) hi (by omega)).2
        · obtain ⟨j, hj, rfl⟩ := List.mem_drop_iff_getElem.mp hl
          exact (hp i (i + 1 + j) hi (by omega) (by omega)).1
      generalize mask (ls.getD i []) = mi at hne ⊢
      refine ⟨[.p (heapP many ls), .loc n, .p (.int (i : Nat)), .p (.int (mi : Nat)), c, d], by simp, ?_⟩
      have hs := sl_cat (e := wipeE [.p (heapP many ls), .loc n, .p (.int (i : Nat)), .p (.int (mi : Nat)), c, d] []) (ls.map fun l => PyData.int (mask l : Nat)) i el (by simpa using hi) (by simpa using k.sz) rfl rfl (fun z => nomatch z)
      simp only [wipeE] at hs
      have q2 : EvN (mLc (sSeq (mGc (mB gAdd (mSl (mVar 1) oNone (oSome (mVar 2))) (mSl (mVar 1) (oSome (mB gAdd (mVar 2) (mC (.int 1)))) oNone)))) (.nm 5) tYesM (mB gEq (mB gAnd (mVar 3) (mU gInv (mVar 5))) (mC (.int 0))) [5]) [.p (heapP many ls), .loc n, .p (.int (i : Nat)), .p (.int (mi : Nat)), c, d] (h ++ g)
          ((ls.take i ++ ls.drop (i + 1)).map fun l => .p (.bool false)) := by
        refine lc_lst (g := [.lst ((((ls.map fun l => PyData.int (mask l : Nat)).take i ++ (ls.map fun l => PyData.int (mask l : Nat)).drop (i + 1))).map Mv.p)]) (ls.take i ++ ls.drop (i + 1)) (fun l => .p (.int (mask l : Nat))) (fun l => .p (.bool false)) hs ?_ (by simp; have := k.sz; omega) fun l hl g' => ⟨_, rfl, ?_⟩
        · rw [lst_last]
          simp only [List.map_append, List.map_take, List.map_drop, List.map_map]
          rfl
        · have hne := hne l hl
          simp only [r_b, r_u, r_var, r_c, wipeE, List.getElem?_set, List.getElem?_cons_zero, List.getElem?_cons_succ]
          simp [i_dif]
          exact hne
      have q3 := q2.gcp.any
      have e0 : ((ls.take i ++ ls.drop (i + 1)).any fun _ => false) = false := by simp
      rw [e0] at q3
      exact ⟨[.p (heapP many ls), .loc n, .p (.int (i : Nat)), .p (.int (mi : Nat)), c, d], ⟨_, _, _, _, rfl⟩, by simp [q3]⟩)
  have f0 : (List.range ls.length).findSome? (fun _ : Nat => (none : Option Pd)) = none := by simp
  rw [f0] at lp
  obtain ⟨e', _, lp⟩ := lp
  refine runF_rg [.p (heapP many ls), .und, .und, .und, .und, .und] g ?_
  unfold b_is_heap
  have c1 : (sIf (tOrM (tNotM (tTru (mIsi (mVar 0) "tuple"))) (tOrM (mBo (mB gNe (mCall gLen (aCons (mVar 0) aNil)) (mC (.int 2)))) (tNotM (tTru (mCall F_is_int (aCons (mB gIx (mVar 0) (mC (.int 0))) (aCons (mC (.int 0)) (aCons (mC (.int 9)) aNil)))))))) (sRet (mC (.bool false))) bNil) [.p (heapP many ls), .und, .und, .und, .und, .und] h = some (.nx, [.p (heapP many ls), .und, .und, .und, .und, .und], h) := by
    simp [heapP, nInt, k.int9 h]
  have c2 : (sIf (tOrM (tNotM (tTru (mCall F_are_lots (aCons (mB gIx (mVar 0) (mC (.int 0))) (aCons (mB gIx (mVar 0) (mC (.int 1))) aNil))))) (mBo (mB gEq (mB gIx (mVar 0) (mC (.int 1))) (mTup aNil)))) (sRet (mC (.bool false))) bNil) [.p (heapP many ls), .und, .und, .und, .und, .und] h = some (.nx, [.p (heapP many ls), .und, .und, .und, .und, .und], h) := by
    simp [heapP, nInt, k.are h, k.eqE h]
  rw [r_seq, c1]
  simp only [Option.bind_some]
  rw [r_seq, c2]
  simp only [Option.bind_some]
  rw [r_seq, r_asg, e1]
  have c3 : asg (.nm 1) (.loc n) [.p (heapP many ls), .und, .und, .und, .und, .und] = some [.p (heapP many ls), .loc n, .und, .und, .und, .und] := rfl
  simp only [Option.bind_some, c3, Option.map_some]
  rw [r_seq, lp]
  simp
theorem HeapOk.look (an : Anti ls) (h : Hq) : F_look_at_heap [.p (heapP many ls)] h = some (.p .none, h) := by
  refine runF_r [.p (heapP many ls)] ?_
  unfold b_look_at_heap
  simp [k.heap an h]
end
end Wk
set_option Elab.async false
set_option linter.all false
set_option maxRecDepth 100000
set_option maxHeartbeats 1000000
set_option autoImplicit false
namespace Wk
open PySem PySem.Spec L2 MX
def fewP (ls : List (List Nat)) : Option Pd := ls.findSome? fun one => ls.findSome? fun other => if one.length < other.length then some (.tuple [lot one, lot other]) else none
theorem stuckP_some {ls : List (List Nat)} {v : Pd} (h : stuckP ls = some v) : ∃ one ∈ ls, ∃ other ∈ ls, ∃ thing, thing ∈ lotOf (dif (mask one) (mask other)) 10 ∧ canGo (pIn ls) (mask one) (mask other) thing = false ∧ v = .tuple [lot one, lot other, nInt thing] := by
  unfold stuckP at h
  obtain ⟨one, h1, h⟩ := List.exists_of_findSome?_eq_some h
  obtain ⟨other, h2, h⟩ := List.exists_of_findSome?_eq_some h
  obtain ⟨thing, h3, h⟩ := List.exists_of_findSome?_eq_some h
  split at h
  · cases h
  · rename_i hc
    cases h
    exact ⟨one, h1, other, h2, thing, h3, by simpa using hc, rfl⟩
theorem fewP_some {ls : List (List Nat)} {v : Pd} (h : fewP ls = some v) : ∃ one ∈ ls, ∃ other ∈ ls, one.length < other.length ∧ v = .tuple [lot one, lot other] := by
  unfold fewP at h
  obtain ⟨one, h1, h⟩ := List.exists_of_findSome?_eq_some h
  obtain ⟨other, h2, h⟩ := List.exists_of_findSome?_eq_some h
  split at h
  · rename_i hc
    cases h
    exact ⟨one, h1, other, h2, hc, rfl⟩
  · cases h
section
variable {many : Nat} {ls : List (List Nat)} (k : HeapOk many ls)
include k
theorem HeapOk.few_loop (h : Hq) : FindEnd (fun e => ∃ a b c d, e = [.p (heapP many ls), a, b, c, d]) h (fewP ls) ((sFor (sSeq (mB gIx (mVar 0) (mC (.int 1)))) (.nm 1) (sFor (sSeq (mB gIx (mVar 0) (mC (.int 1)))) (.nm 3) (sIf (mBo (mB gLtA (mCall gLen (aCons (mVar 1) aNil)) (mCall gLen (aCons (mVar 3) aNil)))) (sRet (mTup (aCons (mVar 1) (aCons (mVar 3) aNil)))) bNil))) [.p (heapP many ls), .und, .und, .und, .und] h) := by
  have src0 : ∀ e : En, e[0]? = some (.p (heapP many ls)) → SrcR (sSeq (mB gIx (mVar 0) (mC (.int 1)))) e h (ls.map fun l => Mv.p (lot l)) h SAny := fun e he => by
    have := src_p (ma := mB gIx (mVar 0) (mC (.int 1))) (e := e) (h := h) (h1 := h) (xs := ls.map lot) (by simp [he, heapP])
    rw [List.map_map] at this
    exact this
  refine for_find _ ls (fun l => .p (lot l)) _ (src0 _ rfl) trivial ⟨_, _, _, _, rfl⟩ ?_
  rintro one h1 _ ⟨a, b, c, d, rfl⟩
  refine ⟨_, rfl, ?_⟩
  have q1 := for_find (s := sSeq (mB gIx (mVar 0) (mC (.int 1)))) (t := .nm 3) (b := (sIf (mBo (mB gLtA (mCall gLen (aCons (mVar 1) aNil)) (mCall gLen (aCons (mVar 3) aNil)))) (sRet (mTup (aCons (mVar 1) (aCons (mVar 3) aNil)))) bNil)) (e := [.p (heapP many ls), .p (lot one), b, c, d]) (fun e => ∃ b c d, e = [.p (heapP many ls), .p (lot one), b, c, d]) ls (fun l => .p (lot l))
    (fun other => if one.length < other.length then some (.tuple [lot one, lot other]) else none) (src0 _ rfl) trivial ⟨_, _, _, rfl⟩ (by
    rintro other h2 _ ⟨b, c, d, rfl⟩
    refine ⟨_, rfl, ?_⟩
    by_cases z : one.length < other.length
    · rw [if_pos z]
      have : decide ((one.length : Int) < (other.length : Int)) = true := by rw [decide_eq_true_iff]; omega
      exact ⟨[.p (heapP many ls), .p (lot one), b, .p (lot other), d], by simp [this, z]⟩
    · rw [if_neg z]
      have : decide ((one.length : Int) < (other.length : Int)) = false := by rw [decide_eq_false_iff_not]; omega
      exact ⟨[.p (heapP many ls), .p (lot one), b, .p (lot other), d], ⟨_, _, _, rfl⟩, by simp [this, z]⟩)
  show FindEnd _ h _ (sFor _ _ _ [.p (heapP many ls), .p (lot one), b, c, d] h)
  revert q1
  cases ls.findSome? fun other => if one.length < other.length then some (PyData.tuple [lot one, lot other]) else none with
  | none => rintro ⟨e, ⟨b, c, d, rfl⟩, q⟩; exact ⟨_, ⟨_, _, _, _, rfl⟩, q⟩
  | some v => rintro ⟨e, q⟩; exact ⟨e, q⟩
theorem HeapOk.few_and_many (h : Hq) : ∃ x, F_few_and_many [.p (heapP many ls)] h = some (.p x, h) ∧ ((fewP ls = none ∧ stuckP ls = none ∧ x = .none) ∨ (¬ (fewP ls = none ∧ stuckP ls = none) ∧ ∃ a b, x = .tuple [lot a, lot b] ∧ Lot many a ∧ Lot many b)) := by
  have lp := k.few_loop h
  cases hf : fewP ls with
  | some v =>
    rw [hf] at lp
    obtain ⟨e, q⟩ := lp
    obtain ⟨one, h1, other, h2, _, rfl⟩ := fewP_some hf
    refine ⟨.tuple [lot one, lot other], ?_, .inr ⟨fun z => (nomatch z.1), one, other, rfl, k.lots one h1, k.lots other h2⟩⟩
    refine runF_r [.p (heapP many ls), .und, .und, .und, .und] ?_
    unfold b_few_and_many
    rw [r_seq, q]
    rfl
  | none =>
    rw [hf] at lp
    obtain ⟨e, ⟨a, b, c, d, rfl⟩, q⟩ := lp
    cases hs : stuckP ls with
    | none =>
      refine ⟨.none, ?_, .inl ⟨rfl, rfl, rfl⟩⟩
      refine runF_r [.p (heapP many ls), .und, .und, .und, .und] ?_
      unfold b_few_and_many
      rw [r_seq, q]
      have := k.stuck h
      rw [hs] at this
      simp [heapP, nInt] at this ⊢
      simp [this, gIsN]
    | some v =>
      obtain ⟨one, h1, other, h2, thing, h3, _, rfl⟩ := stuckP_some hs
      have h10 := (lotOf_lot _ _).2 thing h3
      refine ⟨.tuple [lot (one.filter fun x => decide (x ≠ thing)), lot other], ?_, .inr ⟨fun z => (nomatch z.2), _, other, rfl, ⟨(k.lots one h1).1.filter _, fun x hx => (k.lots one h1).2 x (List.mem_filter.mp hx).1⟩, k.lots other h2⟩⟩
      refine runF_r [.p (heapP many ls), .und, .und, .und, .und] ?_
      unfold b_few_and_many
      rw [r_seq, q]
      have st := k.stuck h
      rw [hs] at st
      have q2 : EvN (mLc (sSeq (mB gIx (mVar 2) (mC (.int 0)))) (.nm 4) (mBo (mB gNe (mVar 4) (mB gIx (mVar 2) (mC (.int 2))))) (mVar 4) [4]) [.p (heapP many ls), a, .p (.tuple [lot one, lot other, nInt thing]), c, d] h ((one.filter fun x => decide (x ≠ thing)).map fun x => .p (nInt x)) := by
        refine lc_tupF one nInt (fun x => .p (nInt x)) _ (by simp) (k.len h1) fun x hx g' => ⟨_, rfl, ?_, fun _ => by simp [wipeE]⟩
        simp [wipeE, nInt]
        omega
      have q3 := q2.tup
      have c1 : (sAsg (mCall F_told_stuck (aCons (mB gIx (mVar 0) (mC (.int 1))) aNil)) (.nm 2)) [.p (heapP many ls), a, b, c, d] h = some (.nx, [.p (heapP many ls), a, .p (.tuple [lot one, lot other, nInt thing]), c, d], h) := by
        simp [heapP, nInt] at st ⊢
        simp [st]
      simp only [Option.bind_some]
      rw [r_seq, c1]
      simp only [Option.bind_some]
      have c2 : (sIf (mBo (mB gIsN (mVar 2) (mC .none))) (sRet (mC .none)) bNil) [.p (heapP many ls), a, .p (.tuple [lot one, lot other, nInt thing]), c, d] h = some (.nx, [.p (heapP many ls), a, .p (.tuple [lot one, lot other, nInt thing]), c, d], h) := by
        simp
      rw [r_seq, c2]
      simp only [Option.bind_some]
      rw [retOf_sRet]
      simp [q3]
end
end Wk
set_option Elab.async false
set_option linter.all false
set_option maxRecDepth 100000
set_option maxHeartbeats 1000000
set_option autoImplicit false
namespace Wk
open PySem PySem.Spec L2 MX
theorem in_lot (x : Nat) (l : List Nat) (h : Hq) : gIn false (.p (.int (x : Int))) (.p (lot l)) h = some (.p (.bool (decide (x ∈ l))), h) := by
  have hp : plns 59 (l.map nInt) = true := by
    have : ∀ l : List Nat, plns 59 (l.map nInt) = true := by
      intro l
      induction l with
      | nil => rfl
      | cons x l ih => simp [plns, pln, ih]
    exact this l
  rw [in_pln rfl hp (decide (x ∈ l)) (by
    rw [decide_eq_true_iff]
    constructor
    · exact fun h => List.mem_map.mpr ⟨x, h, rfl⟩
    · intro h
      obtain ⟨y, hy, e⟩ := List.mem_map.mp h
      have : y = x := by
        have := PyData.int.inj e
        omega
      exact this ▸ hy) false h]
  rfl
def wAt (l top : List Nat) (thing : Nat) : Int := if thing ∈ l then (l.length : Int) + 2 else if thing ∈ top then (l.length : Int) + 1 else 0
theorem w_step (A B : Mv) (l top : List Nat) (thing : Nat) (acc : List Mv) (h : Hq) (hz : acc.length < sizeLine) : (sExp (mMet gAppend (mVar 4) (aCons (mIf (mBo (mB (gIn false) (mVar 5) (mVar 2))) (mB gAdd (mCall gLen (aCons (mVar 2) aNil)) (mC (.int 2))) (mIf (mBo (mB (gIn false) (mVar 5) (mVar 3))) (mB gAdd (mCall gLen (aCons (mVar 2) aNil)) (mC (.int 1))) (mC (.int 0)))) aNil)))
        [A, B, .p (lot l), .p (lot top), .loc h.length, .p (.int (thing : Nat))] (h ++ [.lst acc]) = some (.nx, [A, B, .p (lot l), .p (lot top), .loc h.length, .p (.int (thing : Nat))], h ++ [.lst (acc ++ [.p (.int (wAt l top thing))])]) := by
  have i1 := in_lot thing l (h ++ [.lst acc])
  have i2 := in_lot thing top (h ++ [.lst acc])
  unfold wAt
  by_cases z : thing ∈ l
  · simp [i1, z, hz]
  · by_cases z2 : thing ∈ top
    · simp [i1, z, i2, z2, hz]
    · simp [i1, z, i2, z2, hz]

theorem w_loop (many : Nat) (ls : List (List Nat)) (hfew : many ≤ 9) (l top : List Nat) (h : Hq) : ∃ (z : Mv) (vs : List Int), sFor (sRng1 (aCons (mB gIx (mVar 0) (mC (.int 0))) aNil)) (.nm 5) (sExp (mMet gAppend (mVar 4) (aCons (mIf (mBo (mB (gIn false) (mVar 5) (mVar 2))) (mB gAdd (mCall gLen (aCons (mVar 2) aNil)) (mC (.int 2))) (mIf (mBo (mB (gIn false) (mVar 5) (mVar 3))) (mB gAdd (mCall gLen (aCons (mVar 2) aNil)) (mC (.int 1))) (mC (.int 0)))) aNil)))
    [.p (heapP many ls), .p (.tuple [lot l, lot top]), .p (lot l), .p (lot top), .loc h.length, .und] (h ++ [.lst []]) = some (.nx, [.p (heapP many ls), .p (.tuple [lot l, lot top]), .p (lot l), .p (lot top), .loc h.length, z], h ++ [.lst (vs.map Mv.int)]) := by
  have src : SrcR (sRng1 (aCons (mB gIx (mVar 0) (mC (.int 0))) aNil)) [.p (heapP many ls), .p (.tuple [lot l, lot top]), .p (lot l), .p (lot top), .loc h.length, .und] (h ++ [.lst []]) ((List.range many).map fun i => Mv.int (i : Nat)) (h ++ [.lst []]) SAny := by
    have := src_rng1 (args := aCons (mB gIx (mVar 0) (mC (.int 0))) aNil) (e := [.p (heapP many ls), .p (.tuple [lot l, lot top]), .p (lot l), .p (lot top), .loc h.length, .und]) (h := h ++ [.lst []]) (h1 := h ++ [.lst []]) (j := (many : Int)) (by simp [heapP]) (by unfold bnd; rw [decide_eq_true_iff]; omega)
    rw [Int.toNat_natCast] at this
    exact this
  obtain ⟨e', h', q1, z, vs, rfl, rfl, _⟩ := for_inv (t := .nm 5) (b := (sExp (mMet gAppend (mVar 4) (aCons (mIf (mBo (mB (gIn false) (mVar 5) (mVar 2))) (mB gAdd (mCall gLen (aCons (mVar 2) aNil)) (mC (.int 2))) (mIf (mBo (mB (gIn false) (mVar 5) (mVar 3))) (mB gAdd (mCall gLen (aCons (mVar 2) aNil)) (mC (.int 1))) (mC (.int 0)))) aNil))))
      (fun i e hh => ∃ z, ∃ vs : List Int, e = [.p (heapP many ls), .p (.tuple [lot l, lot top]), .p (lot l), .p (lot top), .loc h.length, z] ∧ hh = h ++ [.lst (vs.map Mv.int)] ∧ vs.length = i) (List.range many) (fun i => Mv.int (i : Nat)) src (fun _ _ _ _ => trivial) ⟨_, [], rfl, rfl, rfl⟩ (by
      rintro i hi _ _ ⟨z, vs, rfl, rfl, hv⟩
      have hi' : i < many := by simpa using hi
      have e := w_step (.p (heapP many ls)) (.p (.tuple [lot l, lot top])) l top i (vs.map Mv.int) h (by rw [List.length_map, hv, sizeLine_eq]; omega)
      have hg : (List.range many)[i] = i := by simp
      rw [hg]
      exact ⟨_, _, _, rfl, e, .p (.int (i : Nat)), vs ++ [wAt l top i], rfl, by simp, by simp [hv]⟩)
  exact ⟨z, vs, q1⟩
theorem tuple_lst {h : Hq} {d : Mv} {xs : List Pd} (e2 : lstOf h d = some (xs.map Mv.p)) : gTuple [d] h = some (.p (.tuple xs), h) := by
  unfold gTuple
  split
  · rename_i ys h0
    have h0 := (List.cons.inj h0).1
    subst h0
    cases e2
  · rename_i d' _ h0
    have h0 := (List.cons.inj h0).1
    subst h0
    rw [e2]
    simp
  · rename_i h1 h2
    exact absurd rfl (h2 d)
section
variable {many : Nat} {ls : List (List Nat)} (k : HeapOk many ls)
include k
theorem HeapOk.always (an : Anti ls) (h : Hq) : ∃ xs, F_always_best [.p (heapP many ls)] h = some (.p (.tuple xs), h) ∧ ((fewP ls = none ∧ stuckP ls = none ∧ xs = [.str "choice"]) ∨ (¬ (fewP ls = none ∧ stuckP ls = none) ∧ ∃ (vs : List Int) (top : List Nat), xs = [.str "weights", .tuple (vs.map .int), lot top])) := by
  have hk := k.look an h
  obtain ⟨x, hx, hc⟩ := k.few_and_many h
  rcases hc with ⟨c1, c2, rfl⟩ | ⟨c1, l, top, rfl, hl, ht⟩
  · refine ⟨[.str "choice"], ?_, .inl ⟨c1, c2, rfl⟩⟩
    refine runF_r [.p (heapP many ls), .und, .und, .und, .und, .und] ?_
    unfold b_always_best
    simp [hk, hx]
  · obtain ⟨z, vs, q1⟩ := w_loop many ls k.few l top h
    refine ⟨[.str "weights", .tuple (vs.map .int), lot top], ?_, .inr ⟨c1, vs, top, rfl⟩⟩
    refine runF_rg [.p (heapP many ls), .und, .und, .und, .und, .und] [.lst (vs.map Mv.int)] ?_
    unfold b_always_best
    have s1 : sExp (mCall F_look_at_heap (aCons (mVar 0) aNil)) [.p (heapP many ls), .und, .und, .und, .und, .und] h = some (.nx, [.p (heapP many ls), .und, .und, .und, .und, .und], h) := by simp [hk]
    have s2 : sAsg (mCall F_few_and_many (aCons (mVar 0) aNil)) (.nm 1) [.p (heapP many ls), .und, .und, .und, .und, .und] h = some (.nx, [.p (heapP many ls), .p (.tuple [lot l, lot top]), .und, .und, .und, .und], h) := by simp [hx]
    have s3 : sIf (mBo (mB gIsN (mVar 1) (mC .none))) (sRet (mTup (aCons (mC (.str "choice")) aNil))) bNil [.p (heapP many ls), .p (.tuple [lot l, lot top]), .und, .und, .und, .und] h = some (.nx, [.p (heapP many ls), .p (.tuple [lot l, lot top]), .und, .und, .und, .und], h) := by simp
    have s4 : sAsg (mVar 1) (.tup [2, 3]) [.p (heapP many ls), .p (.tuple [lot l, lot top]), .und, .und, .und, .und] h = some (.nx, [.p (heapP many ls), .p (.tuple [lot l, lot top]), .p (lot l), .p (lot top), .und, .und], h) := by simp
    have s5 : sAsg (mLst aNil) (.nm 4) [.p (heapP many ls), .p (.tuple [lot l, lot top]), .p (lot l), .p (lot top), .und, .und] h = some (.nx, [.p (heapP many ls), .p (.tuple [lot l, lot top]), .p (lot l), .p (lot top), .loc h.length, .und], h ++ [.lst []]) := by simp
    rw [bSeq_nx s1, bSeq_nx s2, bSeq_nx s3, bSeq_nx s4, bSeq_nx s5, bSeq_nx q1]
    rw [retOf_sRet]
    have e9 : vs.map Mv.int = (vs.map PyData.int).map Mv.p := by rw [List.map_map]; rfl
    have t1 : gTuple [.loc h.length] (h ++ [.lst (vs.map Mv.int)]) = some (.p (.tuple (vs.map .int)), h ++ [.lst (vs.map Mv.int)]) := tuple_lst (by rw [lst_last, e9])
    simp [t1]
end
end Wk
set_option Elab.async false
set_option linter.all false
set_option maxRecDepth 100000
set_option maxHeartbeats 1000000
set_option autoImplicit false
namespace Wk
open PySem PySem.Spec L2 MX
section
variable {many : Nat} {ls : List (List Nat)} (k : HeapOk many ls)
include k
theorem HeapOk.wsz {ws : List Nat} (hw : WOk many ws) : ws.length ≤ sizeLine := by
  have := hw.1
  have := k.few
  rw [sizeLine_eq]; omega
theorem HeapOk.bestF (an : Anti ls) {ws : List Nat} (hw : WOk many ws) (h : Hq) : ∃ top ∈ ls, (∀ l ∈ ls, weigh ws l ≤ weigh ws top) ∧ F_best [.p (heapP many ls), .p (lot ws)] h = some (.p (.tuple [.int (weigh ws top : Nat), lot top]), h) := by
  obtain ⟨top, h1, h2, h3⟩ := k.best ws hw.1 h
  refine ⟨top, h1, h2, ?_⟩
  refine runF_r [.p (heapP many ls), .p (lot ws)] ?_
  unfold b_best
  have s1 : sExp (mCall F_look_at_heap (aCons (mVar 0) aNil)) [.p (heapP many ls), .p (lot ws)] h = some (.nx, [.p (heapP many ls), .p (lot ws)], h) := by simp [k.look an h]
  have s2 : sExp (mCall F_look_at_weights (aCons (mB gIx (mVar 0) (mC (.int 0))) (aCons (mVar 1) aNil))) [.p (heapP many ls), .p (lot ws)] h = some (.nx, [.p (heapP many ls), .p (lot ws)], h) := by
    have := e_look_weights many ws hw h (k.wsz hw)
    simp [heapP, this]
  rw [bSeq_nx s1, bSeq_nx s2, retOf_sRet]
  simp [h3]
theorem HeapOk.allowed (l : List Nat) (hl : Lot many l) (hin : ∃ top ∈ ls, dif (mask l) (mask top) = 0) (h : Hq) : F_is_allowed [.p (heapP many ls), .p (lot l)] h = some (.p (.bool true), h) := by
  have l10 : Lot 10 l := hl.mono (by have := k.few; omega)
  have hz : l.length ≤ sizeLine := by have := l10.len; rw [sizeLine_eq]; omega
  have q : EvN (mLc (sSeq (mB gIx (mVar 0) (mC (.int 1)))) (.nm 2) tYesM (mB gEq (mB gAnd (mCall F_bits_of (aCons (mVar 1) aNil)) (mU gInv (mCall F_bits_of (aCons (mVar 2) aNil)))) (mC (.int 0))) [2]) [.p (heapP many ls), .p (lot l), .und] h (ls.map fun top => .p (.bool (decide (dif (mask l) (mask top) = 0)))) := by
    refine lc_tup ls lot (fun top => .p (.bool (decide (dif (mask l) (mask top) = 0)))) (by simp [heapP]) k.sz fun top ht g' => ⟨_, rfl, ?_⟩
    have a1 := e_bits l (h ++ g') l10
    have a2 := e_bits top (h ++ g') (k.lots10 top ht)
    simp [wipeE] at a1 a2 ⊢
    simp [a1, a2, i_dif]
  have q2 := q.any
  have e0 : (ls.any fun top => decide (dif (mask l) (mask top) = 0)) = true := by
    obtain ⟨top, h1, h2⟩ := hin
    exact List.any_eq_true.mpr ⟨top, h1, decide_eq_true h2⟩
  rw [e0] at q2
  have il := e_is_lot many l h hz
  rw [isLot_of hl] at il
  refine runF_r [.p (heapP many ls), .p (lot l), .und] ?_
  unfold b_is_allowed
  have s1 : sIf (tNotM (tTru (mCall F_is_lot (aCons (mB gIx (mVar 0) (mC (.int 0))) (aCons (mVar 1) aNil))))) (sRet (mC (.bool false))) bNil [.p (heapP many ls), .p (lot l), .und] h = some (.nx, [.p (heapP many ls), .p (lot l), .und], h) := by
    simp [heapP, nInt] at il ⊢
    simp [il]
  rw [bSeq_nx s1, retOf_sRet]
  exact q2
end
end Wk
set_option Elab.async false
set_option linter.all false
set_option maxRecDepth 100000
set_option maxHeartbeats 1000000
set_option autoImplicit false
namespace Wk
open PySem PySem.Spec L2 MX
open PySem.W (dataLe)
/-! ### told_next: things by falling weights -/
theorem rgL_nat (m : Nat) : rgL 0 (m : Int) = (List.range m).map fun i : Nat => (i : Int) := by
  unfold rgL
  have : ((m : Int) - 0).toNat = m := by omega
  rw [this]
  refine List.map_congr_left fun i _ => ?_
  omega
def keyW (ws : List Nat) (i : Nat) : Pd := .tuple [.int (-((ws.getD i 0 : Nat) : Int)), .int (i : Int)]
theorem keys_ev (A : Mv) (ws : List Nat) (h : Hq) (e : En) (he : e[1]? = some (.p (lot ws))) : ∀ (l : List Nat), (∀ i ∈ l, i < ws.length) →
    keysOf (mTup (aCons (mU gNeg (mB gIx (mVar 1) (mVar 0))) (aCons (mVar 0) aNil))) e [1] 0 h (l.map fun i : Nat => (i : Int)) = some (l.map (keyW ws))
  | [], _ => rfl
  | i :: l, hl => by
    have ih := keys_ev A ws h e he l fun j hj => hl j (List.mem_cons_of_mem _ hj)
    have hi := ixN_lot (hl i List.mem_cons_self) h
    have e1 : lamE e [1] 0 (i : Int) = [.p (.int (i : Int)), .p (lot ws)] := by
      simp [lamE, List.getD_eq_getElem?_getD, he]
    have e2 : (mTup (aCons (mU gNeg (mB gIx (mVar 1) (mVar 0))) (aCons (mVar 0) aNil))) [.p (.int (i : Int)), .p (lot ws)] h = some (.p (keyW ws i), h) := by
      simp at hi ⊢
      simp [hi, keyW]
    rw [List.map_cons, keysOf, e1, e2]
    simp only [if_true]
    rw [ih]
    rfl
theorem ord_ev (ws : List Nat) (many : Nat) : ∃ ord : List Nat, ord.Perm (List.range many) ∧ ord.Pairwise (fun a b => ws.getD b 0 ≤ ws.getD a 0) ∧
    (((rgL 0 (many : Int)).zip ((List.range many).map (keyW ws))).mergeSort (dataLe false (·.2))).map (fun q => Mv.int q.1) = ord.map fun i : Nat => Mv.int (i : Int) := by
  let f : Nat → Int × Pd := fun i => ((i : Int), keyW ws i)
  have e1 : (rgL 0 (many : Int)).zip ((List.range many).map (keyW ws)) = (List.range many).map f := by
    rw [rgL_nat, List.zip_map']
  have hle : dataLe false (keyW ws) = fun a b => decide (-((ws.getD a 0 : Nat) : Int) < -((ws.getD b 0 : Nat) : Int) ∨ (-((ws.getD a 0 : Nat) : Int) = -((ws.getD b 0 : Nat) : Int) ∧ (a : Int) ≤ (b : Int))) :=
    PySem.W.dataLe_ii (fun i : Nat => -((ws.getD i 0 : Nat) : Int)) (fun i : Nat => (i : Int))
  have e2 := List.map_mergeSort (r := dataLe false (keyW ws)) (s := dataLe false fun q : Int × Pd => q.2) (f := f) (l := List.range many) fun a _ b _ => rfl
  refine ⟨(List.range many).mergeSort (dataLe false (keyW ws)), List.mergeSort_perm _ _, ?_, ?_⟩
  · have := List.pairwise_mergeSort (le := dataLe false (keyW ws)) (fun a b c h1 h2 => by
      rw [hle] at h1 h2 ⊢
      simp only [decide_eq_true_iff] at h1 h2 ⊢
      omega) (fun a b => by
      rw [hle]
      simp only [Bool.or_eq_true, decide_eq_true_iff]
      omega) (List.range many)
    refine this.imp fun {a b} h => ?_
    rw [hle] at h
    simp only [decide_eq_true_iff] at h
    omega
  · rw [e1, ← e2, List.map_map]
    rfl
theorem plnK (ws : List Nat) (many : Nat) : alikeB ((List.range many).map (keyW ws)) = true ∧ ((List.range many).map (keyW ws)).all tup1 = true ∧ PyData.depthAll ((List.range many).map (keyW ws)) ≤ 60 := by
  refine ⟨?_, ?_, ?_⟩
  · unfold alikeB
    rw [List.all_eq_true]
    intro x hx
    obtain ⟨i, _, rfl⟩ := List.mem_map.mp hx
    rw [Bool.and_eq_true]
    refine ⟨rfl, List.all_eq_true.mpr fun y hy => ?_⟩
    obtain ⟨j, _, rfl⟩ := List.mem_map.mp hy
    simp [keyW, PySem.W.alike, PySem.W.alikeAll]
  · rw [List.all_eq_true]
    intro x hx
    obtain ⟨i, _, rfl⟩ := List.mem_map.mp hx
    rfl
  · have : ∀ l : List Nat, PyData.depthAll (l.map (keyW ws)) ≤ 1 := by
      intro l
      induction l with
      | nil => simp [PyData.depthAll]
      | cons i l ih =>
        rw [List.map_cons, PyData.depthAll]
        have : (keyW ws i).depth = 1 := by simp [keyW, PyData.depth, PyData.depthAll]
        omega
    have := this (List.range many)
    omega
theorem mSortKey_ev {a b : ME} {js : List Nat} {n : Nat} {e : En} {h h1 : Hq} {m : Int} {ks : List Pd} (ha : a e h = some (.p (.int m), h1)) (hr : rgB 0 m = true) (hk : keysOf b e js n h1 (rgL 0 m) = some ks) (hc : alikeB ks = true ∧ ks.all tup1 = true ∧ PyData.depthAll ks ≤ 60) :
    mSortKey a b js n e h = some (.loc h1.length, h1 ++ [.lst ((((rgL 0 m).zip ks).mergeSort (dataLe false (·.2))).map fun q => Mv.int q.1)]) := by
  unfold mSortKey
  rw [ha, Option.bind_some]
  dsimp only
  rw [if_pos hr, hk, Option.bind_some, if_pos hc]
theorem sortkey_ev (ws : List Nat) (many : Nat) (hw : ws.length = many) (hm : many ≤ 9) (a : ME) (e : En) (h : Hq) (ha : a e h = some (.p (.int (many : Int)), h)) (he : e[1]? = some (.p (lot ws))) :
    ∃ ord : List Nat, ord.Perm (List.range many) ∧ ord.Pairwise (fun a b => ws.getD b 0 ≤ ws.getD a 0) ∧
      mSortKey a (mTup (aCons (mU gNeg (mB gIx (mVar 1) (mVar 0))) (aCons (mVar 0) aNil))) [1] 0 e h = some (.loc h.length, h ++ [.lst (ord.map fun i : Nat => Mv.int (i : Int))]) := by
  obtain ⟨ord, h1, h2, h3⟩ := ord_ev ws many
  refine ⟨ord, h1, h2, ?_⟩
  have hk := keys_ev .und ws h e he (List.range many) fun i hi => by rw [hw]; exact List.mem_range.mp hi
  rw [← rgL_nat] at hk
  have hr : rgB 0 (many : Int) = true := by
    unfold rgB
    rw [decide_eq_true_iff]
    omega
  rw [mSortKey_ev ha hr hk (plnK ws many), h3]
end Wk
set_option Elab.async false
set_option linter.all false
set_option maxRecDepth 100000
set_option maxHeartbeats 1000000
set_option autoImplicit false
namespace Wk
open PySem PySem.Spec L2 MX
/-- is a mask within a top -/
def within (ls : List (List Nat)) (f : Nat) : Bool := ls.any fun t => decide (dif f (mask t) = 0)
def grow (ls : List (List Nat)) (f x : Nat) : Nat := if within ls (f ||| 2 ^ x) = true then f ||| 2 ^ x else f
def greedy (ls : List (List Nat)) (ord : List Nat) : Nat := ord.foldl (grow ls) 0
theorem grow_lt {ls : List (List Nat)} {f x m : Nat} (hf : f < 2 ^ m) (hx : x < m) : grow ls f x < 2 ^ m := by
  unfold grow
  split
  · exact Nat.or_lt_two_pow hf (Nat.pow_lt_pow_right (by decide) hx)
  · exact hf
theorem fold_lt {ls : List (List Nat)} {m : Nat} : ∀ (ord : List Nat) (f : Nat), f < 2 ^ m → (∀ x ∈ ord, x < m) → ord.foldl (grow ls) f < 2 ^ m
  | [], f, hf, _ => hf
  | x :: r, f, hf, hx => fold_lt r (grow ls f x) (grow_lt hf (hx x List.mem_cons_self)) fun y hy => hx y (List.mem_cons_of_mem _ hy)
theorem grow_step (ls : List (List Nat)) (A B z z2 : Mv) (n f x : Nat) (hh : Hq) (ht : lstOf hh (.loc n) = some (ls.map fun l => .p (.int (mask l : Nat)))) (hz : ls.length ≤ sizeLine) (hx : x < 10) :
    ∃ w, (bSeq (sAsg (mB gOr (mVar 3) (mB gShl (mC (.int 1)) (mVar 4))) (.nm 5)) (sIf (tTru (mGc (mCall gAny (aCons (mLc (sSeq (mVar 2)) (.nm 6) tYesM (mB gEq (mB gAnd (mVar 5) (mU gInv (mVar 6))) (mC (.int 0))) [6]) aNil)))) (sAsg (mVar 5) (.nm 3)) bNil))
      [A, B, .loc n, .p (.int (f : Int)), .p (.int (x : Int)), z, z2] hh = some (.nx, [A, B, .loc n, .p (.int ((grow ls f x : Nat) : Int)), .p (.int (x : Int)), w, z2], hh) := by
  have s1 := shl1 x (by omega) hh
  have e1 : (sAsg (mB gOr (mVar 3) (mB gShl (mC (.int 1)) (mVar 4))) (.nm 5)) [A, B, .loc n, .p (.int (f : Int)), .p (.int (x : Int)), z, z2] hh = some (.nx, [A, B, .loc n, .p (.int (f : Int)), .p (.int (x : Int)), .p (.int ((f ||| 2 ^ x : Nat) : Int)), z2], hh) := by
    simp only [r_asg, r_b, r_var, r_c, List.getElem?_cons_zero, List.getElem?_cons_succ, Option.bind_some, s1]
    simp [i_or_p]
  have q : EvN (mLc (sSeq (mVar 2)) (.nm 6) tYesM (mB gEq (mB gAnd (mVar 5) (mU gInv (mVar 6))) (mC (.int 0))) [6]) [A, B, .loc n, .p (.int (f : Int)), .p (.int (x : Int)), .p (.int ((f ||| 2 ^ x : Nat) : Int)), z2] hh (ls.map fun l => .p (.bool (decide (dif (f ||| 2 ^ x) (mask l) = 0)))) := by
    refine lc_lst (g := []) (d := .loc n) ls (fun l => .p (.int (mask l : Nat))) (fun l => .p (.bool (decide (dif (f ||| 2 ^ x) (mask l) = 0)))) (by simp) (by rw [List.append_nil]; exact ht) hz fun l hl g' => ⟨_, rfl, ?_⟩
    simp only [r_b, r_u, r_var, r_c, wipeE, List.set_cons_succ, List.set_cons_zero, List.getElem?_cons_zero, List.getElem?_cons_succ, Option.bind_some, r_gU, r_gI, if_true, i_dif, eq_int]
    congr 4
    rw [Bool.eq_iff_iff, decide_eq_true_iff, decide_eq_true_iff]
    omega
  have q2 := q.any
  refine ⟨.p (.int ((f ||| 2 ^ x : Nat) : Int)), ?_⟩
  rw [bSeq_nx e1]
  unfold grow within
  generalize (ls.any fun t => decide (dif (f ||| 2 ^ x) (mask t) = 0)) = b at q2 ⊢
  cases b <;> simp [q2]
end Wk
set_option Elab.async false
set_option linter.all false
set_option maxRecDepth 100000
set_option maxHeartbeats 1000000
set_option autoImplicit false
namespace Wk
open PySem PySem.Spec L2 MX
section
variable {many : Nat} {ls : List (List Nat)} (k : HeapOk many ls)
include k
theorem HeapOk.tops (A B : Mv) (h : Hq) : ∃ n g, (sPar (aCons (mLc (sSeq (mB gIx (mVar 0) (mC (.int 1)))) (.nm 6) tYesM (mCall F_bits_of (aCons (mVar 6) aNil)) [6]) (aCons (mC (.int 0)) aNil)) [2, 3]) [.p (heapP many ls), B, .und, .und, .und, .und, .und] h
    = some (.nx, [.p (heapP many ls), B, .loc n, .p (.int ((0 : Nat) : Int)), .und, .und, .und], h ++ g) ∧ (h ++ g)[n]? = some (.lst (ls.map fun l => .p (.int (mask l : Nat)))) := by
  have q : EvN (mLc (sSeq (mB gIx (mVar 0) (mC (.int 1)))) (.nm 6) tYesM (mCall F_bits_of (aCons (mVar 6) aNil)) [6]) [.p (heapP many ls), B, .und, .und, .und, .und, .und] h (ls.map fun l => .p (.int (mask l : Nat))) := by
    refine lc_tup ls lot (fun l => .p (.int (mask l : Nat))) (by simp [heapP]) k.sz fun top ht g' => ⟨_, rfl, ?_⟩
    have a2 := e_bits top (h ++ g') (k.lots10 top ht)
    simp [wipeE] at a2 ⊢
    simp [a2]
  obtain ⟨n, g, e1, e2, _⟩ := q
  refine ⟨n, g, ?_, e2⟩
  simp [sPar, e1]
theorem HeapOk.told_next (ws : List Nat) (hw : ws.length = many) (h : Hq) : ∃ ord : List Nat, ord.Perm (List.range many) ∧ ord.Pairwise (fun a b => ws.getD b 0 ≤ ws.getD a 0) ∧
    F_told_next [.p (heapP many ls), .p (lot ws)] h = some (.p (lot (lotOf (greedy ls ord) 10)), h) := by
  obtain ⟨n, g, s1, e2⟩ := k.tops .und (.p (lot ws)) h
  have hm := k.few
  have s2 := sortkey_ev ws many hw hm (mB gIx (mVar 0) (mC (.int 0))) [.p (heapP many ls), .p (lot ws), .loc n, .p (.int ((0 : Nat) : Int)), .und, .und, .und] (h ++ g) (by simp [heapP, nInt]) rfl
  obtain ⟨ord, o1, o2, s2⟩ := s2
  refine ⟨ord, o1, o2, ?_⟩
  have hmem : ∀ x ∈ ord, x < 10 := fun x hx => by
    have := List.mem_range.mp (o1.mem_iff.mp hx)
    omega
  have hlst : lstOf (h ++ g ++ [.lst (ord.map fun i : Nat => Mv.int (i : Int))]) (.loc n) = some (ls.map fun l => .p (.int (mask l : Nat))) := by
    have hn : n < (h ++ g).length := by
      by_cases hn : n < (h ++ g).length
      · exact hn
      · rw [List.getElem?_eq_none (by omega)] at e2; cases e2
    have e3 : (h ++ g ++ [.lst (ord.map fun i : Nat => Mv.int (i : Int))])[n]? = some (.lst (ls.map fun l => .p (.int (mask l : Nat)))) := by
      rw [List.getElem?_append_left hn, e2]
    simp only [lstOf, e3]
  have hs := src_lst s2 (lst_last _ _)
  have F := for_inv (t := .nm 4) (b := bSeq (sAsg (mB gOr (mVar 3) (mB gShl (mC (.int 1)) (mVar 4))) (.nm 5)) (sIf (tTru (mGc (mCall gAny (aCons (mLc (sSeq (mVar 2)) (.nm 6) tYesM (mB gEq (mB gAnd (mVar 5) (mU gInv (mVar 6))) (mC (.int 0))) [6]) aNil)))) (sAsg (mVar 5) (.nm 3)) bNil))
    (fun i e h' => h' = h ++ g ++ [.lst (ord.map fun i : Nat => Mv.int (i : Int))] ∧ ∃ z z2 z3, e = [.p (heapP many ls), .p (lot ws), .loc n, .p (.int (((ord.take i).foldl (grow ls) 0 : Nat) : Int)), z, z2, z3])
    ord (fun i : Nat => Mv.int (i : Int)) hs (fun i e h' p => by
      rw [p.1]
      exact lst_last _ _) ⟨rfl, .und, .und, .und, rfl⟩ (fun i hi e h' p => by
      obtain ⟨rfl, z, z2, z3, rfl⟩ := p
      have hx := hmem _ (List.getElem_mem hi)
      obtain ⟨w, st⟩ := grow_step ls (.p (heapP many ls)) (.p (lot ws)) z2 z3 n ((ord.take i).foldl (grow ls) 0) ord[i] _ hlst k.sz hx
      refine ⟨[.p (heapP many ls), .p (lot ws), .loc n, .p (.int (((ord.take i).foldl (grow ls) 0 : Nat) : Int)), .p (.int (ord[i] : Int)), z2, z3], _, _, rfl, st, rfl, .p (.int (ord[i] : Int)), w, z3, ?_⟩
      rw [List.take_add_one, List.getElem?_eq_getElem hi, Option.toList_some, List.foldl_append]
      rfl)
  obtain ⟨e', h', s3, rfl, z, z2, z3, rfl⟩ := F
  rw [List.take_length] at s3
  refine runF_rg [.p (heapP many ls), .p (lot ws), .und, .und, .und, .und, .und] (g ++ [.lst (ord.map fun i : Nat => Mv.int (i : Int))]) ?_
  unfold b_told_next
  rw [bSeq_nx s1, bSeq_nx s3, retOf_sRet]
  have hlt : greedy ls ord < 2 ^ 10 := fold_lt ord 0 (by decide) hmem
  have := e_lot_of (greedy ls ord) 10 (h ++ g ++ [.lst (ord.map fun i : Nat => Mv.int (i : Int))]) hlt (by decide)
  rw [← List.append_assoc]
  simpa [greedy] using this
theorem HeapOk.next_best (an : Anti ls) {ws : List Nat} (hw : WOk many ws) (h : Hq) : ∃ ord : List Nat, ord.Perm (List.range many) ∧ ord.Pairwise (fun a b => ws.getD b 0 ≤ ws.getD a 0) ∧
    F_next_best [.p (heapP many ls), .p (lot ws)] h = some (.p (lot (lotOf (greedy ls ord) 10)), h) := by
  obtain ⟨ord, o1, o2, o3⟩ := k.told_next ws hw.1 h
  refine ⟨ord, o1, o2, ?_⟩
  refine runF_r [.p (heapP many ls), .p (lot ws)] ?_
  unfold b_next_best
  have s1 : sExp (mCall F_look_at_heap (aCons (mVar 0) aNil)) [.p (heapP many ls), .p (lot ws)] h = some (.nx, [.p (heapP many ls), .p (lot ws)], h) := by simp [k.look an h]
  have s2 : sExp (mCall F_look_at_weights (aCons (mB gIx (mVar 0) (mC (.int 0))) (aCons (mVar 1) aNil))) [.p (heapP many ls), .p (lot ws)] h = some (.nx, [.p (heapP many ls), .p (lot ws)], h) := by
    have := e_look_weights many ws hw h (k.wsz hw)
    simp [heapP, this]
  rw [bSeq_nx s1, bSeq_nx s2, retOf_sRet]
  simp [o3]
end
end Wk
set_option Elab.async false
set_option linter.all false
set_option maxRecDepth 100000
set_option maxHeartbeats 1000000
set_option autoImplicit false
namespace Wk
open PySem PySem.Spec L2 MX
theorem greedy_lt (ls : List (List Nat)) {many : Nat} {ord : List Nat} (hp : ord.Perm (List.range many)) : greedy ls ord < 2 ^ many :=
  fold_lt ord 0 (Nat.pow_pos (by decide)) fun x hx => List.mem_range.mp (hp.mem_iff.mp hx)
theorem lotOf_small {f many : Nat} (hf : f < 2 ^ many) : ∀ x ∈ lotOf f 10, x < many := fun x hx => by
  have := (mem_lotOf.mp hx).2
  refine Nat.lt_of_not_le fun c => ?_
  have h2 := Nat.testBit_lt_two_pow (Nat.lt_of_lt_of_le hf (Nat.pow_le_pow_right (by decide) c))
  rw [h2] at this; cases this
theorem len10 {l : List Nat} (h : Lot 10 l) : l.length ≤ sizeLine := by have := h.len; rw [sizeLine_eq]; omega
section
variable {many : Nat} {ls : List (List Nat)} (k : HeapOk many ls)
include k
theorem HeapOk.shows (an : Anti ls) {ws : List Nat} (hw : WOk many ws) (top : List Nat) (ht : top ∈ ls) (h : Hq) : ∃ ord : List Nat, ord.Perm (List.range many) ∧ ord.Pairwise (fun a b => ws.getD b 0 ≤ ws.getD a 0) ∧
    F_shows_always_best [.p (heapP many ls), .p (.tuple [.str "weights", lot ws, lot top])] h = some (.p (.bool (decide (weigh ws (lotOf (greedy ls ord) 10) < weigh ws top))), h) := by
  obtain ⟨ord, o1, o2, o3⟩ := k.told_next ws hw.1 h
  refine ⟨ord, o1, o2, ?_⟩
  have e1 := k.look an h
  have e2 := e_are_weights many ws hw h (k.wsz hw)
  have e3 := k.allowed top (k.lots top ht) ⟨top, ht, by simp [dif]⟩ h
  have e4 := e_weight_of ws (lotOf (greedy ls ord) 10) h (len10 (lotOf_lot _ _)) (by rw [hw.1]; exact lotOf_small (greedy_lt ls o1))
  have e5 := e_weight_of ws top h (len10 (k.lots10 top ht)) (by rw [hw.1]; exact (k.lots top ht).2)
  refine runF_r [.p (heapP many ls), .p (.tuple [.str "weights", lot ws, lot top])] ?_
  unfold b_shows_always_best
  have s1 : sExp (mCall F_look_at_heap (aCons (mVar 0) aNil)) [.p (heapP many ls), .p (.tuple [.str "weights", lot ws, lot top])] h = some (.nx, [.p (heapP many ls), .p (.tuple [.str "weights", lot ws, lot top])], h) := by simp [e1]
  rw [bSeq_nx s1]
  have i1 := in_pln (x := .int 3) (ys := [.int 1, .int 3]) rfl rfl true (by simp) true h
  have s2 : sIf (tOrM (tNotM (tTru (mIsi (mVar 1) "tuple"))) (tOrM (mBo (mB (gIn true) (mCall gLen (aCons (mVar 1) aNil)) (mTup (aCons (mC (.int 1)) (aCons (mB gAdd (mC (.int 1)) (mC (.int 2))) aNil))))) (tNotM (tTru (mIsi (mB gIx (mVar 1) (mC (.int 0))) "str"))))) (sRet (mC (.bool false))) bNil [.p (heapP many ls), .p (.tuple [.str "weights", lot ws, lot top])] h = some (.nx, [.p (heapP many ls), .p (.tuple [.str "weights", lot ws, lot top])], h) := by
    simp [i1]
  rw [bSeq_nx s2]
  have s3 : sIf (mBo (mB gEq (mCall gLen (aCons (mVar 1) aNil)) (mC (.int 1)))) (sRet (mAnd (mB gEq (mB gIx (mVar 1) (mC (.int 0))) (mC (.str "choice"))) (mB gIsN (mCall F_few_and_many (aCons (mVar 0) aNil)) (mC .none)))) bNil [.p (heapP many ls), .p (.tuple [.str "weights", lot ws, lot top])] h = some (.nx, [.p (heapP many ls), .p (.tuple [.str "weights", lot ws, lot top])], h) := by
    simp
  rw [bSeq_nx s3]
  have i2 : gNe (.p (.str "weights")) (.p (.str "weights")) h = some (.p (.bool false), h) := by
    have := ne_str (i := "weights") (j := "weights") (by decide +kernel) (by decide +kernel) h
    simpa using this
  have s4 : sIf (tOrM (mBo (mB gNe (mB gIx (mVar 1) (mC (.int 0))) (mC (.str "weights")))) (tOrM (tNotM (tTru (mCall F_are_weights (aCons (mB gIx (mVar 0) (mC (.int 0))) (aCons (mB gIx (mVar 1) (mC (.int 1))) aNil))))) (tNotM (tTru (mCall F_is_allowed (aCons (mVar 0) (aCons (mB gIx (mVar 1) (mC (.int 2))) aNil))))))) (sRet (mC (.bool false))) bNil [.p (heapP many ls), .p (.tuple [.str "weights", lot ws, lot top])] h = some (.nx, [.p (heapP many ls), .p (.tuple [.str "weights", lot ws, lot top])], h) := by
    simp only [heapP] at e2 e3 ⊢
    simp [i2, e2, e3]
  rw [bSeq_nx s4, retOf_sRet]
  simp only [heapP] at o3 e4 e5 ⊢
  simp [o3, e4, e5]
end
/-! ### draws -/
def PotV (B : Nat) (o : Mo) : Prop := ∃ a b c : Nat, o = .lst [.p (nInt a), .p (nInt b), .p (nInt c)] ∧ b < 2 ^ 61 ∧ c ≤ B
theorem PotV.mono {B C : Nat} {o : Mo} (h : PotV B o) (l : B ≤ C) : PotV C o := by
  obtain ⟨a, b, c, e, h1, h2⟩ := h
  exact ⟨a, b, c, e, h1, by omega⟩
theorem PotV.mo {B : Nat} {o : Mo} (h : PotV B o) (k : Nat) : moB k o = true := by
  obtain ⟨a, b, c, rfl, _, _⟩ := h
  simp [moB, mvsB, mvB]
theorem runF_set {N np : Nat} {b : MS} {ds : List Mv} {h : Hq} (e : En) (g : Hq) {n : Nat} {o : Mo} {x : Pd} (a : retOf (b e h) = some (.p x, h.set n o ++ g)) (bo : moB h.length o = true) (hl : ds.length = np := by rfl) (he : ds ++ List.replicate (N - np) .und = e := by rfl) : runF N np b ds h = some (.p x, h.set n o) := by
  rw [runF_eq e hl he, a]
  simp only [Option.map_some]
  rw [gc_set bo]
theorem set_lst {h : Hq} {n j : Nat} {xs : List Mv} (ho : h[n]? = some (.lst xs)) (hj : j < xs.length) (v : Mv) : gSet (.loc n) (.p (.int (j : Int))) v h = some (h.set n (.lst (xs.set j v))) := by
  simp only [gSet, ho, ixN_nat hj, Option.map_some]
theorem sIf_t {t : MT} {s s' : MS} {e : En} {h h1 : Hq} (q : t e h = some (true, h1)) : sIf t s s' e h = s e h1 := by rw [r_sif, q]; rfl
theorem sIf_f {t : MT} {s s' : MS} {e : En} {h h1 : Hq} (q : t e h = some (false, h1)) : sIf t s s' e h = s' e h1 := by rw [r_sif, q]; rfl
theorem gI_ev {C : Int → Int → Bool} {f : Int → Int → Pd} {i j : Int} (hc : C i j = true) (h : Hq) : gI C f (.p (.int i)) (.p (.int j)) h = some (.p (f i j), h) := by
  rw [r_gI, hc]; rfl
theorem g_mod {i j : Int} (hj : 0 < j) (h : Hq) : gMod (.p (.int i)) (.p (.int j)) h = some (.p (.int (i % j)), h) := gI_ev (decide_eq_true hj) h
theorem g_div {i j : Int} (hj : 0 < j) (hj2 : j < 2 ^ 64) (h : Hq) : gDiv (.p (.int i)) (.p (.int j)) h = some (.p (.int (i / j)), h) := gI_ev (decide_eq_true ⟨hj, hj2⟩) h
theorem g_mul {i j : Int} (hj : cMulW i j = true) (h : Hq) : gMul (.p (.int i)) (.p (.int j)) h = some (.p (.int (i * j)), h) := gI_ev hj h
theorem g_pow {i j : Int} (hj : cPowW i j = true) (h : Hq) : gPow (.p (.int i)) (.p (.int j)) h = some (.p (.int (i ^ j.toNat)), h) := gI_ev hj h
section
variable {a b : ME} {g : G2} {gA : GA} {e : En} {h h1 h2 h3 : Hq} {x y d : Mv}
theorem mB_ev (ha : a e h = some (x, h1)) (hb : b e h1 = some (y, h2)) (hg : g x y h2 = some (d, h3)) : mB g a b e h = some (d, h3) := by
  rw [r_b, ha]; simp only [Option.bind_some]; rw [hb]; exact hg
theorem mC1_ev (ha : a e h = some (x, h1)) (hg : gA [x] h1 = some (d, h2)) : mCall gA (aCons a aNil) e h = some (d, h2) := by
  rw [r_call, r_cons, ha]; exact hg
theorem mC2_ev (ha : a e h = some (x, h1)) (hb : b e h1 = some (y, h2)) (hg : gA [x, y] h2 = some (d, h3)) : mCall gA (aCons a (aCons b aNil)) e h = some (d, h3) := by
  rw [r_call, r_cons, ha]; simp only [Option.bind_some, r_cons]; rw [hb]; exact hg
theorem sAsg_ev {i : Nat} (ha : a e h = some (d, h1)) (hi : i < e.length) : sAsg a (.nm i) e h = some (.nx, e.set i d, h1) := by
  rw [r_asg, ha]; simp only [Option.bind_some, r_nm, if_pos hi]; rfl
theorem mC_ev (x : Pd) (e : En) (h : Hq) : mC x e h = some (.p x, h) := rfl
end
theorem sSub_ev {mo mi ma : ME} {e : En} {h h1 h2 h3 h4 : Hq} {v o i : Mv} (a1 : ma e h = some (v, h1)) (a2 : mo e h1 = some (o, h2)) (a3 : mi e h2 = some (i, h3)) (a4 : gSet o i v h3 = some h4) : sSub mo mi ma e h = some (.nx, e, h4) := by
  simp only [sSub, a1, a2, a3, a4, Option.bind_some, Option.map_some]
theorem bits_le {x : Int} {m : Nat} (h : x.natAbs < 2 ^ m) : Builtin.Int.intBits x ≤ m := by
  unfold Builtin.Int.intBits
  split
  · omega
  · rename_i hx
    have h0 : x.natAbs ≠ 0 := by simpa using hx
    have := (Nat.log2_lt h0).mpr h
    omega
theorem e_take (n : Nat) (h : Hq) (o : Mo) (B u : Nat) (ho : h[n]? = some o) (hp : PotV B o) (hB : B ≤ 2 ^ 40) (hu : 0 < u) (hu2 : u < 2 ^ 20) :
    ∃ v o', v < u ∧ PotV (B + 1) o' ∧ F__law_take [.loc n, .p (nInt u)] h = some (.p (nInt v), h.set n o') := by
  obtain ⟨a, b, c, rfl, hb, hc⟩ := hp
  have hn : n < h.length := (List.getElem?_eq_some_iff.mp ho).1
  have hl : lstOf h (.loc n) = some [.p (nInt a), .p (nInt b), .p (nInt c)] := by simp only [lstOf, ho]
  have x0 : gIx (.loc n) (.p (.int 0)) h = some (.p (nInt a), h) := ixL (i := 0) hl rfl
  have x1 : gIx (.loc n) (.p (.int 1)) h = some (.p (nInt b), h) := ixL (i := 1) hl rfl
  have x2 : gIx (.loc n) (.p (.int 2)) h = some (.p (nInt c), h) := ixL (i := 2) hl rfl
  have u0 : (0 : Int) < (u : Int) := by omega
  have u64 : (u : Int) < 2 ^ 64 := by
    have : (2 : Int) ^ 64 = 18446744073709551616 := by decide
    have : u < 1048576 := hu2
    omega
  by_cases ha : 0 < a
  · refine ⟨a % u, .lst [.p (nInt (a / u)), .p (nInt b), .p (nInt c)], Nat.mod_lt _ hu, ⟨a / u, b, c, rfl, hb, by omega⟩, ?_⟩
    have st : gSet (.loc n) (.p (.int 0)) (.p (.int ((a : Int) / (u : Int)))) h = some (h.set n (.lst [.p (.int ((a : Int) / (u : Int))), .p (nInt b), .p (nInt c)])) := set_lst (j := 0) ho (by simp) _
    refine runF_set [.loc n, .p (nInt u), .und, .und, .und] [] ?_ (by simp [moB, mvsB, mvB])
    have q1 : sAsg (mB gMod (mCall gInt (aCons (mB gIx (mVar 0) (mC (.int 0))) aNil)) (mVar 1)) (.nm 4) [.loc n, .p (nInt u), .und, .und, .und] h = some (.nx, [.loc n, .p (nInt u), .und, .und, .p (.int ((a : Int) % (u : Int)))], h) := by
      simp only [nInt] at x0 ⊢
      simp only [r_asg, r_b, r_call, r_cons, r_nil, r_var, r_c, List.getElem?_cons_zero, List.getElem?_cons_succ, Option.bind_some, x0, r_intI, g_mod u0]
      rfl
    have q2 : sSub (mVar 0) (mC (.int 0)) (mB gDiv (mB gIx (mVar 0) (mC (.int 0))) (mVar 1)) [.loc n, .p (nInt u), .und, .und, .p (.int ((a : Int) % (u : Int)))] h = some (.nx, [.loc n, .p (nInt u), .und, .und, .p (.int ((a : Int) % (u : Int)))], h.set n (.lst [.p (.int ((a : Int) / (u : Int))), .p (nInt b), .p (nInt c)])) := by
      refine sSub_ev (v := .p (.int ((a : Int) / (u : Int)))) (h1 := h) ?_ rfl rfl st
      simp only [nInt] at x0 ⊢
      simp only [r_asg, r_b, r_call, r_cons, r_nil, r_var, r_c, List.getElem?_cons_zero, List.getElem?_cons_succ, Option.bind_some, x0, r_intI, g_div u0 u64]
    have s2 : sIf (mBo (mB gGt (mB gIx (mVar 0) (mC (.int 0))) (mC (.int 0)))) (bSeq (sAsg (mB gMod (mCall gInt (aCons (mB gIx (mVar 0) (mC (.int 0))) aNil)) (mVar 1)) (.nm 4)) (bSeq (sSub (mVar 0) (mC (.int 0)) (mB gDiv (mB gIx (mVar 0) (mC (.int 0))) (mVar 1))) (sRet (mVar 4)))) bNil [.loc n, .p (nInt u), .und, .und, .und] h = some (.ret (.p (.int ((a : Int) % (u : Int)))), [.loc n, .p (nInt u), .und, .und, .p (.int ((a : Int) % (u : Int)))], h.set n (.lst [.p (.int ((a : Int) / (u : Int))), .p (nInt b), .p (nInt c)])) := by
      rw [sIf_t (h1 := h) (by simp [x0, ha]), bSeq_nx q1, bSeq_nx q2]
      rfl
    unfold b__law_take
    rw [bSeq_ret s2, retOf_ret, List.append_nil]
    rfl
  · have a0 : a = 0 := by omega
    subst a0
    let h1 := h.set n (.lst [.p (nInt 0), .p (nInt b), .p (nInt (c + 1))])
    have ho1 : h1[n]? = some (.lst [.p (nInt 0), .p (nInt b), .p (nInt (c + 1))]) := List.getElem?_set_self hn
    have hl1 : lstOf h1 (.loc n) = some [.p (nInt 0), .p (nInt b), .p (nInt (c + 1))] := by simp only [lstOf, ho1]
    have y1 : gIx (.loc n) (.p (.int 1)) h1 = some (.p (nInt b), h1) := ixL (i := 1) hl1 rfl
    have y2 : gIx (.loc n) (.p (.int 2)) h1 = some (.p (nInt (c + 1)), h1) := ixL (i := 2) hl1 rfl
    have st : gSet (.loc n) (.p (.int 2)) (.p (.int ((c : Int) + 1))) h = some h1 := set_lst (j := 2) ho (by simp) _
    obtain ⟨P, P0, P1, hP⟩ : ∃ P : Int, 0 < P ∧ P < 2 ^ 31 ∧ gIx (.loc h1.length) (.p (.int (((c + 1 : Nat) : Int) % 6))) (h1 ++ [.lst [.p (.int 2147483647), .p (.int 2147483629), .p (.int 2147483587), .p (.int 2147483579), .p (.int 2147483563), .p (.int 2147483549)]]) = some (.p (.int P), h1 ++ [.lst [.p (.int 2147483647), .p (.int 2147483629), .p (.int 2147483587), .p (.int 2147483579), .p (.int 2147483563), .p (.int 2147483549)]]) := by
      have hll := lst_last h1 [.p (.int 2147483647), .p (.int 2147483629), .p (.int 2147483587), .p (.int 2147483579), .p (.int 2147483563), .p (.int 2147483549)]
      have e6 : (((c + 1 : Nat) : Int) % 6) = (((c + 1) % 6 : Nat) : Int) := by omega
      rw [e6]
      have h6 : (c + 1) % 6 < 6 := Nat.mod_lt _ (by decide)
      generalize (c + 1) % 6 = r at h6
      match r, h6 with
      | 0, _ => exact ⟨_, by decide, by decide, ixL hll rfl⟩
      | 1, _ => exact ⟨_, by decide, by decide, ixL hll rfl⟩
      | 2, _ => exact ⟨_, by decide, by decide, ixL hll rfl⟩
      | 3, _ => exact ⟨_, by decide, by decide, ixL hll rfl⟩
      | 4, _ => exact ⟨_, by decide, by decide, ixL hll rfl⟩
      | 5, _ => exact ⟨_, by decide, by decide, ixL hll rfl⟩
      | r + 6, h6 => omega
    have e64 : (2 : Int) ^ 64 = 18446744073709551616 := by decide
    have e31 : (2 : Int) ^ 31 = 2147483648 := by decide
    have e61 : 2 ^ 61 = 2305843009213693952 := by decide
    have e40 : 2 ^ 40 = 1099511627776 := by decide
    obtain ⟨C, hC⟩ : ∃ C : Int, C = ((c + 1 : Nat) : Int) := ⟨_, rfl⟩
    have C0 : 0 ≤ C := by omega
    have C1 : C ≤ 2199023255552 := by omega
    have y2 : gIx (.loc n) (.p (.int 2)) h1 = some (.p (.int C), h1) := by rw [hC]; exact y2
    obtain ⟨X, hX⟩ : ∃ X : Int, X = (b : Int) + 97712 * C * C + 61 := ⟨_, rfl⟩
    have hX1 : X.natAbs < 2 ^ 120 := by
      have q1 : (c + 1) * (c + 1) ≤ 2199023255552 * 2199023255552 := Nat.mul_le_mul (by omega) (by omega)
      have e : X = ((b + 97712 * ((c + 1) * (c + 1)) + 61 : Nat) : Int) := by
        rw [hX, hC, Int.mul_assoc]
        simp only [Int.natCast_add, Int.natCast_mul]
        rfl
      rw [e, Int.natAbs_natCast]
      generalize (c + 1) * (c + 1) = z at q1
      have : (2 : Nat) ^ 120 = 1329227995784915872903807060280344576 := by decide
      omega
    have cp : cPowW X 3 = true := by
      have := bits_le hX1
      refine decide_eq_true ⟨by decide, ?_⟩
      have e27 : (2 : Int) ^ 27 = 134217728 := by decide
      omega
    obtain ⟨Y, hY⟩ : ∃ Y : Int, Y = X ^ 3 % P := ⟨_, rfl⟩
    have Y0 : 0 ≤ Y := by rw [hY]; exact Int.emod_nonneg _ (by omega)
    have Y1 : Y < P := by rw [hY]; exact Int.emod_lt_of_pos _ P0
    obtain ⟨Z, hZ⟩ : ∃ Z : Int, Z = Y * (Y % 10217 + 83 * C) % 2305843009213693907 := ⟨_, rfl⟩
    have cm : ∀ {i j : Int}, (-(2 ^ 64) < i ∧ i < 2 ^ 64) ∨ (-(2 ^ 64) < j ∧ j < 2 ^ 64) → cMulW i j = true := fun {i j} q => by
      have : cMul i j = true := decide_eq_true q
      simp only [cMulW, this, Bool.true_or]
    have c1 : cMulW 97712 C = true := cm (.inl (by omega))
    have c2 : cMulW (97712 * C) C = true := cm (.inr (by omega))
    have c3 : cMulW 83 C = true := cm (.inl (by omega))
    have c4 : cMulW Y (Y % 10217 + 83 * C) = true := cm (.inl (by omega))
    obtain ⟨R, hR⟩ : ∃ R : Int, R = Z / 107 % (u : Int) := ⟨_, rfl⟩
    have R0 : 0 ≤ R := by rw [hR]; exact Int.emod_nonneg _ (by omega)
    have R1 : R < u := by rw [hR]; exact Int.emod_lt_of_pos _ u0
    refine ⟨R.toNat, .lst [.p (nInt 0), .p (nInt b), .p (nInt (c + 1))], by omega, ⟨0, b, c + 1, rfl, hb, by omega⟩, ?_⟩
    have eR : nInt R.toNat = .int R := by
      show PyData.int (R.toNat : Int) = _
      rw [Int.toNat_of_nonneg R0]
    rw [eR]
    refine runF_set [.loc n, .p (nInt u), .und, .und, .und] [] ?_ (by simp [moB, mvsB, mvB])
    have s1 : sIf (mBo (mB gGt (mB gIx (mVar 0) (mC (.int 0))) (mC (.int 0)))) (bSeq (sAsg (mB gMod (mCall gInt (aCons (mB gIx (mVar 0) (mC (.int 0))) aNil)) (mVar 1)) (.nm 4)) (bSeq (sSub (mVar 0) (mC (.int 0)) (mB gDiv (mB gIx (mVar 0) (mC (.int 0))) (mVar 1))) (sRet (mVar 4)))) bNil [.loc n, .p (nInt u), .und, .und, .und] h = some (.nx, [.loc n, .p (nInt u), .und, .und, .und], h) := by
      rw [sIf_f (h1 := h) (by simp [x0])]
      rfl
    have s2 : sSub (mVar 0) (mC (.int 2)) (mB gAdd (mB gIx (mVar 0) (mC (.int 2))) (mC (.int 1))) [.loc n, .p (nInt u), .und, .und, .und] h = some (.nx, [.loc n, .p (nInt u), .und, .und, .und], h1) :=
      sSub_ev (mB_ev (mB_ev rfl rfl x2) rfl (r_addI _ _ _)) rfl rfl st
    have s3 : sAsg (mGc (mB gIx (mLst (aCons (mC (.int 2147483647)) (aCons (mC (.int 2147483629)) (aCons (mC (.int 2147483587)) (aCons (mC (.int 2147483579)) (aCons (mC (.int 2147483563)) (aCons (mC (.int 2147483549)) aNil))))))) (mB gMod (mCall gInt (aCons (mB gIx (mVar 0) (mC (.int 2))) aNil)) (mC (.int 6))))) (.nm 2) [.loc n, .p (nInt u), .und, .und, .und] h1 = some (.nx, [.loc n, .p (nInt u), .p (.int P), .und, .und], h1) := by
      refine sAsg_ev (i := 2) ?_ (by simp)
      have z2 : gIx (.loc n) (.p (.int 2)) (h1 ++ [.lst [.p (.int 2147483647), .p (.int 2147483629), .p (.int 2147483587), .p (.int 2147483579), .p (.int 2147483563), .p (.int 2147483549)]]) = some (.p (.int C), h1 ++ [.lst [.p (.int 2147483647), .p (.int 2147483629), .p (.int 2147483587), .p (.int 2147483579), .p (.int 2147483563), .p (.int 2147483549)]]) := by
        rw [hC]; exact ixL (i := 2) (lstOf_app hl1) rfl
      have z3 : mLst (aCons (mC (.int 2147483647)) (aCons (mC (.int 2147483629)) (aCons (mC (.int 2147483587)) (aCons (mC (.int 2147483579)) (aCons (mC (.int 2147483563)) (aCons (mC (.int 2147483549)) aNil)))))) [.loc n, .p (nInt u), .und, .und, .und] h1 = some (.loc h1.length, h1 ++ [.lst [.p (.int 2147483647), .p (.int 2147483629), .p (.int 2147483587), .p (.int 2147483579), .p (.int 2147483563), .p (.int 2147483549)]]) := by simp
      have z4 := mB_ev (g := gIx) z3 (mB_ev (g := gMod) (mC1_ev (mB_ev (a := mVar 0) (b := mC (.int 2)) rfl rfl z2) (r_intI _ _)) (mC_ev (.int 6) _ _) (g_mod (by decide) _)) (by rw [hC]; exact hP)
      unfold mGc
      rw [z4]
      simp
    have s4 : sAsg (mB gMod (mCall gInt (aCons (mB gPow (mCall gInt (aCons (mB gAdd (mB gAdd (mB gIx (mVar 0) (mC (.int 1))) (mB gMul (mB gMul (mC (.int 97712)) (mB gIx (mVar 0) (mC (.int 2)))) (mB gIx (mVar 0) (mC (.int 2))))) (mC (.int 61))) aNil)) (mC (.int 3))) aNil)) (mVar 2)) (.nm 3) [.loc n, .p (nInt u), .p (.int P), .und, .und] h1 = some (.nx, [.loc n, .p (nInt u), .p (.int P), .p (.int Y), .und], h1) := by
      refine sAsg_ev (i := 3) ?_ (by simp)
      have w2 : (mB gIx (mVar 0) (mC (.int 2))) [.loc n, .p (nInt u), .p (.int P), .und, .und] h1 = some (.p (.int C), h1) := mB_ev rfl rfl y2
      have w1 : (mB gIx (mVar 0) (mC (.int 1))) [.loc n, .p (nInt u), .p (.int P), .und, .und] h1 = some (.p (nInt b), h1) := mB_ev rfl rfl y1
      have w3 := mB_ev (g := gAdd) (mB_ev (g := gAdd) w1 (mB_ev (g := gMul) (mB_ev (g := gMul) (mC_ev (.int 97712) _ _) w2 (g_mul c1 _)) w2 (g_mul c2 _)) (r_addI _ _ _)) (mC_ev (.int 61) _ _) (r_addI _ _ _)
      rw [← hX] at w3
      have w4 := mB_ev (g := gPow) (mC1_ev w3 (r_intI _ _)) (mC_ev (.int 3) _ _) (g_pow cp _)
      have w5 := mB_ev (g := gMod) (b := mVar 2) (mC1_ev w4 (r_intI _ _)) (y := .p (.int P)) (h2 := h1) rfl (g_mod P0 _)
      rw [w5, hY]
      rfl
    have s5 : sAsg (mB gMod (mCall gInt (aCons (mB gMul (mVar 3) (mB gAdd (mB gMod (mCall gInt (aCons (mVar 3) aNil)) (mC (.int 10217))) (mB gMul (mC (.int 83)) (mB gIx (mVar 0) (mC (.int 2)))))) aNil)) (mC (.int 2305843009213693907))) (.nm 3) [.loc n, .p (nInt u), .p (.int P), .p (.int Y), .und] h1 = some (.nx, [.loc n, .p (nInt u), .p (.int P), .p (.int Z), .und], h1) := by
      refine sAsg_ev (i := 3) ?_ (by simp)
      have w2 : (mB gIx (mVar 0) (mC (.int 2))) [.loc n, .p (nInt u), .p (.int P), .p (.int Y), .und] h1 = some (.p (.int C), h1) := mB_ev rfl rfl y2
      have w0 : mVar 3 [.loc n, .p (nInt u), .p (.int P), .p (.int Y), .und] h1 = some (.p (.int Y), h1) := rfl
      have w3 := mB_ev (g := gAdd) (mB_ev (g := gMod) (mC1_ev w0 (r_intI _ _)) (mC_ev (.int 10217) _ _) (g_mod (by decide) _)) (mB_ev (g := gMul) (mC_ev (.int 83) _ _) w2 (g_mul c3 _)) (r_addI _ _ _)
      have w4 := mB_ev (g := gMod) (mC1_ev (mB_ev (g := gMul) w0 w3 (g_mul c4 _)) (r_intI _ _)) (mC_ev (.int 2305843009213693907) _ _) (g_mod (by decide) _)
      rw [w4, hZ]
    unfold b__law_take
    rw [bSeq_nx s1, bSeq_nx s2, bSeq_nx s3, bSeq_nx s4, bSeq_nx s5, retOf_sRet, List.append_nil]
    have w0 : mVar 3 [.loc n, .p (nInt u), .p (.int P), .p (.int Z), .und] h1 = some (.p (.int Z), h1) := rfl
    have w6 := mB_ev (g := gMod) (b := mVar 1) (mC1_ev (mB_ev (g := gDiv) w0 (mC_ev (.int 107) _ _) (g_div (by decide) (by decide) _)) (r_intI _ _)) (y := .p (nInt u)) (h2 := h1) rfl (g_mod u0 _)
    rw [w6, hR]
end Wk
set_option Elab.async false
set_option linter.all false
set_option maxRecDepth 100000
set_option maxHeartbeats 1000000
set_option autoImplicit false
namespace Wk
open PySem PySem.Spec L2 MX
section
variable {a : ME} {ma : MA} {gA : GA} {e : En} {h h1 h2 h3 : Hq} {x d : Mv} {xs : List Mv}
theorem aN_ev (e : En) (h : Hq) : aNil e h = some ([], h) := rfl
theorem aC_ev (ha : a e h = some (x, h1)) (hm : ma e h1 = some (xs, h2)) : aCons a ma e h = some (x :: xs, h2) := by
  rw [r_cons, ha]; simp only [Option.bind_some]; rw [hm]; rfl
theorem mLst_ev (hm : ma e h = some (xs, h1)) (hz : xs.length ≤ sizeLine) : mLst ma e h = some (.loc h1.length, h1 ++ [.lst xs]) := by
  rw [r_lst, hm]; simp only [Option.bind_some, if_pos hz]
theorem mTup_ev (hm : ma e h = some (xs, h1)) (hz : xs.length ≤ sizeLine) : mTup ma e h = some (mkT xs, h1) := by
  rw [r_tup, hm]; simp only [Option.bind_some, if_pos hz]
theorem mCall_ev (hm : ma e h = some (xs, h1)) (hg : gA xs h1 = some (d, h2)) : mCall gA ma e h = some (d, h2) := by
  rw [r_call, hm]; exact hg
theorem mGc_ev {d' : Mv} {h' : Hq} (ha : a e h = some (d, h1)) (hg : gc h d h1 = (d', h')) : mGc a e h = some (d', h') := by
  unfold mGc; rw [ha]; simp only [Option.map_some, hg]
end
theorem runF_l {N np : Nat} {b : MS} {ds : List Mv} {h : Hq} (e : En) (g : Hq) {n : Nat} {o : Mo} (a : retOf (b e h) = some (.loc n, h ++ g)) (hn : h.length ≤ n) (eo : (h ++ g)[n]? = some o) (bo : moB h.length o = true) (hl : ds.length = np := by rfl) (he : ds ++ List.replicate (N - np) .und = e := by rfl) : runF N np b ds h = some (.loc h.length, h ++ [o]) := by
  rw [runF_eq e hl he, a]
  simp only [Option.map_some]
  rw [gc_l hn eo bo]
theorem set_app {h g : Hq} {n : Nat} (hn : n < h.length) (o : Mo) : (h ++ g).set n o = h.set n o ++ g := List.set_append_left _ _ hn
theorem set_set2 (h : Hq) (n : Nat) (o o' : Mo) : (h.set n o).set n o' = h.set n o' := by simp
theorem get_set {h g : Hq} {n : Nat} (hn : n < h.length) (o : Mo) : (h.set n o ++ g)[n]? = some o := by
  rw [List.getElem?_append_left (by simpa using hn)]
  exact List.getElem?_set_self hn
theorem set_ap2 {h g : Hq} {n : Nat} (hn : n < h.length) (o o' : Mo) : (h.set n o ++ g).set n o' = h.set n o' ++ g := by
  rw [set_app (by simpa using hn), set_set2]
/-- a draw, where the pot stands among others -/
theorem take_in {h : Hq} {n : Nat} (g : Hq) (o : Mo) (B u : Nat) (hn : n < h.length) (hp : PotV B o) (hB : B ≤ 2 ^ 40) (hu : 0 < u) (hu2 : u < 2 ^ 20) :
    ∃ v o', v < u ∧ PotV (B + 1) o' ∧ F__law_take [.loc n, .p (nInt u)] (h.set n o ++ g) = some (.p (nInt v), h.set n o' ++ g) := by
  obtain ⟨v, o', h1, h2, h3⟩ := e_take n (h.set n o ++ g) o B u (get_set hn o) hp hB hu hu2
  exact ⟨v, o', h1, h2, by rw [h3, set_ap2 hn]⟩
theorem set_self {h : Hq} {n : Nat} {o : Mo} (ho : h[n]? = some o) : h.set n o = h := by
  obtain ⟨hn, e⟩ := List.getElem?_eq_some_iff.mp ho
  rw [← e]
  exact List.set_getElem_self hn
section
variable {t : Tg} {tt : MT} {te : ME} {vs : List Nat} {e : En} {h : Hq} {n m c B : Nat} {o : Mo}
/-- a comprehension over a range that draws -/
theorem lc_pot {args : MA} (P : Nat → List Mv → Prop) (a : args e h = some ([.p (nInt m)], h)) (hm : m < 2 ^ 20) (ho : h[n]? = some o) (hp : PotV B o) (p0 : P 0 []) (hz : m ≤ sizeLine)
    (step : ∀ k, k < m → ∀ acc o' g, P k acc → PotV (B + k * c) o' → ∃ e1, asg t (Mv.int (k : Nat)) (wipeE e vs) = some e1 ∧
      ((∃ o'', tt e1 (h.set n o' ++ g) = some (false, h.set n o'' ++ g) ∧ PotV (B + (k + 1) * c) o'' ∧ P (k + 1) acc) ∨
       ∃ o1 y o'', tt e1 (h.set n o' ++ g) = some (true, h.set n o1 ++ g) ∧ te e1 (h.set n o1 ++ g) = some (y, h.set n o'' ++ g) ∧ PotV (B + (k + 1) * c) o'' ∧ P (k + 1) (acc ++ [y]))) :
    ∃ ys o', P m ys ∧ ys.length ≤ m ∧ PotV (B + m * c) o' ∧ mLc (sRng1 args) t tt te vs e h = some (.loc h.length, h.set n o' ++ [.lst ys]) := by
  have hn : n < h.length := (List.getElem?_eq_some_iff.mp ho).1
  have hb : bnd ((m : Nat) : Int) = true := by
    unfold bnd
    have : (2 : Int) ^ 62 = 4611686018427387904 := by decide
    have e20 : 2 ^ 20 = 1048576 := by decide
    exact decide_eq_true ⟨by omega, by omega⟩
  obtain ⟨nx, s1, s2⟩ := src_rng1 a hb
  have lg := lcN_gen (nx := nx) (t := t) (tt := tt) (te := te) (e0 := wipeE e vs) (n0 := h.length) (k := m)
    (fun k hh => ∃ acc o', hh = h.set n o' ++ [.lst acc] ∧ acc.length ≤ k ∧ P k acc ∧ PotV (B + k * c) o')
    (fun hh _ => by rw [s2 m hh trivial, List.getElem?_eq_none (by simp)])
    (fun k hh hk ⟨acc, o', e1, l1, p1, p2⟩ => by
      subst e1
      obtain ⟨e1, a1, st⟩ := step k hk acc o' [.lst acc] p1 p2
      have en : nx k (h.set n o' ++ [.lst acc]) = some (some (Mv.int (k : Nat))) := by
        rw [s2 k _ trivial]
        rw [List.getElem?_map, List.getElem?_range (by simpa using hk)]
        rfl
      rcases st with ⟨o2, b1, b2, b3⟩ | ⟨o1, y, o2, b1, b2, b3, b4⟩
      · exact ⟨_, e1, false, _, en, a1, b1, (fun z => nomatch z), fun _ => ⟨acc, o2, rfl, by omega, b3, b2⟩⟩
      · refine ⟨_, e1, true, _, en, a1, b1, fun _ => ⟨y, _, h.set n o2 ++ [.lst (acc ++ [y])], b2, ?_, acc ++ [y], o2, rfl, by simp; omega, b4, b3⟩, (fun z => nomatch z)⟩
        have ln : (h.set n o2).length = h.length := by simp
        unfold putL
        rw [← ln, List.getElem?_append_right (Nat.le_refl _)]
        simp only [Nat.sub_self, List.getElem?_cons_zero]
        rw [if_pos (by omega), List.set_append_right _ _ (Nat.le_refl _)]
        simp)
    m 0 (h ++ [.lst []]) (by omega) ⟨[], o, by rw [set_self ho], Nat.le_refl _, p0, by simpa using hp⟩
  obtain ⟨h', l1, acc, o', l2, l3, l4, l5⟩ := lg
  subst l2
  refine ⟨acc, o', l4, l3, l5, ?_⟩
  unfold mLc
  rw [s1]
  have el : ((List.range ((m : Nat) : Int).toNat).map fun i : Nat => Mv.int (i : Int)).length = m := by simp
  simp only [Option.bind_some, el]
  rw [l1]
  rfl
end
theorem nat_abs_form {x : Int} (h : 0 ≤ x) : PyData.int x = nInt x.toNat := by
  show _ = PyData.int (x.toNat : Int)
  rw [Int.toNat_of_nonneg h]
theorem e_pot (ns : List Int) (d : Mv) (h : Hq) (place : Nat) (hd : lstOf h d = some (ns.map Mv.int)) (hp : place < 2) (hdu : d ≠ .und) (hz : ns.length ≤ 63) :
    ∃ o, PotV 0 o ∧ F__law_pot [d, .p (nInt place)] h = some (.loc h.length, h ++ [o]) := by
  obtain ⟨cell, hc⟩ : ∃ c : Int, (mIf (mBo (mB gLtA (mVar 1) (mCall gLen (aCons (mVar 0) aNil)))) (mB gIx (mVar 0) (mVar 1)) (mB gAdd (mB gMul (mC (.int 73)) (mVar 1)) (mC (.int 43)))) [d, .p (nInt place), .und, .und, .und] h = some (.p (.int c), h) := by
    have v0 : mVar 0 [d, .p (nInt place), .und, .und, .und] h = some (d, h) := by
      cases d <;> first | rfl | exact absurd rfl hdu
    have v1 : mVar 1 [d, .p (nInt place), .und, .und, .und] h = some (.p (nInt place), h) := rfl
    have gl : gLen [d] h = some (.p (.int ns.length), h) := by
      have : seqOf h d = some (ns.map Mv.int) := by
        unfold seqOf
        rw [hd, lstOf_tup hd]
      simp [gLen, this]
    have t1 : mB gLtA (mVar 1) (mCall gLen (aCons (mVar 0) aNil)) [d, .p (nInt place), .und, .und, .und] h = some (.p (.bool (decide ((place : Int) < ns.length))), h) := mB_ev v1 (mC1_ev v0 gl) (r_ltI _ _ _)
    rw [r_if, r_boB, t1]
    simp only [Option.bind_some]
    by_cases hl : (place : Int) < ns.length
    · rw [if_pos (by simpa using hl)]
      have hl' : place < ns.length := by omega
      exact ⟨ns[place], mB_ev v0 v1 (ixL hd (by rw [List.getElem?_map, List.getElem?_eq_getElem hl']; rfl))⟩
    · rw [if_neg (by simpa using hl)]
      refine ⟨73 * (place : Int) + 43, mB_ev (mB_ev (mC_ev _ _ _) v1 (g_mul ?_ _)) (mC_ev _ _ _) (r_addI _ _ _)⟩
      have : cMul 73 (place : Int) = true := decide_eq_true (.inl (by decide))
      simp only [cMulW, this, Bool.true_or]
  have s1 : sAsg (mIf (mBo (mB gLtA (mVar 1) (mCall gLen (aCons (mVar 0) aNil)))) (mB gIx (mVar 0) (mVar 1)) (mB gAdd (mB gMul (mC (.int 73)) (mVar 1)) (mC (.int 43)))) (.nm 2) [d, .p (nInt place), .und, .und, .und] h = some (.nx, [d, .p (nInt place), .p (.int cell), .und, .und], h) := sAsg_ev hc (by simp)
  have p60 : (mB gPow (mB gPow (mC (.int 10)) (mC (.int 60))) (mC (.int 5))) [d, .p (nInt place), .p (.int cell), .und, .und] h = some (.p (.int (((10 : Int) ^ 60) ^ 5)), h) :=
    mB_ev (mB_ev (mC_ev _ _ _) (mC_ev _ _ _) (g_pow (by decide +kernel) _)) (mC_ev _ _ _) (g_pow (by decide +kernel) _)
  have p18 : (mB gPow (mC (.int 10)) (mC (.int 18))) [d, .p (nInt place), .p (.int cell), .und, .und] h = some (.p (.int ((10 : Int) ^ 18)), h) := mB_ev (mC_ev _ _ _) (mC_ev _ _ _) (g_pow (by decide +kernel) _)
  obtain ⟨Q, hQ⟩ : ∃ Q : Int, Q = ((10 : Int) ^ 60) ^ 5 := ⟨_, rfl⟩
  have Q0 : 0 < Q := by rw [hQ]; decide +kernel
  rw [← hQ] at p60
  obtain ⟨T, hT⟩ : ∃ T : Int, T = (10 : Int) ^ 18 := ⟨_, rfl⟩
  rw [← hT] at p18
  have v2 : mVar 2 [d, .p (nInt place), .p (.int cell), .und, .und] h = some (.p (.int cell), h) := rfl
  obtain ⟨A, hA⟩ : ∃ A : Int, A = if cell < 0 then -cell else cell := ⟨_, rfl⟩
  have va : mCall gAbs (aCons (mVar 2) aNil) [d, .p (nInt place), .p (.int cell), .und, .und] h = some (.p (.int A), h) := mC1_ev v2 (by rw [hA]; exact r_abs _ _)
  obtain ⟨k, hk⟩ : ∃ k : Bool, k = decide (T ≤ A) := ⟨_, rfl⟩
  have vk : mCall gInt (aCons (mB gGe (mCall gAbs (aCons (mVar 2) aNil)) (mB gPow (mC (.int 10)) (mC (.int 18)))) aNil) [d, .p (nInt place), .p (.int cell), .und, .und] h = some (.p (.int (if k then 1 else 0)), h) := mC1_ev (mB_ev va p18 (by rw [hk]; exact gI_ev rfl h)) (r_intB _ _)
  have own := mB_ev (g := gMul) (mB_ev (g := gMod) (mC1_ev va (r_intI _ _)) p60 (g_mod Q0 _)) vk (g_mul (by
    have : cMul (A % Q) (if k = true then 1 else 0) = true := decide_eq_true (.inr (by cases k <;> decide))
    simp only [cMulW, this, Bool.true_or]) _)
  have W0 : 0 ≤ A % Q * (if k = true then 1 else 0) := Int.mul_nonneg (Int.emod_nonneg _ (by omega)) (by cases k <;> decide)
  generalize A % Q * (if k = true then 1 else 0) = W at own W0
  have s2 := sAsg_ev (i := 3) own (by simp)
  simp only [List.set_cons_succ, List.set_cons_zero] at s2
  have w1 : mVar 1 [d, .p (nInt place), .p (.int cell), .p (.int W), .und] h = some (.p (nInt place), h) := rfl
  have w2 : mVar 2 [d, .p (nInt place), .p (.int cell), .p (.int W), .und] h = some (.p (.int cell), h) := rfl
  have cm : ∀ {i j : Int}, (-(2 ^ 64) < i ∧ i < 2 ^ 64) ∨ (-(2 ^ 64) < j ∧ j < 2 ^ 64) → cMulW i j = true := fun {i j} q => by
    have : cMul i j = true := decide_eq_true q
    simp only [cMulW, this, Bool.true_or]
  have e64 : (2 : Int) ^ 64 = 18446744073709551616 := by decide
  have mx := mB_ev (g := gAdd) (mB_ev (g := gAdd) (mB_ev (g := gMul) (mB_ev (g := gMod) (mC1_ev w2 (r_intI _ _)) (mC_ev (.int 2305843009213693951) _ _) (g_mod (by decide) _)) (mC_ev (.int 74608) _ _) (g_mul (cm (.inr (by decide))) _))
    (mB_ev (g := gMul) (mB_ev (g := gMul) (mC_ev (.int 7089) _ _) w1 (g_mul (cm (.inl (by decide))) _)) w1 (g_mul (cm (.inr (by omega))) _)) (r_addI _ _ _)) (mC_ev (.int 71) _ _) (r_addI _ _ _)
  generalize cell % 2305843009213693951 * 74608 + 7089 * (place : Int) * (place : Int) + 71 = M at mx
  have s3 := sAsg_ev (i := 4) mx (by simp)
  simp only [List.set_cons_succ, List.set_cons_zero] at s3
  have b0 : 0 ≤ M % 2305843009213693921 := Int.emod_nonneg _ (by decide)
  have b1 : M % 2305843009213693921 < 2305843009213693921 := Int.emod_lt_of_pos _ (by decide)
  have mm := mB_ev (g := gMod) (mC1_ev (a := mVar 4) (e := [d, .p (nInt place), .p (.int cell), .p (.int W), .p (.int M)]) (h := h) (x := .p (.int M)) (h1 := h) rfl (r_intI _ _)) (mC_ev (.int 2305843009213693921) _ _) (g_mod (by decide) _)
  have b2 : (M % 2305843009213693921).toNat < 2 ^ 61 := by
    have : 2 ^ 61 = 2305843009213693952 := by decide
    omega
  have fin : (mLst (aCons (mVar 3) (aCons (mB gMod (mCall gInt (aCons (mVar 4) aNil)) (mC (.int 2305843009213693921))) (aCons (mC (.int 0)) aNil)))) [d, .p (nInt place), .p (.int cell), .p (.int W), .p (.int M)] h = some (.loc h.length, h ++ [.lst [.p (nInt W.toNat), .p (nInt (M % 2305843009213693921).toNat), .p (nInt 0)]]) := by
    rw [← nat_abs_form W0, ← nat_abs_form b0]
    exact mLst_ev (aC_ev rfl (aC_ev mm (aC_ev (mC_ev (.int 0) _ _) (aN_ev _ _)))) (by simp)
  refine ⟨.lst [.p (nInt W.toNat), .p (nInt (M % 2305843009213693921).toNat), .p (nInt 0)], ⟨_, _, _, rfl, b2, Nat.le_refl _⟩, ?_⟩
  refine runF_l [d, .p (nInt place), .und, .und, .und] [.lst [.p (nInt W.toNat), .p (nInt (M % 2305843009213693921).toNat), .p (nInt 0)]] (n := h.length) ?_ (Nat.le_refl _) (by simp) (by simp [moB, mvsB, mvB])
  unfold b__law_pot
  rw [bSeq_nx s1, bSeq_nx s2, bSeq_nx s3, retOf_sRet, fin]
end Wk
set_option Elab.async false
set_option linter.all false
set_option maxRecDepth 100000
set_option maxHeartbeats 1000000
set_option autoImplicit false
namespace Wk
open PySem PySem.Spec L2 MX
theorem len_lst {h : Hq} {d : Mv} {ds : List Mv} (e : lstOf h d = some ds) : gLen [d] h = some (.p (.int ds.length), h) := by
  have : seqOf h d = some ds := by
    unfold seqOf
    rw [e, lstOf_tup e]
  simp [gLen, this]
theorem e_of (n m : Nat) (h : Hq) (o : Mo) (B : Nat) (xs : List Nat) (ho : h[n]? = some o) (hm : h[m]? = some (.lst (xs.map fun x => .p (nInt x)))) (nm : m ≠ n) (hp : PotV B o) (hB : B ≤ 2 ^ 40) (hx : 0 < xs.length) (hx2 : xs.length < 2 ^ 20) :
    ∃ x ∈ xs, ∃ o', PotV (B + 1) o' ∧ F__law_of [.loc n, .loc m] h = some (.p (nInt x), h.set n o') := by
  obtain ⟨v, o', h1, h2, h3⟩ := e_take n h o B xs.length ho hp hB hx hx2
  refine ⟨xs[v], List.getElem_mem h1, o', h2, ?_⟩
  have hl : lstOf h (.loc m) = some (xs.map fun x => .p (nInt x)) := by simp only [lstOf, hm]
  have hm' : (h.set n o')[m]? = some (.lst (xs.map fun x => .p (nInt x))) := by
    rw [List.getElem?_set_ne (Ne.symm nm), hm]
  have hl' : lstOf (h.set n o') (.loc m) = some (xs.map fun x => .p (nInt x)) := by simp only [lstOf, hm']
  have ix := ixL (i := v) (x := .p (nInt xs[v])) hl' (by rw [List.getElem?_map, List.getElem?_eq_getElem h1]; rfl)
  have gl := len_lst hl
  rw [List.length_map] at gl
  refine runF_set [.loc n, .loc m] [] (n := n) (o := o') ?_ (h2.mo _)
  unfold b__law_of
  rw [retOf_sRet, List.append_nil]
  exact mB_ev (mVar 1 |> fun _ => rfl) (mC2_ev rfl (mC1_ev rfl gl) h3) ix
theorem of_in {h : Hq} {n : Nat} (g : Hq) (o : Mo) (B : Nat) (hn : n < h.length) (hp : PotV B o) (hB : B ≤ 2 ^ 40) {e : En} {ma : MA} (xs : List Nat) (hx : 0 < xs.length) (hx2 : xs.length < 2 ^ 20)
    (hm : ma e (h.set n o ++ g) = some (xs.map fun x => .p (nInt x), h.set n o ++ g)) (h0 : mVar 0 e (h.set n o ++ g) = some (.loc n, h.set n o ++ g)) :
    ∃ x ∈ xs, ∃ o', PotV (B + 1) o' ∧ mGc (mCall F__law_of (aCons (mVar 0) (aCons (mLst ma) aNil))) e (h.set n o ++ g) = some (.p (nInt x), h.set n o' ++ g) := by
  have ln : n < (h.set n o ++ g).length := by simp; omega
  have hz : xs.length ≤ sizeLine := by rw [sizeLine_eq]; omega
  obtain ⟨x, hx, o', h1, h2⟩ := e_of n (h.set n o ++ g).length ((h.set n o ++ g) ++ [.lst (xs.map fun x => .p (nInt x))]) o B xs (by rw [List.getElem?_append_left ln]; exact get_set hn o) (by simp) (by omega) hp hB hx hx2
  refine ⟨x, hx, o', h1, mGc_ev (mC2_ev h0 (mLst_ev hm (by simpa using hz)) h2) ?_⟩
  rw [set_app ln, gc_set (h1.mo _), set_ap2 hn]
theorem e_weights (n : Nat) (h : Hq) (o : Mo) (B m u : Nat) (ho : h[n]? = some o) (hp : PotV B o) (hB : B + m ≤ 2 ^ 40) (hm : m < 2 ^ 20) (hu : 0 < u) (hu2 : u < 2 ^ 20) :
    ∃ ws o', ws.length = m ∧ (∀ w ∈ ws, w < u) ∧ PotV (B + m) o' ∧ F__law_weights [.loc n, .p (nInt m), .p (nInt u)] h = some (.p (lot ws), h.set n o') := by
  have hn : n < h.length := (List.getElem?_eq_some_iff.mp ho).1
  obtain ⟨ys, o', ⟨ws, e1, e2, e3⟩, l1, p1, q⟩ := lc_pot (t := .nm 3) (tt := tYesM) (te := mCall F__law_take (aCons (mVar 0) (aCons (mVar 2) aNil))) (vs := [3]) (e := [.loc n, .p (nInt m), .p (nInt u), .und]) (h := h) (n := n) (m := m) (c := 1) (args := aCons (mVar 1) aNil)
    (fun k acc => ∃ ws : List Nat, acc = ws.map (fun x => .p (nInt x)) ∧ ws.length = k ∧ ∀ w ∈ ws, w < u) rfl hm ho hp ⟨[], rfl, rfl, fun _ z => by cases z⟩ (by rw [sizeLine_eq]; omega)
    (fun k hk acc o1 g ⟨ws, e1, e2, e3⟩ p1 => by
      obtain ⟨v, o2, h1, h2, h3⟩ := take_in g o1 (B + k * 1) u hn p1 (by omega) hu hu2
      refine ⟨[.loc n, .p (nInt m), .p (nInt u), .p (nInt k)], rfl, .inr ⟨o1, .p (nInt v), o2, rfl, mC2_ev rfl rfl h3, h2.mono (by omega), ws ++ [v], by rw [e1, List.map_append]; rfl, by simp [e2], fun w hw => ?_⟩⟩
      rcases List.mem_append.mp hw with hw | hw
      · exact e3 w hw
      · rw [List.mem_singleton.mp hw]; exact h1)
  subst e1
  refine ⟨ws, o', e2, e3, p1.mono (by omega), ?_⟩
  refine runF_set [.loc n, .p (nInt m), .p (nInt u), .und] [] (n := n) (o := o') ?_ (p1.mo _)
  unfold b__law_weights
  rw [retOf_sRet, List.append_nil]
  have hl : lstOf (h.set n o' ++ [.lst (ws.map fun x => .p (nInt x))]) (.loc h.length) = some ((ws.map nInt).map Mv.p) := by
    have := lst_last (h.set n o') (ws.map fun x => .p (nInt x))
    rw [List.length_set] at this
    rw [this, List.map_map]
    rfl
  refine mGc_ev (mC1_ev q (tuple_lst hl)) ?_
  rw [gc_set (p1.mo _)]
/-- all lots -/
def lotsL (xs : List Nat) : List (List Nat) := xs.foldl (fun acc x => acc ++ acc.map (· ++ [x])) [[]]
theorem lotsL_len : ∀ (xs : List Nat) (acc : List (List Nat)), (xs.foldl (fun acc x => acc ++ acc.map (· ++ [x])) acc).length = acc.length * 2 ^ xs.length
  | [], acc => by simp
  | x :: xs, acc => by
    rw [List.foldl_cons, lotsL_len xs, List.length_append, List.length_map, List.length_cons, Nat.pow_succ]
    rw [← Nat.mul_two, Nat.mul_assoc, Nat.mul_comm 2]
theorem e_lots (n : Nat) (h : Hq) (xs : List Nat) (hx : xs.length ≤ 9) (hl : lstOf h (.loc n) = some (xs.map fun x => .p (nInt x))) :
    F__law_lots [.loc n] h = some (.loc h.length, h ++ [.lst ((lotsL xs).map fun l => .p (lot l))]) := by
  have mv : ∀ (ls : List (List Nat)) (k : Nat), mvsB k (ls.map fun l => .p (lot l)) = true := fun ls k => mvsB_all fun d hd => by
    obtain ⟨x, _, rfl⟩ := List.mem_map.mp hd
    exact ⟨_, rfl⟩
  have s1 : sAsg (mLst (aCons (mTup aNil) aNil)) (.nm 1) [.loc n, .und, .und, .und] h = some (.nx, [.loc n, .loc h.length, .und, .und], h ++ [.lst [.p (lot [])]]) := sAsg_ev (mLst_ev (aC_ev (mTup_ev (aN_ev _ _) (by simp)) (aN_ev _ _)) (by simp)) (by simp)
  have src : SrcR (sSeq (mVar 0)) [.loc n, .loc h.length, .und, .und] (h ++ [.lst [.p (lot [])]]) (xs.map fun x => .p (nInt x)) (h ++ [.lst [.p (lot [])]]) (SLst (.loc n) (xs.map fun x => .p (nInt x))) := src_lst rfl (lstOf_app hl)
  have F := for_inv (t := .nm 2) (b := sExp (mGc (mMet gExtend (mVar 1) (aCons (mGc (mLc (sSeq (mCall gList (aCons (mVar 1) aNil))) (.nm 3) tYesM (mB gAdd (mVar 3) (mTup (aCons (mVar 2) aNil))) [3])) aNil))))
    (fun i e hh => ∃ z z2, e = [.loc n, .loc h.length, z, z2] ∧ hh = h ++ [.lst ((lotsL (xs.take i)).map fun l => .p (lot l))])
    xs (fun x => .p (nInt x)) src (fun i e hh ⟨_, _, _, e2⟩ => by rw [e2]; exact lstOf_app hl) ⟨_, _, rfl, rfl⟩ (fun i hi e hh ⟨z, z2, e1, e2⟩ => by
      subst e1; subst e2
      generalize hA : lotsL (xs.take i) = A
      have lA : A.length ≤ 512 := by
        rw [← hA]
        unfold lotsL
        rw [lotsL_len, List.length_cons, List.length_nil, Nat.zero_add, Nat.one_mul]
        exact Nat.le_trans (Nat.pow_le_pow_right (by decide) (show (xs.take i).length ≤ 9 by rw [List.length_take]; omega)) (by decide)
      have hz : A.length ≤ sizeLine := by rw [sizeLine_eq]; omega
      refine ⟨[.loc n, .loc h.length, .p (nInt xs[i]), z2], [.loc n, .loc h.length, .p (nInt xs[i]), z2], h ++ [.lst ((A ++ A.map (· ++ [xs[i]])).map fun l => .p (lot l))], rfl, ?_, _, _, rfl, ?_⟩
      · have c1 : mCall gList (aCons (mVar 1) aNil) [.loc n, .loc h.length, .p (nInt xs[i]), z2] (h ++ [.lst (A.map fun l => .p (lot l))]) = some (.loc (h ++ [Mo.lst (A.map fun l => .p (lot l))]).length, (h ++ [.lst (A.map fun l => .p (lot l))]) ++ [.lst (A.map fun l => .p (lot l))]) := by
          refine mC1_ev (x := .loc h.length) (h1 := h ++ [.lst (A.map fun l => .p (lot l))]) rfl ?_
          have := lst_last h (A.map fun l => .p (lot l))
          have s2 : seqOf (h ++ [.lst (A.map fun l => .p (lot l))]) (.loc h.length) = some (A.map fun l => .p (lot l)) := by
            unfold seqOf
            rw [this, lstOf_tup this]
          simp only [gList, s2, Option.map_some]
        have q : EvN (mLc (sSeq (mCall gList (aCons (mVar 1) aNil))) (.nm 3) tYesM (mB gAdd (mVar 3) (mTup (aCons (mVar 2) aNil))) [3]) [.loc n, .loc h.length, .p (nInt xs[i]), z2] (h ++ [.lst (A.map fun l => .p (lot l))]) (A.map fun l => .p (lot (l ++ [xs[i]]))) := by
          refine lc_lst A (fun l => .p (lot l)) (fun l => .p (lot (l ++ [xs[i]]))) c1 (lst_last _ _) hz fun l hlA g' => ⟨[.loc n, .loc h.length, .p (nInt xs[i]), .p (lot l)], rfl, ?_⟩
          have ll : l.length ≤ 100 := by
            have gen : ∀ (ys : List Nat) (acc : List (List Nat)) (k : Nat), (∀ l ∈ acc, l.length ≤ k) → ∀ l ∈ ys.foldl (fun acc x => acc ++ acc.map (· ++ [x])) acc, l.length ≤ k + ys.length := by
              intro ys
              induction ys with
              | nil => intro acc k h l hl; exact h l hl
              | cons y ys ih =>
                intro acc k h l hl
                have := ih _ (k + 1) (fun l hl => by
                  rcases List.mem_append.mp hl with hl | hl
                  · have := h l hl; omega
                  · obtain ⟨l', hl', rfl⟩ := List.mem_map.mp hl
                    have := h l' hl'
                    simp; omega) l hl
                simp; omega
            have := gen (xs.take i) [[]] 0 (by simp) l (by rw [← hA] at hlA; exact hlA)
            rw [List.length_take] at this
            omega
          refine mB_ev (x := .p (lot l)) (y := .p (lot [xs[i]])) (h1 := (h ++ [.lst (A.map fun l => .p (lot l))]) ++ g') (h2 := (h ++ [.lst (A.map fun l => .p (lot l))]) ++ g') rfl (by
            have := mTup_ev (aC_ev (a := mVar 2) (e := [.loc n, .loc h.length, .p (nInt xs[i]), .p (lot l)]) (h := (h ++ [.lst (A.map fun l => .p (lot l))]) ++ g') (x := .p (nInt xs[i])) rfl (aN_ev _ _)) (by simp)
            rw [r_mk1] at this
            exact this) ?_
          rw [r_addT, if_pos (by rw [sizeLine_eq]; simp; omega)]
          simp [lot]
        have q2 := q.gcp
        have qq : (A.map fun l => Mv.p (lot (l ++ [xs[i]]))) = (A.map (· ++ [xs[i]])).map fun l => .p (lot l) := by rw [List.map_map]; rfl
        rw [r_exp]
        have met : mGc (mMet gExtend (mVar 1) (aCons (mGc (mLc (sSeq (mCall gList (aCons (mVar 1) aNil))) (.nm 3) tYesM (mB gAdd (mVar 3) (mTup (aCons (mVar 2) aNil))) [3])) aNil)) [.loc n, .loc h.length, .p (nInt xs[i]), z2] (h ++ [.lst (A.map fun l => .p (lot l))]) = some (.p .none, h ++ [.lst ((A ++ A.map (· ++ [xs[i]])).map fun l => .p (lot l))]) := by
          have g1 := q.gc (by
            have := mv (A.map (· ++ [xs[i]])) (h ++ [Mo.lst (A.map fun l => .p (lot l))]).length
            rw [← qq] at this
            exact this)
          refine mGc_ev (d := .p .none) (h1 := (h ++ [Mo.lst (A.map fun l => .p (lot l))]).set h.length (.lst ((A ++ A.map (· ++ [xs[i]])).map fun l => .p (lot l))) ++ [.lst (A.map fun l => .p (lot (l ++ [xs[i]])))]) ?_ ?_
          · rw [r_met]
            have v1 : mVar 1 [.loc n, .loc h.length, .p (nInt xs[i]), z2] (h ++ [.lst (A.map fun l => .p (lot l))]) = some (.loc h.length, h ++ [.lst (A.map fun l => .p (lot l))]) := rfl
            rw [v1]
            simp only [Option.bind_some, r_lstLast, Option.isSome_some, if_true]
            rw [aC_ev g1 (aN_ev _ _)]
            simp only [Option.bind_some]
            have e1 : ((h ++ [.lst (A.map fun l => .p (lot l))]) ++ [.lst (A.map fun l => .p (lot (l ++ [xs[i]])))])[h.length]? = some (.lst (A.map fun l => .p (lot l))) := by
              rw [List.getElem?_append_left (by simp)]
              simp
            have e2 : ((h ++ [.lst (A.map fun l => .p (lot l))]) ++ [.lst (A.map fun l => .p (lot (l ++ [xs[i]])))])[(h ++ [Mo.lst (A.map fun l => .p (lot l))]).length]? = some (.lst (A.map fun l => .p (lot (l ++ [xs[i]])))) := by simp
            simp only [gExtend, e1, e2]
            rw [if_pos (by rw [List.length_map, List.length_map, sizeLine_eq]; omega), set_app (by simp), List.map_append, qq]
          · rw [gc_set (by simp only [moB]; exact mv _ _)]
            rw [List.set_append_right _ _ (Nat.le_refl _)]
            simp
        rw [met]
        rfl
      · have : lotsL (xs.take (i + 1)) = A ++ A.map (· ++ [xs[i]]) := by
          rw [← hA]
          unfold lotsL
          rw [List.take_add_one, List.getElem?_eq_getElem hi, Option.toList_some, List.foldl_append]
          rfl
        rw [this])
  obtain ⟨e', h', s2, z, z2, rfl, rfl⟩ := F
  rw [List.take_length] at s2
  refine runF_l [.loc n, .und, .und, .und] [.lst ((lotsL xs).map fun l => .p (lot l))] (n := h.length) ?_ (Nat.le_refl _) (by simp) (by simp only [moB]; exact mv _ _)
  unfold b__law_lots
  rw [bSeq_nx s1, bSeq_nx s2, retOf_sRet]
  rfl
end Wk
set_option Elab.async false
set_option linter.all false
set_option maxRecDepth 100000
set_option maxHeartbeats 1000000
set_option autoImplicit false
namespace Wk
open PySem PySem.Spec L2 MX
theorem pl_r (m : Nat) : (rgL 0 (m : Int)).map Mv.int = (List.range m).map fun i => .p (nInt i) := by
    rw [rgL_nat, List.map_map]; rfl
theorem pl_m (k : Nat) : ∃ m : Nat, m ≤ 2 ∧ (if (if (k : Int) < ((2 : Nat) : Int) then (k : Int) else ((2 : Nat) : Int)) > 1 then (if (k : Int) < ((2 : Nat) : Int) then (k : Int) else ((2 : Nat) : Int)) else 1) = (m : Int) := by
  by_cases c : k = 2 ∨ 2 < k
  · refine ⟨2, by decide, ?_⟩
    rw [if_neg (show ¬ ((k : Int) < ((2 : Nat) : Int)) by omega)]
    rfl
  · refine ⟨1, by decide, ?_⟩
    rw [if_pos (show ((k : Int) < ((2 : Nat) : Int)) by omega), if_neg (show ¬ ((k : Int) > 1) by omega)]
    rfl
theorem mLR1_ev {a : ME} {e : En} {h h1 : Hq} {n : Int} (ha : a e h = some (.p (.int n), h1)) (hb : rgB 0 n = true) : mLR1 a e h = some (.loc h1.length, h1 ++ [.lst ((rgL 0 n).map Mv.int)]) := by
  unfold mLR1; rw [ha]; simp only [Option.bind_some]; rw [if_pos hb]
theorem mLR1_nat {a : ME} {e : En} {h h1 : Hq} {n : Nat} (ha : a e h = some (.p (nInt n), h1)) (hb : n ≤ 1000) : mLR1 a e h = some (.loc h1.length, h1 ++ [.lst ((List.range n).map fun i => .p (nInt i))]) := by
  rw [mLR1_ev ha (by unfold rgB; rw [decide_eq_true_iff]; omega), pl_r]
theorem e_places (ns : List Int) (d : Mv) (h : Hq) (hd : lstOf h d = some (ns.map Mv.int)) (hdu : d ≠ .und) :
    ∃ m, m ≤ 2 ∧ F__law_places [d, .p (nInt 2)] h = some (.loc h.length, h ++ [.lst ((List.range m).map fun i => .p (nInt i))]) := by
  have v0 : mVar 0 [d, .p (nInt 2)] h = some (d, h) := by
    cases d <;> first | rfl | exact absurd rfl hdu
  obtain ⟨m, h2, em⟩ := pl_m (ns.map Mv.int).length
  have hm : (mCall gMax2 (aCons (mC (.int 1)) (aCons (mCall gMin2 (aCons (mVar 1) (aCons (mCall gLen (aCons (mVar 0) aNil)) aNil))) aNil))) [d, .p (nInt 2)] h = some (.p (nInt m), h) := by
    have v1 : mVar 1 [d, .p (nInt 2)] h = some (.p (nInt 2), h) := rfl
    have z := mC2_ev (gA := gMax2) (mC_ev (.int 1) _ _) (mC2_ev (gA := gMin2) v1 (mC1_ev v0 (len_lst hd)) (r_min2 _ _ _)) (r_max2 _ _ _)
    rw [z, em]
  refine ⟨m, h2, ?_⟩
  refine runF_l [d, .p (nInt 2)] [.lst ((List.range m).map fun i => .p (nInt i))] (n := h.length) ?_ (Nat.le_refl _) (by simp) (by
    simp only [moB]
    exact mvsB_all fun d hd => by
      obtain ⟨x, _, rfl⟩ := List.mem_map.mp hd
      exact ⟨_, rfl⟩)
  unfold b__law_places
  rw [retOf_sRet]
  exact mLR1_nat hm (by omega)
end Wk
set_option Elab.async false
set_option linter.all false
set_option maxRecDepth 100000
set_option maxHeartbeats 1000000
set_option autoImplicit false
namespace Wk
open PySem PySem.Spec L2 MX
theorem lex_iff (a b : List Int) : a < b ↔ HT.lexLt a b = true := by
  induction a generalizing b with
  | nil => cases b <;> simp [HT.lexLt]
  | cons x a ih => cases b with
    | nil => simp [HT.lexLt]
    | cons y b =>
      rw [List.cons_lt_cons_iff]
      simp only [HT.lexLt, ih]
      by_cases h : x = y
      · subst h; simp
      · simp [h]
/-! ### sorted(set(..)) of lots -/
def srtN (ls : List (List Nat)) : List (List Nat) := (srtU (ls.map zsN)).map fun k => k.map Int.toNat
theorem zs_back (l : List Nat) : (zsN l).map Int.toNat = l := by
  unfold zsN
  rw [List.map_map]
  have : (Int.toNat ∘ fun x : Nat => (x : Int)) = id := by funext x; simp
  rw [this, List.map_id]
theorem srtN_zs (ls : List (List Nat)) : (srtN ls).map zsN = srtU (ls.map zsN) := by
  unfold srtN
  rw [List.map_map]
  refine (List.map_congr_left fun k hk => ?_).trans (List.map_id _)
  obtain ⟨l, _, rfl⟩ := List.mem_map.mp (mem_srtU.mp hk)
  show zsN ((zsN l).map Int.toNat) = _
  rw [zs_back]; rfl
theorem mem_srtN {ls : List (List Nat)} {l : List Nat} : l ∈ srtN ls ↔ l ∈ ls := by
  constructor
  · intro h
    have : zsN l ∈ srtU (ls.map zsN) := by rw [← srtN_zs]; exact List.mem_map.mpr ⟨l, h, rfl⟩
    obtain ⟨m, hm, e⟩ := List.mem_map.mp (mem_srtU.mp this)
    rw [← zs_back l, ← e, zs_back]; exact hm
  · intro h
    have : zsN l ∈ (srtN ls).map zsN := by rw [srtN_zs]; exact mem_srtU.mpr (List.mem_map.mpr ⟨l, h, rfl⟩)
    obtain ⟨m, hm, e⟩ := List.mem_map.mp this
    rw [← zs_back l, ← e, zs_back]; exact hm
theorem srtN_lt (ls : List (List Nat)) : (srtN ls).Pairwise fun a b => zsN a < zsN b := by
  have h1 := srtU_sorted (ls.map zsN)
  have h2 := srtU_nodup (ls.map zsN)
  rw [← srtN_zs] at h1 h2
  have h3 := List.pairwise_map.mp h1
  have h4 := List.pairwise_map.mp h2
  have := h3.and h4
  exact this.imp fun ⟨a, b⟩ => (List.le_iff_lt_or_eq.mp a).resolve_right b
theorem rise_pw {α : Type} {r : α → α → Bool} : ∀ {l : List α}, l.Pairwise (fun a b => r a b = true) → rise r l = true
  | [], _ => rfl
  | [x], _ => rfl
  | x :: y :: l, h => by
    rw [List.pairwise_cons] at h
    have ih := rise_pw h.2
    unfold rise at ih ⊢
    simp only [List.tail_cons, List.zip_cons_cons, List.all_cons] at ih ⊢
    rw [h.1 y (by simp)]
    simpa using ih
theorem ris_sub {ls ms : List (List Nat)} (h : ms.Sublist (srtN ls)) : rise ltL ms = true := rise_pw (((srtN_lt ls).sublist h).imp fun q => (lex_iff _ _).mp q)
theorem srt_ev (ls : List (List Nat)) : (srtU (ls.map zsN)).map tupI = (srtN ls).map fun l => .p (lot l) := by
  rw [← srtN_zs, List.map_map]
  refine List.map_congr_left fun l _ => ?_
  show tupI (zsN l) = _
  unfold tupI zsN
  rw [List.map_map]; rfl
theorem srtN_len (ls : List (List Nat)) : (srtN ls).length ≤ ls.length := by
  unfold srtN srtU
  rw [List.length_map, List.length_mergeSort]
  have : ∀ xs : List (List Int), (ded xs).length ≤ xs.length := fun xs => by
    induction xs with
    | nil => exact Nat.le_refl _
    | cons x xs ih =>
      unfold ded
      split
      · simp; omega
      · simp; omega
  have := this (ls.map zsN)
  rw [List.length_map] at this
  exact this
theorem mSortSet_ev {a : ME} {e : En} {h h1 : Hq} {d : Mv} {ls : List (List Nat)} (ha : a e h = some (d, h1)) (hl : lstOf h1 d = some (ls.map fun l => .p (lot l))) (hz : ls.length < 64) :
    mSortSet a e h = some (.loc h1.length, h1 ++ [.lst ((srtN ls).map fun l => .p (lot l))]) := by
  have e1 : intTs (ls.map fun l => .p (lot l)) = some (ls.map zsN) := by
    have : (ls.map fun l => Mv.p (lot l)) = (ls.map zsN).map tupI := by
      rw [List.map_map]
      refine List.map_congr_left fun l _ => ?_
      show _ = tupI (zsN l)
      unfold tupI zsN
      rw [List.map_map]; rfl
    rw [this, intTs_map]
  unfold mSortSet
  rw [ha]
  simp only [Option.bind_some, hl, e1]
  rw [if_pos (by rw [List.length_map]; exact hz), srt_ev]
/-! ### ranks -/
def isFree (fulls : List (List Nat)) (l : List Nat) : Bool := fulls.any fun f => l.all fun x => decide (x ∈ f)
theorem filter_le {f l : List Nat} (hf : f.Nodup) : (f.filter fun x => decide (x ∈ l)).length ≤ l.length :=
  List.Nodup.length_le_of_subset (List.Pairwise.filter _ hf) fun x hx => by simpa using (List.mem_filter.mp hx).2
theorem filter_all {f l : List Nat} (hf : f.Nodup) (hl : l.Nodup) : (f.filter fun x => decide (x ∈ l)).length = l.length ↔ ∀ x ∈ l, x ∈ f := by
  constructor
  · intro h x hx
    apply Classical.byContradiction
    intro nx
    have : (f.filter fun x => decide (x ∈ l)).length ≤ (l.erase x).length := List.Nodup.length_le_of_subset (List.Pairwise.filter _ hf) fun y hy => by
      have := List.mem_filter.mp hy
      exact (List.mem_erase_of_ne (show y ≠ x from fun e => nx (e ▸ this.1))).mpr (by simpa using this.2)
    rw [List.length_erase_of_mem hx] at this
    have := List.length_pos_of_mem hx
    omega
  · intro h
    refine Nat.le_antisymm (filter_le hf) (hl.length_le_of_subset fun x hx => List.mem_filter.mpr ⟨h x hx, by simpa using hx⟩)
theorem e_rank (m : Pd) (fulls : List (List Nat)) (l : List Nat) (h : Hq) (ne : fulls ≠ []) (hz : fulls.length ≤ sizeLine) (hf : ∀ f ∈ fulls, f.length ≤ sizeLine) :
    F__law_rank [.p (.tuple [m, .tuple (fulls.map lot)]), .p (lot l)] h = some (.p (.int (maxL (fulls.map fun f => (((f.filter fun x => decide (x ∈ l)).length : Nat) : Int)))), h) := by
  have q : EvN (mLc (sSeq (mB gIx (mVar 0) (mC (.int 1)))) (.nm 2) tYesM (mGc (mCall gLen (aCons (mLc (sSeq (mVar 2)) (.nm 3) (mBo (mB (gIn false) (mVar 3) (mVar 1))) (mVar 3) [3]) aNil))) [2]) [.p (.tuple [m, .tuple (fulls.map lot)]), .p (lot l), .und, .und] h
      (fulls.map fun f => .p (.int (((f.filter fun x => decide (x ∈ l)).length : Nat) : Int))) := by
    refine lc_tup fulls lot (fun f => .p (.int (((f.filter fun x => decide (x ∈ l)).length : Nat) : Int))) (by simp) hz fun f hfm g' => ⟨[.p (.tuple [m, .tuple (fulls.map lot)]), .p (lot l), .p (lot f), .und], rfl, ?_⟩
    have q2 : EvN (mLc (sSeq (mVar 2)) (.nm 3) (mBo (mB (gIn false) (mVar 3) (mVar 1))) (mVar 3) [3]) [.p (.tuple [m, .tuple (fulls.map lot)]), .p (lot l), .p (lot f), .und] (h ++ g') ((f.filter fun x => decide (x ∈ l)).map fun x => .p (nInt x)) := by
      refine lc_tupF f nInt (fun x => .p (nInt x)) _ rfl (hf f hfm) fun x hx g2 => ⟨[.p (.tuple [m, .tuple (fulls.map lot)]), .p (lot l), .p (lot f), .p (nInt x)], rfl, ?_, fun _ => rfl⟩
      exact r_bo _ _ _ (mB_ev (a := mVar 3) (b := mVar 1) (x := .p (nInt x)) (y := .p (lot l)) (h1 := h ++ g' ++ g2) (h2 := h ++ g' ++ g2) rfl rfl (in_lot x l _))
    have := q2.len
    rw [List.length_map] at this
    exact this
  refine runF_r [.p (.tuple [m, .tuple (fulls.map lot)]), .p (lot l), .und, .und] ?_
  unfold b__law_rank
  rw [retOf_sRet]
  exact q.ext (f := maxL) (q := PySem.W.maxD) ne
theorem e_is_free (m : Pd) (fulls : List (List Nat)) (l : List Nat) (h : Hq) (ne : fulls ≠ []) (hz : fulls.length ≤ sizeLine) (hf : ∀ f ∈ fulls, f.length ≤ sizeLine) (hn : ∀ f ∈ fulls, f.Nodup) (hl : l.Nodup) :
    F__law_is_free [.p (.tuple [m, .tuple (fulls.map lot)]), .p (lot l)] h = some (.p (.bool (isFree fulls l)), h) := by
  have e1 := e_rank m fulls l h ne hz hf
  have e2 : decide (maxL (fulls.map fun f => (((f.filter fun x => decide (x ∈ l)).length : Nat) : Int)) = (l.length : Int)) = isFree fulls l := by
    obtain ⟨m1, m2⟩ := maxL_spec (ns := fulls.map fun f => (((f.filter fun x => decide (x ∈ l)).length : Nat) : Int)) (by simpa using ne)
    rw [Bool.eq_iff_iff, decide_eq_true_iff]
    unfold isFree
    rw [List.any_eq_true]
    constructor
    · intro h
      obtain ⟨f, hf, e⟩ := List.mem_map.mp m1
      refine ⟨f, hf, List.all_eq_true.mpr fun x hx => decide_eq_true ?_⟩
      rw [h] at e
      exact (filter_all (hn f hf) hl).mp (by omega) x hx
    · rintro ⟨f, hf, ha⟩
      have h1 := (filter_all (hn f hf) hl).mpr fun x hx => of_decide_eq_true (List.all_eq_true.mp ha x hx)
      have h2 := m2 _ (List.mem_map.mpr ⟨f, hf, rfl⟩)
      obtain ⟨f', hf', e⟩ := List.mem_map.mp m1
      have h3 := filter_le (l := l) (hn f' hf')
      omega
  refine runF_r [.p (.tuple [m, .tuple (fulls.map lot)]), .p (lot l)] ?_
  unfold b__law_is_free
  rw [retOf_sRet]
  refine mB_ev (mC2_ev rfl rfl e1) (mC1_ev rfl (r_lenT _ _)) ?_
  rw [List.length_map, eq_int, e2]
/-- the greatest of some lots -/
def mostN (ls : List (List Nat)) : Int := maxL (ls.map fun l => ((l.length : Nat) : Int))
def bestL (ls : List (List Nat)) : List (List Nat) := srtN (ls.filter fun l => decide (((l.length : Nat) : Int) = mostN ls))
theorem e_best_of (m : Pd) (n : Nat) (ls : List (List Nat)) (h : Hq) (hl : lstOf h (.loc n) = some (ls.map fun l => .p (lot l))) (ne : ls ≠ []) (hz : (ls.filter fun l => decide (((l.length : Nat) : Int) = mostN ls)).length < 64) (hz2 : ls.length ≤ sizeLine) :
    F__law_best_of [.p m, .loc n] h = some (.p (.tuple [m, .tuple ((bestL ls).map lot)]), h) := by
  have q : EvN (mLc (sSeq (mVar 1)) (.nm 3) tYesM (mCall gLen (aCons (mVar 3) aNil)) [3]) [.p m, .loc n, .und, .und] h (ls.map fun l => .p (.int ((l.length : Nat) : Int))) := by
    refine lc_lst (g := []) ls (fun l => .p (lot l)) (fun l => .p (.int ((l.length : Nat) : Int))) (d := .loc n) (by simp) (by rw [List.append_nil]; exact hl) hz2 fun l hl g' => ⟨[.p m, .loc n, .und, .p (lot l)], rfl, ?_⟩
    have := mC1_ev (a := mVar 3) (e := [.p m, .loc n, .und, .p (lot l)]) (h := h ++ g') (x := .p (lot l)) (h1 := h ++ g') rfl (r_lenT _ (l.map nInt))
    rw [this, List.length_map]
  have q1 := q.ext (f := maxL) (q := PySem.W.maxD) ne
  have s1 := sAsg_ev (i := 2) q1 (by simp)
  have q2 : EvN (mLc (sSeq (mVar 1)) (.nm 3) (mBo (mB gEq (mCall gLen (aCons (mVar 3) aNil)) (mVar 2))) (mVar 3) [3]) [.p m, .loc n, .p (.int (mostN ls)), .und] h ((ls.filter fun l => decide (((l.length : Nat) : Int) = mostN ls)).map fun l => .p (lot l)) := by
    refine lc_lstF (g := []) ls (fun l => .p (lot l)) (fun l => .p (lot l)) _ (d := .loc n) (by simp) (by rw [List.append_nil]; exact hl) hz2 fun l hl g' => ⟨[.p m, .loc n, .p (.int (mostN ls)), .p (lot l)], rfl, ?_, fun _ => rfl⟩
    have := mC1_ev (a := mVar 3) (e := [.p m, .loc n, .p (.int (mostN ls)), .p (lot l)]) (h := h ++ g') (x := .p (lot l)) (h1 := h ++ g') rfl (r_lenT _ (l.map nInt))
    rw [List.length_map] at this
    exact r_bo _ _ _ (mB_ev this (b := mVar 2) (y := .p (.int (mostN ls))) (h2 := h ++ g') rfl (eq_int _ _ _))
  obtain ⟨n2, g2, e1, e2, _⟩ := q2
  have l2 : lstOf (h ++ g2) (.loc n2) = some ((ls.filter fun l => decide (((l.length : Nat) : Int) = mostN ls)).map fun l => .p (lot l)) := by simp only [lstOf, e2]
  have e3 := mSortSet_ev e1 l2 hz
  have l3 : lstOf (h ++ g2 ++ [.lst ((bestL ls).map fun l => .p (lot l))]) (.loc (h ++ g2).length) = some (((bestL ls).map lot).map Mv.p) := by
    rw [lst_last, List.map_map]; rfl
  refine runF_r [.p m, .loc n, .und, .und] ?_
  unfold b__law_best_of
  rw [bSeq_nx s1, retOf_sRet]
  have e4 := mGc_ev (mC1_ev e3 (tuple_lst l3)) (show gc h _ _ = (_, h) by
    rw [List.append_assoc]
    exact gc_p h _ _)
  exact mTup_ev (aC_ev (a := mVar 0) (x := .p m) (h1 := h) rfl (aC_ev e4 (aN_ev _ _))) (by simp)
end Wk
set_option Elab.async false
set_option linter.all false
set_option maxRecDepth 100000
set_option maxHeartbeats 1000000
set_option autoImplicit false
namespace Wk
open PySem PySem.Spec L2 MX
def sub (l o : List Nat) : Bool := l.all fun x => decide (x ∈ o)
/-- those within no other one -/
def topsL (ls : List (List Nat)) : List (List Nat) := (srtN ls).filter fun l => !((srtN ls).any fun o => !decide (l = o) && sub l o)
theorem mv_lots (ls : List (List Nat)) (k : Nat) : mvsB k (ls.map fun l => .p (lot l)) = true := mvsB_all fun d hd => by
  obtain ⟨x, _, rfl⟩ := List.mem_map.mp hd
  exact ⟨_, rfl⟩
theorem lot_inj {a b : List Nat} : lot a = lot b ↔ a = b := by
  constructor
  · intro h
    have h1 := PyData.tuple.inj h
    have := congrArg (List.map fun x : Pd => match x with | .int i => i.toNat | _ => 0) h1
    rw [List.map_map, List.map_map] at this
    simpa [Function.comp_def, nInt] using this
  · rintro rfl; rfl
theorem plns_ints (l : List Nat) (n : Nat) : plns n (l.map nInt) = true := by
  induction l with
  | nil => cases n <;> rfl
  | cons x l ih => cases n <;> simp [plns, pln, ih]
theorem pln_lot (l : List Nat) : pln 60 (lot l) = true := by
  show plns 59 (l.map nInt) = true
  exact plns_ints l 59
theorem ne_lot (a b : List Nat) (h : Hq) : gNe (.p (lot a)) (.p (lot b)) h = some (.p (.bool !(decide (a = b))), h) := ne_pln (pln_lot a) (pln_lot b) _ (by rw [decide_eq_true_iff, lot_inj]) h
theorem e_tops (n : Nat) (h : Hq) (ls : List (List Nat)) (hl : lstOf h (.loc n) = some (ls.map fun l => .p (lot l))) (hz : ls.length < 64) (hz2 : ∀ l ∈ ls, l.length ≤ sizeLine) :
    F__law_tops [.loc n] h = some (.p (.tuple ((topsL ls).map lot)), h) := by
  have nl := srtN_len ls
  have zS : (srtN ls).length ≤ sizeLine := by rw [sizeLine_eq]; omega
  let H1 : Hq := h ++ [.lst ((srtN ls).map fun l => .p (lot l))]
  have s1 : sAsg (mSortSet (mVar 0)) (.nm 1) [.loc n, .und, .und, .und, .und, .und] h = some (.nx, [.loc n, .loc h.length, .und, .und, .und, .und], H1) := sAsg_ev (mSortSet_ev (a := mVar 0) (d := .loc n) (h1 := h) rfl hl hz) (by simp)
  have s2 : sAsg (mLst aNil) (.nm 2) [.loc n, .loc h.length, .und, .und, .und, .und] H1 = some (.nx, [.loc n, .loc h.length, .loc H1.length, .und, .und, .und], H1 ++ [.lst []]) := sAsg_ev (mLst_ev (aN_ev _ _) (by simp)) (by simp)
  have lS : ∀ g, lstOf (H1 ++ g) (.loc h.length) = some ((srtN ls).map fun l => .p (lot l)) := fun g => lstOf_app (lst_last h _)
  have src : SrcR (sSeq (mVar 1)) [.loc n, .loc h.length, .loc H1.length, .und, .und, .und] (H1 ++ [.lst []]) ((srtN ls).map fun l => .p (lot l)) (H1 ++ [.lst []]) (SLst (.loc h.length) ((srtN ls).map fun l => .p (lot l))) := src_lst rfl (lS _)
  have F := for_inv (t := .nm 3) (b := sIf (tNotM (tTru (mGc (mCall gAny (aCons (mLc (sSeq (mVar 1)) (.nm 4) tYesM (mAnd (mB gNe (mVar 3) (mVar 4)) (mGc (mCall gAll (aCons (mLc (sSeq (mVar 3)) (.nm 5) tYesM (mB (gIn false) (mVar 5) (mVar 4)) [5]) aNil)))) [4]) aNil))))) (sExp (mMet gAppend (mVar 2) (aCons (mVar 3) aNil))) bNil)
    (fun i e hh => ∃ z z2 z3, e = [.loc n, .loc h.length, .loc H1.length, z, z2, z3] ∧ hh = H1 ++ [.lst ((((srtN ls).take i).filter fun l => !((srtN ls).any fun o => !decide (l = o) && sub l o)).map fun l => .p (lot l))])
    (srtN ls) (fun l => .p (lot l)) src (fun i e hh ⟨_, _, _, _, e2⟩ => by rw [e2]; exact lS _) ⟨_, _, _, rfl, rfl⟩ (fun i hi e hh ⟨z, z2, z3, e1, e2⟩ => by
      subst e1; subst e2
      have ht : (srtN ls).take (i + 1) = (srtN ls).take i ++ [(srtN ls)[i]] := by rw [List.take_add_one, List.getElem?_eq_getElem hi]; rfl
      have hlen : (srtN ls)[i].length ≤ sizeLine := hz2 _ (mem_srtN.mp (List.getElem_mem hi))
      have accl : (((srtN ls).take i).filter fun l => !((srtN ls).any fun o => !decide (l = o) && sub l o)).length ≤ 64 := by
        have := List.length_filter_le (fun l => !((srtN ls).any fun o => !decide (l = o) && sub l o)) ((srtN ls).take i)
        rw [List.length_take] at this
        omega
      rw [ht, List.filter_append]
      generalize hA : (((srtN ls).take i).filter fun l => !((srtN ls).any fun o => !decide (l = o) && sub l o)) = A at accl
      generalize (srtN ls)[i] = l at hlen
      have q : EvN (mLc (sSeq (mVar 1)) (.nm 4) tYesM (mAnd (mB gNe (mVar 3) (mVar 4)) (mGc (mCall gAll (aCons (mLc (sSeq (mVar 3)) (.nm 5) tYesM (mB (gIn false) (mVar 5) (mVar 4)) [5]) aNil)))) [4]) [.loc n, .loc h.length, .loc H1.length, .p (lot l), z2, z3] (H1 ++ [.lst (A.map fun l => .p (lot l))])
          ((srtN ls).map fun o => .p (.bool (!decide (l = o) && sub l o))) := by
        refine lc_lst (g := []) (srtN ls) (fun l => .p (lot l)) (fun o => .p (.bool (!decide (l = o) && sub l o))) (d := .loc h.length) (by simp) (by rw [List.append_nil]; exact lS _) zS fun o ho g' => ⟨[.loc n, .loc h.length, .loc H1.length, .p (lot l), .p (lot o), z3], rfl, ?_⟩
        rw [r_and _ _ _ _ (mB_ev (a := mVar 3) (b := mVar 4) (x := .p (lot l)) (y := .p (lot o)) (h1 := H1 ++ [.lst (A.map fun l => .p (lot l))] ++ g') (h2 := H1 ++ [.lst (A.map fun l => .p (lot l))] ++ g') rfl rfl (ne_lot l o _))]
        have q3 : EvN (mLc (sSeq (mVar 3)) (.nm 5) tYesM (mB (gIn false) (mVar 5) (mVar 4)) [5]) [.loc n, .loc h.length, .loc H1.length, .p (lot l), .p (lot o), z3] (H1 ++ [.lst (A.map fun l => .p (lot l))] ++ g') (l.map fun x => .p (.bool (decide (x ∈ o)))) :=
          lc_tup l nInt (fun x => .p (.bool (decide (x ∈ o)))) rfl hlen fun x hx g2 => ⟨[.loc n, .loc h.length, .loc H1.length, .p (lot l), .p (lot o), .p (nInt x)], rfl, mB_ev (a := mVar 5) (b := mVar 4) (x := .p (nInt x)) (y := .p (lot o)) (h1 := H1 ++ [.lst (A.map fun l => .p (lot l))] ++ g' ++ g2) (h2 := H1 ++ [.lst (A.map fun l => .p (lot l))] ++ g' ++ g2) rfl rfl (in_lot x o _)⟩
        rw [q3.all]
        cases decide (l = o) <;> simp [sub]
      have q2 := q.any
      have lg := lst_last H1 (A.map fun l => Mv.p (lot l))
      cases hk : (srtN ls).any fun o => !decide (l = o) && sub l o with
      | true =>
        rw [hk] at q2
        refine ⟨[.loc n, .loc h.length, .loc H1.length, .p (lot l), z2, z3], _, _, rfl, (sIf_f (h1 := H1 ++ [.lst (A.map fun l => .p (lot l))]) ?_).trans (r_bnil _ _), .p (lot l), z2, z3, rfl, ?_⟩
        · rw [r_tnot, r_tru, q2]; rfl
        · simp [hk]
      | false =>
        rw [hk] at q2
        refine ⟨[.loc n, .loc h.length, .loc H1.length, .p (lot l), z2, z3], [.loc n, .loc h.length, .loc H1.length, .p (lot l), z2, z3], H1 ++ [.lst ((A ++ [l]).map fun l => .p (lot l))], rfl, (sIf_t (h1 := H1 ++ [.lst (A.map fun l => .p (lot l))]) ?_).trans ?_, .p (lot l), z2, z3, rfl, ?_⟩
        · rw [r_tnot, r_tru, q2]; rfl
        · rw [r_exp, r_met]
          have v2 : mVar 2 [.loc n, .loc h.length, .loc H1.length, .p (lot l), z2, z3] (H1 ++ [.lst (A.map fun l => .p (lot l))]) = some (.loc H1.length, H1 ++ [.lst (A.map fun l => .p (lot l))]) := rfl
          rw [v2]
          simp only [Option.bind_some, lg, Option.isSome_some, if_true]
          rw [aC_ev (a := mVar 3) (x := .p (lot l)) (h1 := H1 ++ [.lst (A.map fun l => .p (lot l))]) rfl (aN_ev _ _)]
          simp only [Option.bind_some, r_appLast, List.length_map]
          rw [if_pos (by rw [sizeLine_eq]; omega), List.map_append]
          rfl
        · simp [hk])
  obtain ⟨e', h', s3, z, z2, z3, rfl, rfl⟩ := F
  rw [List.take_length] at s3
  have lf : lstOf (H1 ++ [.lst (((srtN ls).filter fun l => !((srtN ls).any fun o => !decide (l = o) && sub l o)).map fun l => .p (lot l))]) (.loc H1.length) = some (((topsL ls).map lot).map Mv.p) := by
    rw [lst_last, List.map_map]; rfl
  refine runF_rg [.loc n, .und, .und, .und, .und, .und] ([.lst ((srtN ls).map fun l => .p (lot l))] ++ [.lst (((srtN ls).filter fun l => !((srtN ls).any fun o => !decide (l = o) && sub l o)).map fun l => .p (lot l))]) ?_
  unfold b__law_tops
  rw [bSeq_nx s1, bSeq_nx s2, bSeq_nx s3, retOf_sRet]
  have := mC1_ev (a := mVar 2) (e := [.loc n, .loc h.length, .loc H1.length, z, z2, z3]) (h := H1 ++ [.lst (((srtN ls).filter fun l => !((srtN ls).any fun o => !decide (l = o) && sub l o)).map fun l => .p (lot l))]) (h1 := H1 ++ [.lst (((srtN ls).filter fun l => !((srtN ls).any fun o => !decide (l = o) && sub l o)).map fun l => .p (lot l))]) rfl (tuple_lst lf)
  rw [this, ← List.append_assoc]
theorem mem_tops {ls : List (List Nat)} {l : List Nat} : l ∈ topsL ls ↔ l ∈ ls ∧ ∀ o ∈ ls, (∀ x ∈ l, x ∈ o) → l = o := by
  unfold topsL
  rw [List.mem_filter, mem_srtN]
  simp only [Bool.not_eq_true', List.any_eq_false, mem_srtN, Bool.and_eq_true, not_and, Bool.not_eq_true, decide_eq_false_iff_not, sub, List.all_eq_true, decide_eq_true_eq]
  exact and_congr_right fun _ => ⟨fun h o ho hs => Classical.byContradiction fun ne => h o ho ne hs, fun h o ho ne hs => ne (h o ho hs)⟩
/-- each lot lies in a top -/
theorem in_top {ls : List (List Nat)} {m : Nat} (hn : ∀ l ∈ ls, Lot m l) : ∀ (k : Nat) {l : List Nat}, l ∈ ls → m - l.length ≤ k → ∃ t ∈ topsL ls, ∀ x ∈ l, x ∈ t
  | k, l, hl, hk => by
    by_cases h : l ∈ topsL ls
    · exact ⟨l, h, fun x hx => hx⟩
    · rw [mem_tops] at h
      have : ∃ o ∈ ls, (∀ x ∈ l, x ∈ o) ∧ l ≠ o := by
        apply Classical.byContradiction
        intro no
        exact h ⟨hl, fun o ho hs => Classical.byContradiction fun ne => no ⟨o, ho, hs, ne⟩⟩
      obtain ⟨o, ho, hs, ne⟩ := this
      have l1 : l.length < o.length := by
        refine Nat.lt_of_not_le fun c => ne ?_
        have p : l.Perm o := by
          refine (List.perm_ext_iff_of_nodup (hn l hl).nodup (hn o ho).nodup).mpr fun x => ⟨hs x, fun hx => ?_⟩
          apply Classical.byContradiction
          intro nx
          have : l.length ≤ (o.erase x).length := List.Nodup.length_le_of_subset (hn l hl).nodup fun y hy => (List.mem_erase_of_ne (show y ≠ x from fun e => nx (e ▸ hy))).mpr (hs y hy)
          rw [List.length_erase_of_mem hx] at this
          have := List.length_pos_of_mem hx
          omega
        exact p.eq_of_pairwise (le := (· < ·)) (fun a b _ _ h1 h2 => absurd h1 (Nat.lt_asymm h2)) (hn l hl).1 (hn o ho).1
      have l2 := (hn o ho).len
      match k with
      | 0 => omega
      | k + 1 =>
        obtain ⟨t, ht, hst⟩ := in_top hn k ho (by omega)
        exact ⟨t, ht, fun x hx => hst x (hs x hx)⟩
theorem sub_mask {a b : List Nat} (ha : a.Nodup) (hb : b.Nodup) (h : dif (mask a) (mask b) = 0) : ∀ x ∈ a, x ∈ b := fun x hx => by
  have := dif_bit (mask b) x (mask a)
  rw [h, mask_bit ha, mask_bit hb] at this
  simpa [hx] using this
theorem tops_heap {ls : List (List Nat)} {m : Nat} (hm : m ≤ 9) (hn : ∀ l ∈ ls, Lot m l) (ne : ls ≠ []) (hz : ls.length < 64) : HeapOk m (topsL ls) ∧ Anti (topsL ls) := by
  have hs : (topsL ls).Sublist (srtN ls) := List.filter_sublist
  refine ⟨⟨hm, fun l hl => hn l (mem_tops.mp hl).1, ris_sub hs, ?_, ?_⟩, ?_⟩
  · obtain ⟨l, hl⟩ := List.exists_mem_of_ne_nil _ ne
    obtain ⟨t, ht, _⟩ := in_top hn _ hl (Nat.le_refl _)
    exact List.ne_nil_of_mem ht
  · have := hs.length_le
    have := srtN_len ls
    rw [sizeLine_eq]; omega
  · unfold Anti
    have p : (topsL ls).Pairwise (· ≠ ·) := ((srtN_lt ls).sublist hs).imp fun {a b} h e => by
      subst e; exact List.lt_irrefl _ h
    refine List.pairwise_iff_forall_sublist.mpr fun {a b} hab => ?_
    have ab := List.pairwise_iff_forall_sublist.mp p hab
    have ha : a ∈ topsL ls := hab.subset (by simp)
    have hb : b ∈ topsL ls := hab.subset (by simp)
    have na := (hn a (mem_tops.mp ha).1).nodup
    have nb := (hn b (mem_tops.mp hb).1).nodup
    exact ⟨fun z => ab ((mem_tops.mp ha).2 b (mem_tops.mp hb).1 (sub_mask na nb z)), fun z => ab ((mem_tops.mp hb).2 a (mem_tops.mp ha).1 (sub_mask nb na z)).symm⟩
/-- what of the tops lies within a lot -/
def grownL (ls : List (List Nat)) (s : List Nat) : List (List Nat) := topsL (ls.map fun t => t.filter fun x => decide (x ∈ s))
theorem e_grown (m : Pd) (ls : List (List Nat)) (s : List Nat) (h : Hq) (hz : ls.length < 64) (hz2 : ∀ l ∈ ls, l.length ≤ sizeLine) :
    F__law_grown [.p (.tuple [m, .tuple (ls.map lot)]), .p (lot s)] h = some (.p (.tuple ((grownL ls s).map lot)), h) := by
  have s1 : sAsg (mLst aNil) (.nm 2) [.p (.tuple [m, .tuple (ls.map lot)]), .p (lot s), .und, .und, .und] h = some (.nx, [.p (.tuple [m, .tuple (ls.map lot)]), .p (lot s), .loc h.length, .und, .und], h ++ [.lst []]) := sAsg_ev (mLst_ev (aN_ev _ _) (by simp)) (by simp)
  have src : SrcR (sSeq (mB gIx (mVar 0) (mC (.int 1)))) [.p (.tuple [m, .tuple (ls.map lot)]), .p (lot s), .loc h.length, .und, .und] (h ++ [.lst []]) (ls.map fun l => .p (lot l)) (h ++ [.lst []]) SAny := by
    have := src_p (ma := mB gIx (mVar 0) (mC (.int 1))) (e := [.p (.tuple [m, .tuple (ls.map lot)]), .p (lot s), .loc h.length, .und, .und]) (h := h ++ [.lst []]) (h1 := h ++ [.lst []]) (xs := ls.map lot) (by simp)
    rw [List.map_map] at this
    exact this
  have F := for_inv (t := .nm 3) (b := sExp (mMet gAppend (mVar 2) (aCons (mGc (mCall gTuple (aCons (mLc (sSeq (mVar 3)) (.nm 4) (mBo (mB (gIn false) (mVar 4) (mVar 1))) (mVar 4) [4]) aNil))) aNil)))
    (fun i e hh => ∃ z z2, e = [.p (.tuple [m, .tuple (ls.map lot)]), .p (lot s), .loc h.length, z, z2] ∧ hh = h ++ [.lst (((ls.take i).map fun t => t.filter fun x => decide (x ∈ s)).map fun l => .p (lot l))])
    ls (fun l => .p (lot l)) src (fun _ _ _ _ => trivial) ⟨_, _, rfl, rfl⟩ (fun i hi e hh ⟨z, z2, e1, e2⟩ => by
      subst e1; subst e2
      have ht : ls.take (i + 1) = ls.take i ++ [ls[i]] := by rw [List.take_add_one, List.getElem?_eq_getElem hi]; rfl
      have hlen : ls[i].length ≤ sizeLine := hz2 _ (List.getElem_mem hi)
      have accl : ((ls.take i).map fun t => t.filter fun x => decide (x ∈ s)).length < sizeLine := by
        rw [List.length_map, List.length_take, sizeLine_eq]; omega
      rw [ht, List.map_append]
      generalize ((ls.take i).map fun t => t.filter fun x => decide (x ∈ s)) = A at accl
      generalize ls[i] = t at hlen
      have q : EvN (mLc (sSeq (mVar 3)) (.nm 4) (mBo (mB (gIn false) (mVar 4) (mVar 1))) (mVar 4) [4]) [.p (.tuple [m, .tuple (ls.map lot)]), .p (lot s), .loc h.length, .p (lot t), z2] (h ++ [.lst (A.map fun l => .p (lot l))]) ((t.filter fun x => decide (x ∈ s)).map fun x => .p (nInt x)) := by
        refine lc_tupF t nInt (fun x => .p (nInt x)) _ rfl hlen fun x hx g2 => ⟨[.p (.tuple [m, .tuple (ls.map lot)]), .p (lot s), .loc h.length, .p (lot t), .p (nInt x)], rfl, ?_, fun _ => rfl⟩
        exact r_bo _ _ _ (mB_ev (a := mVar 4) (b := mVar 1) (x := .p (nInt x)) (y := .p (lot s)) (h1 := h ++ [.lst (A.map fun l => .p (lot l))] ++ g2) (h2 := h ++ [.lst (A.map fun l => .p (lot l))] ++ g2) rfl rfl (in_lot x s _))
      refine ⟨[.p (.tuple [m, .tuple (ls.map lot)]), .p (lot s), .loc h.length, .p (lot t), z2], [.p (.tuple [m, .tuple (ls.map lot)]), .p (lot s), .loc h.length, .p (lot t), z2], h ++ [.lst ((A ++ [t.filter fun x => decide (x ∈ s)]).map fun l => .p (lot l))], rfl, ?_, .p (lot t), z2, rfl, by simp⟩
      rw [r_exp, r_met]
      have v2 : mVar 2 [.p (.tuple [m, .tuple (ls.map lot)]), .p (lot s), .loc h.length, .p (lot t), z2] (h ++ [.lst (A.map fun l => .p (lot l))]) = some (.loc h.length, h ++ [.lst (A.map fun l => .p (lot l))]) := rfl
      rw [v2]
      simp only [Option.bind_some, r_lstLast, Option.isSome_some, if_true]
      rw [aC_ev q.tup (aN_ev _ _)]
      simp only [Option.bind_some, r_appLast, List.length_map]
      rw [if_pos accl, List.map_append]
      rfl)
  obtain ⟨e', h', s2, z, z2, rfl, rfl⟩ := F
  rw [List.take_length] at s2
  have et := e_tops h.length (h ++ [.lst ((ls.map fun t => t.filter fun x => decide (x ∈ s)).map fun l => .p (lot l))]) (ls.map fun t => t.filter fun x => decide (x ∈ s)) (lst_last _ _) (by rw [List.length_map]; exact hz) fun l hl => by
    obtain ⟨t, ht, rfl⟩ := List.mem_map.mp hl
    exact Nat.le_trans (List.length_filter_le _ _) (hz2 t ht)
  refine runF_rg [.p (.tuple [m, .tuple (ls.map lot)]), .p (lot s), .und, .und, .und] [.lst ((ls.map fun t => t.filter fun x => decide (x ∈ s)).map fun l => .p (lot l))] ?_
  unfold b__law_grown
  rw [bSeq_nx s1, bSeq_nx s2, retOf_sRet]
  exact mC1_ev (a := mVar 2) (x := .loc h.length) rfl et
end Wk
set_option Elab.async false
set_option linter.all false
set_option maxRecDepth 100000
set_option maxHeartbeats 1000000
set_option autoImplicit false
namespace Wk
open PySem PySem.Spec L2 MX
def kl (l : List Nat) : Pd := .tuple [.int ((l.length : Nat) : Int), lot l]
theorem alike_lot (a b : List Nat) : PySem.W.alike (lot a) (lot b) = true := by
  simp only [lot, PySem.W.alike]
  induction a generalizing b with
  | nil => simp [PySem.W.alikeAll]
  | cons x a ih => cases b with
    | nil => simp [PySem.W.alikeAll]
    | cons y b => simp [PySem.W.alikeAll, PySem.W.alike, ih]
theorem kl_lt (a b : List Nat) : (PySem.W.dataLt (kl a) (kl b) = true → a.length ≤ b.length) ∧ (PySem.W.dataLt (kl a) (kl b) = false → b.length ≤ a.length) := by
  have e := PySem.W.dataLt_pair (x := .int ((a.length : Nat) : Int)) (x' := .int ((b.length : Nat) : Int)) (y := lot a) (y' := lot b) (by simp [PySem.W.alike]) (alike_lot a b)
  unfold kl
  rw [e, PySem.W.dataLt_int]
  have : PyData.eqv (.int ((a.length : Nat) : Int)) (.int ((b.length : Nat) : Int)) = decide (a.length = b.length) := by
    rw [Bool.eq_iff_iff]
    simp [PyData.eqv]
    omega
  rw [this]
  by_cases h : a.length = b.length
  · rw [if_pos (decide_eq_true h)]
    constructor <;> intro _ <;> omega
  · rw [if_neg (by simpa using h)]
    simp only [decide_eq_true_iff, decide_eq_false_iff_not]
    constructor <;> intro _ <;> omega
theorem minD_kl : ∀ (rest : List (List Nat)) (one : List Nat), ∃ l ∈ one :: rest, PySem.W.minD (kl one) (rest.map kl) = kl l ∧ ∀ o ∈ one :: rest, l.length ≤ o.length
  | [], one => ⟨one, by simp, rfl, fun o ho => by rw [List.mem_singleton.mp ho]; exact Nat.le_refl _⟩
  | b :: rest, one => by
    have q := kl_lt b one
    have e : PySem.W.minD (kl one) ((b :: rest).map kl) = PySem.W.minD (if PySem.W.dataLt (kl b) (kl one) = true then kl b else kl one) (rest.map kl) := rfl
    cases h : PySem.W.dataLt (kl b) (kl one) with
    | true =>
      obtain ⟨l, hl, h1, h2⟩ := minD_kl rest b
      refine ⟨l, List.mem_cons_of_mem _ hl, by rw [e, h]; exact h1, fun o ho => ?_⟩
      rcases List.mem_cons.mp ho with rfl | ho
      · exact Nat.le_trans (h2 b (by simp)) (q.1 h)
      · exact h2 o ho
    | false =>
      obtain ⟨l, hl, h1, h2⟩ := minD_kl rest one
      refine ⟨l, ?_, by rw [e, h]; exact h1, fun o ho => ?_⟩
      · rcases List.mem_cons.mp hl with rfl | hl
        · simp
        · exact List.mem_cons_of_mem _ (List.mem_cons_of_mem _ hl)
      · rcases List.mem_cons.mp ho with rfl | ho
        · exact h2 o (by simp)
        · rcases List.mem_cons.mp ho with rfl | ho
          · exact Nat.le_trans (h2 one (by simp)) (q.2 h)
          · exact h2 o (List.mem_cons_of_mem _ ho)
theorem gMin_kl {h : Hq} {d : Mv} (one : List Nat) (rest : List (List Nat)) (hl : lstOf h d = some ((one :: rest).map fun l => .p (kl l))) : ∃ l ∈ one :: rest, gMin1X [d] h = some (.p (kl l), h) ∧ ∀ o ∈ one :: rest, l.length ≤ o.length := by
  obtain ⟨l, h1, h2, h3⟩ := minD_kl rest one
  refine ⟨l, h1, ?_, h3⟩
  have e1 : intsM ((one :: rest).map fun l => .p (kl l)) = none := rfl
  have e2 : allP ((one :: rest).map fun l => .p (kl l)) = some ((one :: rest).map kl) := by
    have := allP_map ((one :: rest).map kl)
    rw [List.map_map] at this
    exact this
  have e3 : alikeB (kl one :: rest.map kl) = true := by
    unfold alikeB
    rw [List.all_eq_true]
    intro x hx
    rw [← List.map_cons] at hx
    obtain ⟨a, _, rfl⟩ := List.mem_map.mp hx
    rw [Bool.and_eq_true]
    refine ⟨rfl, List.all_eq_true.mpr fun y hy => ?_⟩
    rw [← List.map_cons] at hy
    obtain ⟨b, _, rfl⟩ := List.mem_map.mp hy
    have := alike_lot a b
    simp [kl, PySem.W.alike, PySem.W.alikeAll] at this ⊢
    exact this
  have e4 : PyData.depthAll (kl one :: rest.map kl) ≤ 60 := by
    have d0 : ∀ a : List Nat, PyData.depthAll (a.map nInt) ≤ 0 := fun a => by
      induction a with
      | nil => simp [PyData.depthAll]
      | cons x a ih => rw [List.map_cons, PyData.depthAll]; simp [PyData.depth]; omega
    have : ∀ l : List (List Nat), PyData.depthAll (l.map kl) ≤ 2 := by
      intro l
      induction l with
      | nil => simp [PyData.depthAll]
      | cons a l ih =>
        rw [List.map_cons, PyData.depthAll]
        have : (kl a).depth ≤ 2 := by
          have := d0 a
          simp [kl, PyData.depth, PyData.depthAll]
          omega
        omega
    have := this (one :: rest)
    rw [List.map_cons] at this
    omega
  show gExt minL PySem.W.minD [d] h = _
  unfold gExt
  rw [List.map_cons] at e1 e2
  simp only [hl, Option.bind_some, List.map_cons, e1, e2]
  rw [if_pos ⟨e3, e4⟩, h2]
structure ShInv (ls : List (List Nat)) (done : List (List Nat)) (few most : Nat) (small l : List Nat) : Prop where
  pos : 0 < most
  le : few ≤ most
  all : ∀ s ∈ done, ∀ a ∈ grownL ls s, ∀ b ∈ grownL ls s, few * b.length ≤ most * a.length
  at_ : few ≠ most → l ∈ done ∧ small ∈ grownL ls l ∧ small.length = few ∧ ∃ b ∈ grownL ls l, b.length = most
theorem sh_keep {ls done : List (List Nat)} {few most f m : Nat} {small l s : List Nat} (i : ShInv ls done few most small l) (hf : ∀ a ∈ grownL ls s, f ≤ a.length) (hm : ∀ a ∈ grownL ls s, a.length ≤ m) (h : ¬ f * most < few * m) : ShInv ls (done ++ [s]) few most small l := by
  refine ⟨i.pos, i.le, fun t ht a ha b hb => ?_, fun ne => ⟨List.mem_append_left _ (i.at_ ne).1, (i.at_ ne).2⟩⟩
  rcases List.mem_append.mp ht with ht | ht
  · exact i.all t ht a ha b hb
  · rw [List.mem_singleton.mp ht] at ha hb
    calc few * b.length ≤ few * m := Nat.mul_le_mul_left _ (hm b hb)
      _ ≤ f * most := Nat.le_of_not_lt h
      _ = most * f := Nat.mul_comm _ _
      _ ≤ most * a.length := Nat.mul_le_mul_left _ (hf a ha)
theorem sh_new {ls done : List (List Nat)} {few most f m : Nat} {small l s sm : List Nat} (i : ShInv ls done few most small l) (hf : ∀ a ∈ grownL ls s, f ≤ a.length) (hm : ∀ a ∈ grownL ls s, a.length ≤ m) (h : f * most < few * m)
    (h1 : sm ∈ grownL ls s) (h2 : sm.length = f) (h3 : ∃ b ∈ grownL ls s, b.length = m) : ShInv ls (done ++ [s]) f m sm s := by
  have m0 : 0 < m := Nat.pos_of_ne_zero fun z => by subst z; simp at h
  refine ⟨m0, ?_, fun t ht a ha b hb => ?_, fun _ => ⟨by simp, h1, h2, h3⟩⟩
  · rw [← h2]; exact hm sm h1
  · rcases List.mem_append.mp ht with ht | ht
    · have q := i.all t ht a ha b hb
      have p := i.pos
      refine Nat.le_of_mul_le_mul_right (c := most) ?_ p
      calc f * b.length * most = f * most * b.length := by rw [Nat.mul_right_comm]
        _ ≤ few * m * b.length := Nat.mul_le_mul_right _ (Nat.le_of_lt h)
        _ = m * (few * b.length) := by rw [Nat.mul_comm few m, Nat.mul_assoc]
        _ ≤ m * (most * a.length) := Nat.mul_le_mul_left _ q
        _ = m * a.length * most := by rw [Nat.mul_comm most, Nat.mul_assoc]
    · rw [List.mem_singleton.mp ht] at ha hb
      exact Nat.mul_le_mul (hf a ha) (hm b hb) |> fun q => by rw [Nat.mul_comm m]; exact q
theorem e_share (many : Nat) (ls : List (List Nat)) (h : Hq) (hm : many ≤ 9) (hz : ls.length < 64) (hl : ∀ l ∈ ls, Lot many l) (ne : ls ≠ []) :
    ∃ few most small l, ShInv ls (lotsL (List.range many)) few most small l ∧ few ≤ 9 ∧ most ≤ 9 ∧ F__law_share [.p (heapP many ls)] h = some (.p (.tuple [nInt few, nInt most, lot small, lot l]), h) := by
  have l10 : ∀ l ∈ ls, Lot 10 l := fun l h => (hl l h).mono (by omega)
  have zl : ∀ l ∈ ls, l.length ≤ sizeLine := fun l h => len10 (l10 l h)
  have gl : ∀ s, ∀ a ∈ grownL ls s, Lot many a := fun s a ha => by
    obtain ⟨t, ht, rfl⟩ := List.mem_map.mp (mem_tops.mp ha).1
    exact ⟨(hl t ht).1.filter _, fun x hx => (hl t ht).2 x (List.mem_filter.mp hx).1⟩
  have gne : ∀ s, grownL ls s ≠ [] := fun s => by
    obtain ⟨t, ht⟩ := List.exists_mem_of_ne_nil _ ne
    obtain ⟨u, hu, _⟩ := in_top (ls := ls.map fun t => t.filter fun x => decide (x ∈ s)) (m := many) (fun l hl' => by
      obtain ⟨t, ht, rfl⟩ := List.mem_map.mp hl'
      exact ⟨(hl t ht).1.filter _, fun x hx => (hl t ht).2 x (List.mem_filter.mp hx).1⟩) _ (List.mem_map.mpr ⟨t, ht, rfl⟩) (Nat.le_refl _)
    exact List.ne_nil_of_mem hu
  have glen : ∀ s, (grownL ls s).length < 64 := fun s => by
    have := (List.filter_sublist (p := fun l => !((srtN (ls.map fun t => t.filter fun x => decide (x ∈ s))).any fun o => !decide (l = o) && sub l o)) (l := srtN (ls.map fun t => t.filter fun x => decide (x ∈ s)))).length_le
    have h2 := srtN_len (ls.map fun t => t.filter fun x => decide (x ∈ s))
    rw [List.length_map] at h2
    show (topsL _).length < 64
    unfold topsL
    omega
  let T0 : Pd := .tuple [nInt 1, nInt 1, lot [], lot []]
  have s1 : sAsg (mTup (aCons (mC (.int 1)) (aCons (mC (.int 1)) (aCons (mTup aNil) (aCons (mTup aNil) aNil))))) (.nm 1) [.p (heapP many ls), .und, .und, .und, .und, .und, .und] h = some (.nx, [.p (heapP many ls), .p T0, .und, .und, .und, .und, .und], h) := by
    refine sAsg_ev (i := 1) ?_ (by simp)
    exact mTup_ev (aC_ev (mC_ev _ _ _) (aC_ev (mC_ev _ _ _) (aC_ev (mTup_ev (aN_ev _ _) (by simp)) (aC_ev (mTup_ev (aN_ev _ _) (by simp)) (aN_ev _ _))))) (by simp)
  let H1 : Hq := h ++ [.lst ((lotsL (List.range many)).map fun l => .p (lot l))]
  have lots_ev : mGc (mCall F__law_lots (aCons (mLR1 (mB gIx (mVar 0) (mC (.int 0)))) aNil)) [.p (heapP many ls), .p T0, .und, .und, .und, .und, .und] h = some (.loc h.length, H1) := by
    have a1 : (mB gIx (mVar 0) (mC (.int 0))) [.p (heapP many ls), .p T0, .und, .und, .und, .und, .und] h = some (.p (nInt many), h) := mB_ev (a := mVar 0) (x := .p (heapP many ls)) (h1 := h) rfl (mC_ev _ _ _) (ix0 _ _ _)
    have a2 := mLR1_nat a1 (by omega)
    have a3 := e_lots h.length (h ++ [.lst ((List.range many).map fun i => .p (nInt i))]) (List.range many) (by rw [List.length_range]; exact hm) (lst_last _ _)
    refine mGc_ev (mC1_ev a2 a3) ?_
    rw [List.append_assoc]
    exact gc_l (by simp) (by simp) (by simp only [moB]; exact mv_lots _ _)
  have src : SrcR (sSeq (mGc (mCall F__law_lots (aCons (mLR1 (mB gIx (mVar 0) (mC (.int 0)))) aNil)))) [.p (heapP many ls), .p T0, .und, .und, .und, .und, .und] h ((lotsL (List.range many)).map fun l => .p (lot l)) H1 (SLst (.loc h.length) ((lotsL (List.range many)).map fun l => .p (lot l))) := src_lst lots_ev (lst_last _ _)
  have F := for_inv (t := .nm 2) (b := (bSeq (sAsg (mCall F__law_grown (aCons (mVar 0) (aCons (mVar 2) aNil))) (.nm 3)) (bSeq (sPar (aCons (mGc (mCall gMin1X (aCons (mLc (sSeq (mVar 3)) (.nm 6) tYesM (mTup (aCons (mCall gLen (aCons (mVar 6) aNil)) (aCons (mVar 6) aNil))) [6]) aNil))) (aCons (mGc (mCall gMax1X (aCons (mLc (sSeq (mVar 3)) (.nm 6) tYesM (mCall gLen (aCons (mVar 6) aNil)) [6]) aNil))) aNil)) [4, 5]) (sIf (mBo (mB gLtA (mB gMul (mB gIx (mVar 4) (mC (.int 0))) (mB gIx (mVar 1) (mC (.int 1)))) (mB gMul (mB gIx (mVar 1) (mC (.int 0))) (mVar 5)))) (sAsg (mTup (aCons (mB gIx (mVar 4) (mC (.int 0))) (aCons (mVar 5) (aCons (mB gIx (mVar 4) (mC (.int 1))) (aCons (mVar 2) aNil))))) (.nm 1)) bNil))))
    (fun i e hh => hh = H1 ∧ ∃ few most small l z z2 z3 z4 z5, ShInv ls ((lotsL (List.range many)).take i) few most small l ∧ few ≤ 9 ∧ most ≤ 9 ∧ e = [.p (heapP many ls), .p (.tuple [nInt few, nInt most, lot small, lot l]), z, z2, z3, z4, z5])
    (lotsL (List.range many)) (fun l => .p (lot l)) src (fun i e hh p => by rw [p.1]; exact lst_last _ _)
    ⟨rfl, 1, 1, [], [], .und, .und, .und, .und, .und, ⟨by decide, by decide, fun s hs => by simp at hs, fun z => absurd rfl z⟩, by decide, by decide, rfl⟩
    (fun i hi e hh ⟨e1, few, most, small, l, z, z2, z3, z4, z5, inv, b1, b2, e2⟩ => by
      subst e1; subst e2
      have ht : (lotsL (List.range many)).take (i + 1) = (lotsL (List.range many)).take i ++ [(lotsL (List.range many))[i]] := by rw [List.take_add_one, List.getElem?_eq_getElem hi]; rfl
      rw [ht]
      generalize (lotsL (List.range many))[i] = s
      let B : Mv := .p (.tuple [nInt few, nInt most, lot small, lot l])
      let G : Mv := .p (.tuple ((grownL ls s).map lot))
      have c1 : sAsg (mCall F__law_grown (aCons (mVar 0) (aCons (mVar 2) aNil))) (.nm 3) [.p (heapP many ls), B, .p (lot s), z2, z3, z4, z5] H1 = some (.nx, [.p (heapP many ls), B, .p (lot s), G, z3, z4, z5], H1) :=
        sAsg_ev (mC2_ev (a := mVar 0) (b := mVar 2) (x := .p (heapP many ls)) (y := .p (lot s)) (h1 := H1) (h2 := H1) rfl rfl (e_grown (nInt many) ls s H1 hz zl)) (by simp)
      have zg : (grownL ls s).length ≤ sizeLine := by have := glen s; rw [sizeLine_eq]; omega
      have q1 : EvN (mLc (sSeq (mVar 3)) (.nm 6) tYesM (mTup (aCons (mCall gLen (aCons (mVar 6) aNil)) (aCons (mVar 6) aNil))) [6]) [.p (heapP many ls), B, .p (lot s), G, z3, z4, z5] H1 ((grownL ls s).map fun a => .p (kl a)) := by
        refine lc_tup (grownL ls s) lot (fun a => .p (kl a)) rfl zg fun a ha g' => ⟨[.p (heapP many ls), B, .p (lot s), G, z3, z4, .p (lot a)], rfl, ?_⟩
        have w1 := mC1_ev (a := mVar 6) (e := [.p (heapP many ls), B, .p (lot s), G, z3, z4, .p (lot a)]) (h := H1 ++ g') (x := .p (lot a)) (h1 := H1 ++ g') rfl (r_lenT _ (a.map nInt))
        have w2 := mTup_ev (aC_ev w1 (aC_ev (a := mVar 6) (e := [.p (heapP many ls), B, .p (lot s), G, z3, z4, .p (lot a)]) (h := H1 ++ g') (x := .p (lot a)) (h1 := H1 ++ g') rfl (aN_ev _ _))) (by simp)
        rw [w2, List.length_map]
        rfl
      have q2 : EvN (mLc (sSeq (mVar 3)) (.nm 6) tYesM (mCall gLen (aCons (mVar 6) aNil)) [6]) [.p (heapP many ls), B, .p (lot s), G, z3, z4, z5] H1 ((grownL ls s).map fun a => .p (.int ((a.length : Nat) : Int))) := by
        refine lc_tup (grownL ls s) lot (fun a => .p (.int ((a.length : Nat) : Int))) rfl zg fun a ha g' => ⟨[.p (heapP many ls), B, .p (lot s), G, z3, z4, .p (lot a)], rfl, ?_⟩
        have w1 := mC1_ev (a := mVar 6) (e := [.p (heapP many ls), B, .p (lot s), G, z3, z4, .p (lot a)]) (h := H1 ++ g') (x := .p (lot a)) (h1 := H1 ++ g') rfl (r_lenT _ (a.map nInt))
        rw [w1, List.length_map]
      obtain ⟨fl, hfl, hfm, hmn⟩ : ∃ fl ∈ grownL ls s, mGc (mCall gMin1X (aCons (mLc (sSeq (mVar 3)) (.nm 6) tYesM (mTup (aCons (mCall gLen (aCons (mVar 6) aNil)) (aCons (mVar 6) aNil))) [6]) aNil)) [.p (heapP many ls), B, .p (lot s), G, z3, z4, z5] H1 = some (.p (kl fl), H1) ∧ ∀ a ∈ grownL ls s, fl.length ≤ a.length := by
        obtain ⟨n, g, a1, a2, _⟩ := q1
        cases hg : grownL ls s with
        | nil => exact absurd hg (gne s)
        | cons one rest =>
          rw [hg] at a2
          obtain ⟨fl, w1, w2, w3⟩ := gMin_kl (h := H1 ++ g) (d := .loc n) one rest (by simp only [lstOf, a2])
          exact ⟨fl, w1, mGc_ev (mC1_ev a1 w2) (gc_p _ _ _), w3⟩
      obtain ⟨M, hM, hMx, bm⟩ : ∃ M : Nat, mGc (mCall gMax1X (aCons (mLc (sSeq (mVar 3)) (.nm 6) tYesM (mCall gLen (aCons (mVar 6) aNil)) [6]) aNil)) [.p (heapP many ls), B, .p (lot s), G, z3, z4, z5] H1 = some (.p (nInt M), H1) ∧ (∀ a ∈ grownL ls s, a.length ≤ M) ∧ ∃ b ∈ grownL ls s, b.length = M := by
        have w := q2.ext (f := maxL) (q := PySem.W.maxD) (gne s)
        obtain ⟨m1, m2⟩ := maxL_spec (ns := (grownL ls s).map fun a => ((a.length : Nat) : Int)) (by simpa using gne s)
        obtain ⟨b, hb, eb⟩ := List.mem_map.mp m1
        refine ⟨b.length, by rw [w, ← eb], fun a ha => ?_, b, hb, rfl⟩
        have := m2 _ (List.mem_map.mpr ⟨a, ha, rfl⟩)
        omega
      have c2 : sPar (aCons (mGc (mCall gMin1X (aCons (mLc (sSeq (mVar 3)) (.nm 6) tYesM (mTup (aCons (mCall gLen (aCons (mVar 6) aNil)) (aCons (mVar 6) aNil))) [6]) aNil))) (aCons (mGc (mCall gMax1X (aCons (mLc (sSeq (mVar 3)) (.nm 6) tYesM (mCall gLen (aCons (mVar 6) aNil)) [6]) aNil))) aNil)) [4, 5] [.p (heapP many ls), B, .p (lot s), G, z3, z4, z5] H1 = some (.nx, [.p (heapP many ls), B, .p (lot s), G, .p (kl fl), .p (nInt M), z5], H1) := by
        rw [r_par, aC_ev hfm (aC_ev hM (aN_ev _ _))]
        simp only [Option.bind_some]
        rw [if_pos (by simp)]
        rfl
      have fl9 : fl.length ≤ 9 := by have := (gl s fl hfl).len; omega
      have M9 : M ≤ 9 := by
        obtain ⟨b, hb, eb⟩ := bm
        have := (gl s b hb).len; omega
      have cm : ∀ {i j : Nat}, i ≤ 9 → cMulW (i : Int) (j : Int) = true := fun {i j} q => by
        have e64 : (2 : Int) ^ 64 = 18446744073709551616 := by decide
        have : cMul (i : Int) (j : Int) = true := decide_eq_true (.inl (by omega))
        simp only [cMulW, this, Bool.true_or]
      let E : En := [.p (heapP many ls), B, .p (lot s), G, .p (kl fl), .p (nInt M), z5]
      have v40 : (mB gIx (mVar 4) (mC (.int 0))) E H1 = some (.p (nInt fl.length), H1) := mB_ev (a := mVar 4) (x := .p (kl fl)) (h1 := H1) rfl (mC_ev _ _ _) (ix0 _ _ _)
      have v41 : (mB gIx (mVar 4) (mC (.int 1))) E H1 = some (.p (lot fl), H1) := mB_ev (a := mVar 4) (x := .p (kl fl)) (h1 := H1) rfl (mC_ev _ _ _) (ix1 _ _ _ _)
      have v10 : (mB gIx (mVar 1) (mC (.int 0))) E H1 = some (.p (nInt few), H1) := mB_ev (a := mVar 1) (x := B) (h1 := H1) rfl (mC_ev _ _ _) (ix0 _ _ _)
      have v11 : (mB gIx (mVar 1) (mC (.int 1))) E H1 = some (.p (nInt most), H1) := mB_ev (a := mVar 1) (x := B) (h1 := H1) rfl (mC_ev _ _ _) (ix1 _ _ _ _)
      have v5 : mVar 5 E H1 = some (.p (nInt M), H1) := rfl
      have v2 : mVar 2 E H1 = some (.p (lot s), H1) := rfl
      have t1 := mB_ev (mB_ev v40 v11 (g_mul (cm fl9) _)) (mB_ev v10 v5 (g_mul (cm b1) _)) (r_ltI _ _ _)
      have dk : decide ((fl.length : Int) * (most : Int) < (few : Int) * (M : Int)) = decide (fl.length * most < few * M) := by
        rw [← Int.natCast_mul, ← Int.natCast_mul]
        simp only [Int.ofNat_lt]
      rw [dk] at t1
      by_cases hk : fl.length * most < few * M
      · rw [decide_eq_true hk] at t1
        refine ⟨[.p (heapP many ls), B, .p (lot s), z2, z3, z4, z5], [.p (heapP many ls), .p (.tuple [nInt fl.length, nInt M, lot fl, lot s]), .p (lot s), G, .p (kl fl), .p (nInt M), z5], H1, rfl, ?_, rfl, fl.length, M, fl, s, .p (lot s), G, .p (kl fl), .p (nInt M), z5, sh_new inv hmn hMx hk hfl rfl bm, fl9, M9, rfl⟩
        rw [bSeq_nx c1, bSeq_nx c2, sIf_t (r_bo _ _ _ t1)]
        exact sAsg_ev (i := 1) (mTup_ev (aC_ev v40 (aC_ev v5 (aC_ev v41 (aC_ev v2 (aN_ev _ _))))) sl4) (show 1 < 7 by decide)
      · rw [decide_eq_false hk] at t1
        refine ⟨[.p (heapP many ls), B, .p (lot s), z2, z3, z4, z5], E, H1, rfl, ?_, rfl, few, most, small, l, .p (lot s), G, .p (kl fl), .p (nInt M), z5, sh_keep inv hmn hMx hk, b1, b2, rfl⟩
        rw [bSeq_nx c1, bSeq_nx c2, sIf_f (r_bo _ _ _ t1)]
        rfl)
  obtain ⟨e', h', s2, rfl, few, most, small, l, z, z2, z3, z4, z5, inv, b1, b2, rfl⟩ := F
  rw [List.take_length] at inv
  refine ⟨few, most, small, l, inv, b1, b2, ?_⟩
  refine runF_rg [.p (heapP many ls), .und, .und, .und, .und, .und, .und] [.lst ((lotsL (List.range many)).map fun l => .p (lot l))] ?_
  unfold b__law_share
  rw [bSeq_nx s1, bSeq_nx s2, retOf_sRet]
  rfl
end Wk
set_option Elab.async false
set_option linter.all false
set_option maxRecDepth 100000
set_option maxHeartbeats 1000000
set_option autoImplicit false
namespace Wk
open PySem PySem.Spec L2 MX
/-! ### rows: a list of lists -/
abbrev rowM (r : List Nat) : Mo := .lst (r.map fun x => .p (nInt x))
def RowsAt (hh : Hq) (n : Nat) (R : List (List Nat)) : Prop := ∃ ms : List Nat, hh[n]? = some (.lst (ms.map Mv.loc)) ∧ ms.length = R.length ∧ ∀ (k : Nat) (r : List Nat), R[k]? = some r → ∃ m, ms[k]? = some m ∧ m ≠ n ∧ hh[m]? = some (rowM r)
theorem get_app {hh g : Hq} {n : Nat} {o : Mo} (h : hh[n]? = some o) : (hh ++ g)[n]? = some o := by
  rw [List.getElem?_append_left (List.getElem?_eq_some_iff.mp h).1]; exact h
theorem RowsAt.app {hh : Hq} {n : Nat} {R : List (List Nat)} (r : RowsAt hh n R) (g : Hq) : RowsAt (hh ++ g) n R := by
  obtain ⟨ms, h1, h2, h3⟩ := r
  exact ⟨ms, get_app h1, h2, fun k r hr => let ⟨m, a, b, c⟩ := h3 k r hr; ⟨m, a, b, get_app c⟩⟩
theorem RowsAt.len {hh : Hq} {n : Nat} {R : List (List Nat)} (r : RowsAt hh n R) : gLen [.loc n] hh = some (.p (nInt R.length), hh) := by
  obtain ⟨ms, h1, h2, h3⟩ := r
  have := len_lst (h := hh) (d := .loc n) (ds := ms.map Mv.loc) (by simp only [lstOf, h1])
  rw [this, List.length_map, h2]
theorem RowsAt.row {hh : Hq} {n k : Nat} {R : List (List Nat)} (r : RowsAt hh n R) (hk : k < R.length) : ∃ m, m ≠ n ∧ gIx (.loc n) (.p (nInt k)) hh = some (.loc m, hh) ∧ hh[m]? = some (rowM (R.getD k [])) := by
  obtain ⟨ms, h1, h2, h3⟩ := r
  obtain ⟨m, a, b, c⟩ := h3 k R[k] (List.getElem?_eq_getElem hk)
  refine ⟨m, b, ixL (ds := ms.map Mv.loc) (by simp only [lstOf, h1]) (by rw [List.getElem?_map, a]; rfl), ?_⟩
  rw [List.getD_eq_getElem?_getD, List.getElem?_eq_getElem hk]
  exact c
def cellR (R : List (List Nat)) (x j : Nat) : Nat := (R.getD x []).getD j 0
theorem RowsAt.cell {hh : Hq} {n k j : Nat} {R : List (List Nat)} (r : RowsAt hh n R) (hk : k < R.length) (hj : j < (R.getD k []).length) : ∃ d, gIx (.loc n) (.p (nInt k)) hh = some (d, hh) ∧ gIx d (.p (nInt j)) hh = some (.p (nInt (cellR R k j)), hh) := by
  obtain ⟨m, h0, h1, h2⟩ := r.row hk
  refine ⟨_, h1, ixL (ds := (R.getD k []).map fun x => .p (nInt x)) (by simp only [lstOf, h2]) ?_⟩
  unfold cellR
  generalize R.getD k [] = r at hj
  rw [List.getElem?_map, List.getElem?_eq_getElem hj, List.getD_eq_getElem?_getD, List.getElem?_eq_getElem hj]
  rfl
theorem RowsAt.put {hh : Hq} {n k m : Nat} {R : List (List Nat)} {r : List Nat} (q : RowsAt hh n R) (hm : hh[m]? = some (rowM r)) (mn : m ≠ n) (hk : k < R.length) : ∃ o, gSet (.loc n) (.p (nInt k)) (.loc m) hh = some (hh.set n o) ∧ RowsAt (hh.set n o) n (R.set k r) := by
  obtain ⟨ms, h1, h2, h3⟩ := q
  have hn : n < hh.length := (List.getElem?_eq_some_iff.mp h1).1
  refine ⟨.lst ((ms.set k m).map Mv.loc), ?_, ms.set k m, List.getElem?_set_self hn, by simp [h2], fun j s hs => ?_⟩
  · have := set_lst (v := .loc m) h1 (j := k) (by rw [List.length_map, h2]; exact hk)
    rw [this, List.map_set]
  · by_cases e : k = j
    · subst e
      rw [List.getElem?_set_self hk] at hs
      cases hs
      exact ⟨m, List.getElem?_set_self (by omega), mn, by rw [List.getElem?_set_ne (Ne.symm mn)]; exact hm⟩
    · rw [List.getElem?_set_ne e] at hs
      obtain ⟨m', a, b, c⟩ := h3 j s hs
      exact ⟨m', by rw [List.getElem?_set_ne e]; exact a, b, by rw [List.getElem?_set_ne (Ne.symm b)]; exact c⟩
theorem allP_nat (r : List Nat) : allP (r.map fun x => Mv.p (nInt x)) = some (r.map nInt) := by
  have := allP_map (r.map nInt)
  rw [List.map_map] at this
  exact this
theorem dat1s_p (hh : Hq) (xs : List Pd) : dat1s hh (xs.map Mv.p) = some xs := by
  induction xs with
  | nil => rfl
  | cons x xs ih => rw [List.map_cons, dat1s, ih]; rfl
def rowsD (R : List (List Nat)) : Pd := .list (R.map fun r => .list (r.map nInt))
theorem RowsAt.dat {hh : Hq} {n : Nat} {R : List (List Nat)} (r : RowsAt hh n R) : datOf hh (.loc n) = some (rowsD R) := by
  obtain ⟨ms, h1, h2, h3⟩ := r
  have gen : ∀ (R : List (List Nat)) (ms : List Nat), ms.length = R.length → (∀ (k : Nat) (r : List Nat), R[k]? = some r → ∃ m, ms[k]? = some m ∧ hh[m]? = some (rowM r)) → dat1s hh (ms.map Mv.loc) = some (R.map fun r => .list (r.map nInt)) := by
    intro R
    induction R with
    | nil =>
      intro ms h _
      have : ms = [] := List.eq_nil_of_length_eq_zero h
      subst this; rfl
    | cons r R ih =>
      intro ms h h3
      cases ms with
      | nil => cases h
      | cons m ms =>
        have h4 := ih ms (by simpa using h) fun k s hs => by
          have := h3 (k + 1) s (by simpa using hs)
          simpa using this
        obtain ⟨m', a, b⟩ := h3 0 r rfl
        have em : m = m' := by simpa using a
        subst em
        have d1 : dat1 hh (.loc m) = some (.list (r.map nInt)) := by
          simp only [dat1, lstOf, b, Option.bind_some, allP_nat, Option.map_some]
        rw [List.map_cons, dat1s, d1, h4]
        rfl
  have := gen R ms h2 fun k r hr => let ⟨m, a, _, c⟩ := h3 k r hr; ⟨m, a, c⟩
  simp only [datOf, lstOf, h1, Option.bind_some, this, Option.map_some, rowsD]
theorem shaped_rows (R : List (List Nat)) : SeqAt.shaped (rowsD R) = true := by
  have c0 : ∀ r : List Nat, PyData.canLayAll0 (r.map nInt) = true ∧ PyData.depthAll (r.map nInt) ≤ 0 := fun r => by
    induction r with
    | nil => exact ⟨rfl, Nat.le_refl _⟩
    | cons x r ih =>
      refine ⟨?_, ?_⟩
      · rw [List.map_cons, PyData.canLayAll0, ih.1]; rfl
      · rw [List.map_cons, PyData.depthAll]; simp [PyData.depth]; omega
  have c1 : ∀ R : List (List Nat), PyData.canLayAll0 (R.map fun r => .list (r.map nInt)) = true ∧ PyData.depthAll (R.map fun r => .list (r.map nInt)) ≤ 1 := fun R => by
    induction R with
    | nil => exact ⟨rfl, Nat.zero_le _⟩
    | cons r R ih =>
      refine ⟨?_, ?_⟩
      · rw [List.map_cons, PyData.canLayAll0, ih.1, PyData.canLay0, (c0 r).1]; rfl
      · rw [List.map_cons, PyData.depthAll]
        have : (PyData.list (r.map nInt)).depth ≤ 1 := by
          have := (c0 r).2
          rw [PyData.depth]; omega
        omega
  have c2 := c1 R
  unfold SeqAt.shaped rowsD
  rw [PyData.canLay0, c2.1, PyData.depth]
  simp
  omega
theorem list_nil (hh : Hq) : datOf (hh ++ [.lst []]) (.loc hh.length) = some (.list []) := by
  simp [datOf, lstOf, dat1s]
theorem RowsAt.ne {hh : Hq} {n : Nat} {R : List (List Nat)} (r : RowsAt hh n R) : gNe (.loc n) (.loc hh.length) (hh ++ [.lst []]) = some (.p (.bool (decide (R ≠ []))), hh ++ [.lst []]) := by
  have d1 := (r.app [.lst []]).dat
  simp only [gNe, d1, list_nil, Option.bind_some, eqD]
  rw [if_pos ⟨shaped_rows R, by decide +kernel⟩]
  cases R with
  | nil => rfl
  | cons r R => rfl
theorem ints_ne {hh : Hq} {n : Nat} {l : List Nat} (h : lstOf hh (.loc n) = some (l.map fun x => .p (nInt x))) : gNe (.loc n) (.loc hh.length) (hh ++ [.lst []]) = some (.p (.bool (decide (l ≠ []))), hh ++ [.lst []]) := by
  have h2 := lstOf_app (g := [.lst []]) h
  have h3 : dat1s (hh ++ [.lst []]) (l.map fun x => Mv.p (nInt x)) = some (l.map nInt) := by
    have := dat1s_p (hh ++ [.lst []]) (l.map nInt)
    rw [List.map_map] at this
    exact this
  have d1 : datOf (hh ++ [.lst []]) (.loc n) = some (.list (l.map nInt)) := by
    simp only [datOf, h2, Option.bind_some, h3, Option.map_some]
  have c0 : ∀ r : List Nat, PyData.canLayAll0 (r.map nInt) = true ∧ PyData.depthAll (r.map nInt) ≤ 0 := fun r => by
    induction r with
    | nil => exact ⟨rfl, Nat.le_refl _⟩
    | cons x r ih =>
      refine ⟨?_, ?_⟩
      · rw [List.map_cons, PyData.canLayAll0, ih.1]; rfl
      · rw [List.map_cons, PyData.depthAll]; simp [PyData.depth]; omega
  have sh : SeqAt.shaped (.list (l.map nInt)) = true := by
    unfold SeqAt.shaped
    rw [PyData.canLay0, (c0 l).1, PyData.depth]
    have := (c0 l).2
    simp
    omega
  simp only [gNe, d1, list_nil, Option.bind_some, eqD]
  rw [if_pos ⟨sh, by decide +kernel⟩]
  cases l with
  | nil => rfl
  | cons r R => rfl
theorem tGc_ne {a : ME} {e : En} {hh : Hq} {n : Nat} {k : Bool} (ha : a e hh = some (.loc n, hh)) (q : gNe (.loc n) (.loc hh.length) (hh ++ [.lst []]) = some (.p (.bool k), hh ++ [.lst []])) : tGc (mBo (mB gNe a (mLst aNil))) e hh = some (k, hh) := by
  unfold tGc
  rw [r_bo _ _ _ (mB_ev ha (mLst_ev (aN_ev _ _) (by simp)) q)]
  simp only [Option.map_some, gc_p]
end Wk
set_option Elab.async false
set_option linter.all false
set_option maxRecDepth 100000
set_option maxHeartbeats 1000000
set_option autoImplicit false
namespace Wk
open PySem PySem.Spec L2 MX
/-! ### the rows at the start -/
theorem rows_init (m0 p : Nat) (h : Hq) (cols : List (List Nat)) (z : List Mv) (hz : z.length = 11) (hl : lstOf h (.loc m0) = some (cols.map fun c => .p (lot c))) (hc : ∀ c ∈ cols, ∀ x ∈ c, x < p) (hc2 : ∀ c ∈ cols, c.length ≤ sizeLine) (hs : cols.length ≤ sizeLine) (hp : 0 < p) (hz6 : z = List.replicate 11 .und) :
    ∃ g, mLc (sSeq (mVar 0)) (.nm 8) tYesM (mLc (sSeq (mVar 8)) (.nm 10) tYesM (mB gMod (mCall gInt (aCons (mVar 10) aNil)) (mVar 1)) [10]) [8] (.loc m0 :: .p (nInt p) :: z) h = some (.loc h.length, h ++ g) ∧ RowsAt (h ++ g) h.length cols := by
  subst hz6
  let e0 : En := .loc m0 :: .p (nInt p) :: List.replicate 11 .und
  obtain ⟨nx, s1, s2⟩ := src_lst (ma := mVar 0) (e := e0) (h := h) (h1 := h) (d := .loc m0) rfl hl
  have lg := lcN_gen (nx := nx) (t := .nm 8) (tt := tYesM) (te := mLc (sSeq (mVar 8)) (.nm 10) tYesM (mB gMod (mCall gInt (aCons (mVar 10) aNil)) (mVar 1)) [10]) (e0 := wipeE e0 [8]) (n0 := h.length) (k := cols.length)
    (fun i hh => ∃ g ms, hh = h ++ [.lst (ms.map Mv.loc)] ++ g ∧ ms.length = i ∧ ∀ (k : Nat) (r : List Nat), k < i → cols[k]? = some r → ∃ m, ms[k]? = some m ∧ h.length < m ∧ hh[m]? = some (rowM r))
    (fun hh ⟨g, ms, e1, _⟩ => by
      have : SLst (.loc m0) (cols.map fun c => .p (lot c)) hh := by subst e1; rw [List.append_assoc]; exact lstOf_app hl
      rw [s2 _ hh this, List.getElem?_eq_none (by simp)])
    (fun i hh hi ⟨g, ms, e1, e2, e3⟩ => by
      have sl : SLst (.loc m0) (cols.map fun c => .p (lot c)) hh := by subst e1; rw [List.append_assoc]; exact lstOf_app hl
      have en : nx i hh = some (some (.p (lot cols[i]))) := by rw [s2 i hh sl, List.getElem?_map, List.getElem?_eq_getElem hi]; rfl
      have hci := hc cols[i] (List.getElem_mem hi)
      let e1' : En := [.loc m0, .p (nInt p), .und, .und, .und, .und, .und, .und, .p (lot cols[i]), .und, .und, .und, .und]
      have q : EvN (mLc (sSeq (mVar 8)) (.nm 10) tYesM (mB gMod (mCall gInt (aCons (mVar 10) aNil)) (mVar 1)) [10]) e1' hh (cols[i].map fun x => .p (nInt x)) := by
        refine lc_tup cols[i] nInt (fun x => .p (nInt x)) rfl (hc2 _ (List.getElem_mem hi)) fun x hx g' => ⟨[.loc m0, .p (nInt p), .und, .und, .und, .und, .und, .und, .p (lot cols[i]), .und, .p (nInt x), .und, .und], rfl, ?_⟩
        have := mB_ev (g := gMod) (mC1_ev (a := mVar 10) (e := [.loc m0, .p (nInt p), .und, .und, .und, .und, .und, .und, .p (lot cols[i]), .und, .p (nInt x), .und, .und]) (h := hh ++ g') (x := .p (nInt x)) (h1 := hh ++ g') rfl (r_intI _ _)) (b := mVar 1) (y := .p (nInt p)) (h2 := hh ++ g') rfl (g_mod (by omega) _)
        rw [this]
        have hx := hci x hx
        have : (x : Int) % (p : Int) = (x : Int) := Int.emod_eq_of_lt (by omega) (by omega)
        rw [this]
      obtain ⟨n2, g2, q1, q2, q3⟩ := q
      have lh : hh.length = h.length + 1 + g.length := by subst e1; simp; omega
      have e4 : hh ++ g2 = h ++ [.lst (ms.map Mv.loc)] ++ (g ++ g2) := by subst e1; simp
      have pl : putL h.length (.loc n2) (hh ++ g2) = some (h ++ [.lst ((ms ++ [n2]).map Mv.loc)] ++ (g ++ g2)) := by
        rw [e4]
        unfold putL
        have : (h ++ [Mo.lst (ms.map Mv.loc)] ++ (g ++ g2))[h.length]? = some (.lst (ms.map Mv.loc)) := by
          rw [List.getElem?_append_left (by simp)]; simp
        rw [this]
        simp only [List.length_map, e2]
        rw [if_pos (by omega), set_app (by simp), List.set_append_right _ _ (Nat.le_refl _)]
        simp
      refine ⟨.p (lot cols[i]), e1', true, hh, en, rfl, rfl, fun _ => ⟨.loc n2, hh ++ g2, _, q1, pl, g ++ g2, ms ++ [n2], rfl, by simp [e2], fun k r hk hr => ?_⟩, (fun z => nomatch z)⟩
      have keep : ∀ m : Nat, h.length < m → ∀ o, (hh ++ g2)[m]? = some o → (h ++ [.lst ((ms ++ [n2]).map Mv.loc)] ++ (g ++ g2))[m]? = some o := fun m hm o ho => by
        rw [e4] at ho
        rw [List.getElem?_append_right (by simp; omega)] at ho ⊢
        simpa using ho
      by_cases hk2 : k < i
      · obtain ⟨m, a, b, c⟩ := e3 k r hk2 hr
        exact ⟨m, by rw [List.getElem?_append_left (by omega)]; exact a, b, keep m b _ (get_app c)⟩
      · have ek : k = i := by omega
        subst ek
        rw [List.getElem?_eq_getElem hi] at hr
        cases hr
        refine ⟨n2, by rw [List.getElem?_append_right (by omega), e2]; simp, by omega, keep n2 (by omega) _ q2⟩)
    cols.length 0 (h ++ [.lst []]) (by omega) ⟨[], [], by simp, rfl, fun k r hk => by omega⟩
  obtain ⟨h', l1, g, ms, l2, l3, l4⟩ := lg
  subst l2
  refine ⟨[.lst (ms.map Mv.loc)] ++ g, ?_, ms, by rw [← List.append_assoc, List.getElem?_append_left (by simp)]; simp, l3, fun k r hr => ?_⟩
  · have s1' : sSeq (mVar 0) e0 h = _ := s1
    show mLc (sSeq (mVar 0)) (.nm 8) tYesM (mLc (sSeq (mVar 8)) (.nm 10) tYesM (mB gMod (mCall gInt (aCons (mVar 10) aNil)) (mVar 1)) [10]) [8] e0 h = _
    unfold mLc at l1 ⊢
    rw [s1']
    simp only [Option.bind_some, List.length_map]
    rw [l1]
    simp
  · obtain ⟨m, a, b, c⟩ := l4 k r (by rw [← l3]; have := (List.getElem?_eq_some_iff.mp hr).1; omega) hr
    exact ⟨m, a, by omega, by rw [← List.append_assoc]; exact c⟩
/-! ### one place -/
def OkR (p N r : Nat) (R : List (List Nat)) : Prop := R.length = N ∧ ∀ row ∈ R, row.length = r ∧ ∀ x ∈ row, x < p
theorem OkR.row {p N r : Nat} {R : List (List Nat)} (k : OkR p N r R) {x : Nat} (hx : x < N) : (R.getD x []).length = r ∧ ∀ y ∈ R.getD x [], y < p := by
  rw [← k.1] at hx
  rw [List.getD_eq_getElem?_getD, List.getElem?_eq_getElem hx]
  exact k.2 _ (List.getElem_mem hx)
theorem OkR.lt {p N r : Nat} {R : List (List Nat)} (k : OkR p N r R) {x j : Nat} (hx : x < N) (hj : j < r) : cellR R x j < p := by
  obtain ⟨h1, h2⟩ := k.row hx
  unfold cellR
  generalize R.getD x [] = row at h1 h2
  rw [List.getD_eq_getElem?_getD, List.getElem?_eq_getElem (by omega)]
  exact h2 _ (List.getElem_mem _)
theorem cm9 {i j : Nat} (q : i < 1000000) : cMulW (i : Int) (j : Int) = true := by
  have e64 : (2 : Int) ^ 64 = 18446744073709551616 := by decide
  have : cMul (i : Int) (j : Int) = true := decide_eq_true (.inl (by omega))
  simp only [cMulW, this, Bool.true_or]
section
variable {hh : Hq} {n p N r at_ k : Nat} {R : List (List Nat)} {c z5 z6 z7 z8 z9 z10 z11 z12 : Mv}
/-- the rows from at_ on that are not nought at a place -/
def someR (R : List (List Nat)) (N at_ k : Nat) : List Nat := ((List.range (N - at_)).map (at_ + ·)).filter fun x => decide (cellR R x k ≠ 0)
theorem some_ev (q : RowsAt hh n R) (o : OkR p N r R) (ha : at_ ≤ N) (hk : k < r) (hN : N ≤ 1000) :
    EvN (mLc (sRng2 (aCons (mVar 3) (aCons (mCall gLen (aCons (mVar 2) aNil)) aNil))) (.nm 7) (mBo (mB gNe (mB gIx (mB gIx (mVar 2) (mVar 7)) (mVar 4)) (mC (.int 0)))) (mVar 7) [7]) [c, .p (nInt p), .loc n, .p (nInt at_), .p (nInt k), z5, z6, z7, z8, z9, z10, z11, z12] hh ((someR R N at_ k).map fun x => .p (nInt x)) := by
  let e : En := [c, .p (nInt p), .loc n, .p (nInt at_), .p (nInt k), z5, z6, z7, z8, z9, z10, z11, z12]
  have a1 : (aCons (mVar 3) (aCons (mCall gLen (aCons (mVar 2) aNil)) aNil)) e hh = some ([.p (.int (at_ : Int)), .p (.int (N : Int))], hh) := by
    have := q.len
    rw [o.1] at this
    exact aC_ev (a := mVar 3) (x := .p (nInt at_)) (h1 := hh) rfl (aC_ev (mC1_ev (a := mVar 2) (x := .loc n) (h1 := hh) rfl this) (aN_ev _ _))
  have e20 : (2 : Int) ^ 62 = 4611686018427387904 := by decide
  have s := src_rng2 (e := e) a1 (by unfold bnd; rw [decide_eq_true_iff]; omega) (by unfold bnd; rw [decide_eq_true_iff]; omega)
  have el : (List.range ((N : Int) - (at_ : Int)).toNat).map (fun k => Mv.int ((at_ : Int) + (k : Nat))) = ((List.range (N - at_)).map (at_ + ·)).map fun x => .p (nInt x) := by
    have : ((N : Int) - (at_ : Int)).toNat = N - at_ := by omega
    rw [this, List.map_map]
    refine List.map_congr_left fun x _ => ?_
    show Mv.p (.int ((at_ : Int) + (x : Int))) = Mv.p (.int ((at_ + x : Nat) : Int))
    rw [Int.natCast_add]
  rw [el] at s
  refine lc_filterT (g := []) (S := SAny) ((List.range (N - at_)).map (at_ + ·)) (fun x => .p (nInt x)) (fun x => .p (nInt x)) _ (by rw [List.append_nil]; exact s) (fun _ => trivial) (by rw [List.length_map, List.length_range, sizeLine_eq]; omega) fun x hx g' => ?_
  refine ⟨[c, .p (nInt p), .loc n, .p (nInt at_), .p (nInt k), z5, z6, .p (nInt x), z8, z9, z10, z11, z12], rfl, ?_, fun _ => rfl⟩
  have hx : x < N := by
    obtain ⟨y, hy, rfl⟩ := List.mem_map.mp hx
    have := List.mem_range.mp hy; omega
  obtain ⟨d, c1, c2⟩ := (q.app g').cell (k := x) (j := k) (by rw [o.1]; exact hx) (by rw [(o.row hx).1]; exact hk)
  have := mB_ev (g := gNe) (mB_ev (a := mB gIx (mVar 2) (mVar 7)) (b := mVar 4) (e := [c, .p (nInt p), .loc n, .p (nInt at_), .p (nInt k), z5, z6, .p (nInt x), z8, z9, z10, z11, z12]) (h := hh ++ g') (mB_ev (a := mVar 2) (b := mVar 7) (x := .loc n) (y := .p (nInt x)) (h1 := hh ++ g') (h2 := hh ++ g') rfl rfl c1) (y := .p (nInt k)) (h2 := hh ++ g') rfl c2) (mC_ev (.int 0) _ _) (ne_int _ _ _)
  rw [r_bo _ _ _ this]
  have : (!decide (((cellR R x k : Nat) : Int) = 0)) = decide (cellR R x k ≠ 0) := by
    rw [Bool.eq_iff_iff]; simp
  rw [this]
def swapR (R : List (List Nat)) (a b : Nat) : List (List Nat) := (R.set a (R.getD b [])).set b (R.getD a [])
theorem swap_ok (o : OkR p N r R) {a b : Nat} (ha : a < N) (hb : b < N) : OkR p N r (swapR R a b) := by
  refine ⟨by simp [swapR, o.1], fun row hr => ?_⟩
  unfold swapR at hr
  rcases List.mem_or_eq_of_mem_set hr with hr | hr
  · rcases List.mem_or_eq_of_mem_set hr with hr | hr
    · exact o.2 row hr
    · rw [hr]; exact o.row hb
  · rw [hr]; exact o.row ha
/-- the rows changed -/
theorem swap_ev (q : RowsAt hh n R) (o : OkR p N r R) (ha : at_ < N) {i : Nat} (hi : i < N) {n5 : Nat} {rest : List Nat} (h5 : lstOf hh (.loc n5) = some ((i :: rest).map fun x => .p (nInt x))) (n5n : n5 ≠ n) :
    ∃ o1, sSwap (aCons (mB gIx (mVar 2) (mB gIx (mVar 5) (mC (.int 0)))) (aCons (mB gIx (mVar 2) (mVar 3)) aNil)) (mVar 2) (mVar 3) (mVar 2) (mB gIx (mVar 5) (mC (.int 0))) [c, .p (nInt p), .loc n, .p (nInt at_), .p (nInt k), .loc n5, z6, z7, z8, z9, z10, z11, z12] hh
      = some (.nx, [c, .p (nInt p), .loc n, .p (nInt at_), .p (nInt k), .loc n5, z6, z7, z8, z9, z10, z11, z12], hh.set n o1) ∧ RowsAt (hh.set n o1) n (swapR R at_ i) := by
  let e : En := [c, .p (nInt p), .loc n, .p (nInt at_), .p (nInt k), .loc n5, z6, z7, z8, z9, z10, z11, z12]
  obtain ⟨mi, b0, b1, b2⟩ := q.row (k := i) (by rw [o.1]; exact hi)
  obtain ⟨ma, a0, a1, a2⟩ := q.row (k := at_) (by rw [o.1]; exact ha)
  obtain ⟨o1, p1, p2⟩ := q.put (k := at_) b2 b0 (by rw [o.1]; exact ha)
  have a2' : (hh.set n o1)[ma]? = some (rowM (R.getD at_ [])) := by rw [List.getElem?_set_ne (Ne.symm a0)]; exact a2
  obtain ⟨o2, p3, p4⟩ := p2.put (k := i) a2' a0 (by rw [List.length_set, o.1]; exact hi)
  refine ⟨o2, ?_, by rw [← set_set2 hh n o1 o2]; exact p4⟩
  have i0 : gIx (.loc n5) (.p (.int 0)) hh = some (.p (nInt i), hh) := ixL (i := 0) h5 rfl
  have h5' : lstOf (hh.set n o1) (.loc n5) = some ((i :: rest).map fun x => .p (nInt x)) := by
    have e5 : (hh.set n o1)[n5]? = hh[n5]? := List.getElem?_set_ne (Ne.symm n5n)
    simp only [lstOf, e5] at h5 ⊢
    exact h5
  have i0' : gIx (.loc n5) (.p (.int 0)) (hh.set n o1) = some (.p (nInt i), hh.set n o1) := ixL (i := 0) h5' rfl
  have v50 : (mB gIx (mVar 5) (mC (.int 0))) e hh = some (.p (nInt i), hh) := mB_ev (a := mVar 5) (x := .loc n5) (h1 := hh) rfl (mC_ev _ _ _) i0
  have v50' : (mB gIx (mVar 5) (mC (.int 0))) e (hh.set n o1) = some (.p (nInt i), hh.set n o1) := mB_ev (a := mVar 5) (x := .loc n5) (h1 := hh.set n o1) rfl (mC_ev _ _ _) i0'
  have w : (aCons (mB gIx (mVar 2) (mB gIx (mVar 5) (mC (.int 0)))) (aCons (mB gIx (mVar 2) (mVar 3)) aNil)) e hh = some ([.loc mi, .loc ma], hh) :=
    aC_ev (mB_ev (a := mVar 2) (x := .loc n) (h1 := hh) rfl v50 b1) (aC_ev (mB_ev (a := mVar 2) (b := mVar 3) (x := .loc n) (y := .p (nInt at_)) (h1 := hh) (h2 := hh) rfl rfl a1) (aN_ev _ _))
  show sSwap _ _ _ _ _ e hh = _
  unfold sSwap
  rw [w]
  simp only [Option.bind_some]
  have v2 : ∀ H, mVar 2 e H = some (.loc n, H) := fun H => rfl
  have v3 : ∀ H, mVar 3 e H = some (.p (nInt at_), H) := fun H => rfl
  simp only [v2, v3, Option.bind_some, p1, v50', p3, Option.map_some]
  rw [set_set2]
/-- a number that times another leaves one -/
theorem back_ev (q : RowsAt hh n R) (o : OkR p N r R) (ha : at_ < N) (hk : k < r) (hp : p = 2 ∨ p = 3 ∨ p = 5) (hne : cellR R at_ k ≠ 0) :
    ∃ back, back < p ∧ back * cellR R at_ k % p = 1 ∧ mGc (mB gIx (mLc (sRng2 (aCons (mC (.int 1)) (aCons (mVar 1) aNil))) (.nm 11) (mBo (mB gEq (mB gMod (mCall gInt (aCons (mB gMul (mVar 11) (mB gIx (mB gIx (mVar 2) (mVar 3)) (mVar 4))) aNil)) (mVar 1)) (mC (.int 1)))) (mVar 11) [11]) (mC (.int 0))) [c, .p (nInt p), .loc n, .p (nInt at_), .p (nInt k), z5, z6, z7, z8, z9, z10, z11, z12] hh = some (.p (nInt back), hh) := by
  let e : En := [c, .p (nInt p), .loc n, .p (nInt at_), .p (nInt k), z5, z6, z7, z8, z9, z10, z11, z12]
  have hlt := o.lt ha hk
  have p5 : p ≤ 5 := by omega
  have p1 : 1 ≤ p := by omega
  have a1 : (aCons (mC (.int 1)) (aCons (mVar 1) aNil)) e hh = some ([.p (.int ((1 : Nat) : Int)), .p (.int (p : Int))], hh) := aC_ev (mC_ev _ _ _) (aC_ev (a := mVar 1) (x := .p (nInt p)) (h1 := hh) rfl (aN_ev _ _))
  have e20 : (2 : Int) ^ 62 = 4611686018427387904 := by decide
  have s := src_rng2 (e := e) a1 (by unfold bnd; rw [decide_eq_true_iff]; omega) (by unfold bnd; rw [decide_eq_true_iff]; omega)
  have el : (List.range ((p : Int) - ((1 : Nat) : Int)).toNat).map (fun k => Mv.int (((1 : Nat) : Int) + (k : Nat))) = ((List.range (p - 1)).map (1 + ·)).map fun x => .p (nInt x) := by
    have : ((p : Int) - ((1 : Nat) : Int)).toNat = p - 1 := by omega
    rw [this, List.map_map]
    refine List.map_congr_left fun x _ => ?_
    show Mv.p (.int (((1 : Nat) : Int) + (x : Int))) = Mv.p (.int ((1 + x : Nat) : Int))
    rw [Int.natCast_add]
  rw [el] at s
  have Q : EvN (mLc (sRng2 (aCons (mC (.int 1)) (aCons (mVar 1) aNil))) (.nm 11) (mBo (mB gEq (mB gMod (mCall gInt (aCons (mB gMul (mVar 11) (mB gIx (mB gIx (mVar 2) (mVar 3)) (mVar 4))) aNil)) (mVar 1)) (mC (.int 1)))) (mVar 11) [11]) e hh ((((List.range (p - 1)).map (1 + ·)).filter fun x => decide (x * cellR R at_ k % p = 1)).map fun x => .p (nInt x)) := by
    refine lc_filterT (g := []) (S := SAny) ((List.range (p - 1)).map (1 + ·)) (fun x => .p (nInt x)) (fun x => .p (nInt x)) _ (by rw [List.append_nil]; exact s) (fun _ => trivial) (by rw [List.length_map, List.length_range, sizeLine_eq]; omega) fun x hx g' => ?_
    refine ⟨[c, .p (nInt p), .loc n, .p (nInt at_), .p (nInt k), z5, z6, z7, z8, z9, z10, .p (nInt x), z12], rfl, ?_, fun _ => rfl⟩
    have hx : x < 1000000 := by
      obtain ⟨y, hy, rfl⟩ := List.mem_map.mp hx
      have := List.mem_range.mp hy; omega
    let e2 : En := [c, .p (nInt p), .loc n, .p (nInt at_), .p (nInt k), z5, z6, z7, z8, z9, z10, .p (nInt x), z12]
    obtain ⟨d, c1, c2⟩ := (q.app g').cell (k := at_) (j := k) (by rw [o.1]; exact ha) (by rw [(o.row ha).1]; exact hk)
    have v1 := mB_ev (a := mB gIx (mVar 2) (mVar 3)) (b := mVar 4) (e := e2) (h := hh ++ g') (mB_ev (a := mVar 2) (b := mVar 3) (x := .loc n) (y := .p (nInt at_)) (h1 := hh ++ g') (h2 := hh ++ g') rfl rfl c1) (y := .p (nInt k)) (h2 := hh ++ g') rfl c2
    have v2 := mB_ev (g := gMul) (a := mVar 11) (e := e2) (h := hh ++ g') (x := .p (nInt x)) (h1 := hh ++ g') rfl v1 (g_mul (cm9 hx) _)
    have v3 := mB_ev (g := gEq) (mB_ev (g := gMod) (mC1_ev v2 (r_intI _ _)) (b := mVar 1) (y := .p (nInt p)) (h2 := hh ++ g') rfl (g_mod (by omega) _)) (mC_ev (.int 1) _ _) (eq_int _ _ _)
    rw [r_bo _ _ _ v3]
    have : decide ((x : Int) * (cellR R at_ k : Int) % (p : Int) = 1) = decide (x * cellR R at_ k % p = 1) := by
      rw [Bool.eq_iff_iff, decide_eq_true_iff, decide_eq_true_iff]
      have : ((x * cellR R at_ k % p : Nat) : Int) = (x : Int) * (cellR R at_ k : Int) % (p : Int) := by rw [Int.natCast_emod, Int.natCast_mul]
      omega
    rw [this]
  obtain ⟨n2, g, q1, q2, q3⟩ := Q
  have ex : ∃ b l, (((List.range (p - 1)).map (1 + ·)).filter fun x => decide (x * cellR R at_ k % p = 1)) = b :: l ∧ b < p ∧ b * cellR R at_ k % p = 1 := by
    generalize cellR R at_ k = v at hlt hne
    rcases hp with rfl | rfl | rfl
    · have : v = 1 := by omega
      subst this; exact ⟨1, [], rfl, by decide, by decide⟩
    · have : v = 1 ∨ v = 2 := by omega
      rcases this with rfl | rfl
      · exact ⟨1, [], rfl, by decide, by decide⟩
      · exact ⟨2, [], rfl, by decide, by decide⟩
    · have : v = 1 ∨ v = 2 ∨ v = 3 ∨ v = 4 := by omega
      rcases this with rfl | rfl | rfl | rfl
      · exact ⟨1, [], rfl, by decide, by decide⟩
      · exact ⟨3, [], rfl, by decide, by decide⟩
      · exact ⟨2, [], rfl, by decide, by decide⟩
      · exact ⟨4, [], rfl, by decide, by decide⟩
  obtain ⟨b, l, e1, e2, e3⟩ := ex
  rw [e1] at q2
  refine ⟨b, e2, e3, mGc_ev (mB_ev q1 (mC_ev _ _ _) (ixL (i := 0) (x := .p (nInt b)) (ds := (b :: l).map fun x => .p (nInt x)) (by simp only [lstOf, q2]) rfl)) (gc_p _ _ _)⟩
end
end Wk
set_option Elab.async false
set_option linter.all false
set_option maxRecDepth 100000
set_option maxHeartbeats 1000000
set_option autoImplicit false
namespace Wk
open PySem PySem.Spec L2 MX
theorem pv {p a b z : Int} (h : b * z % p = 1) : p ∣ a - (a * b % p) * z := by
  have e1 : a * b % p = a * b - p * (a * b / p) := Int.emod_def _ _
  have e2 : b * z = 1 + p * (b * z / p) := by
    have := Int.emod_def (b * z) p
    omega
  refine ⟨(a * b / p) * z - a * (b * z / p), ?_⟩
  rw [e1]
  generalize a * b / p = q
  generalize b * z / p = q' at e2
  have e3 : a * (b * z) = a * (1 + p * q') := by rw [e2]
  grind
def redC (R : List (List Nat)) (p at_ k back x j : Nat) : Nat := (((cellR R x j : Int) - ((cellR R x k * back % p : Nat) : Int) * (cellR R at_ j : Int)) % (p : Int)).toNat
theorem getD_set {R : List (List Nat)} {j x : Nat} {r : List Nat} (hj : j < R.length) : (R.set j r).getD x [] = if x = j then r else R.getD x [] := by
  rw [List.getD_eq_getElem?_getD, List.getD_eq_getElem?_getD]
  by_cases h : x = j
  · subst h
    rw [List.getElem?_set_self hj, if_pos rfl]; rfl
  · rw [List.getElem?_set_ne (Ne.symm h), if_neg h]
section
variable {h : Hq} {n p N r at_ k : Nat} {R : List (List Nat)} {c z5 z7 z8 z9 z10 z11 z12 : Mv}
theorem elim_ev {g : Hq} (q : RowsAt (h ++ g) n R) (hn : h.length ≤ n) (o : OkR p N r R) (ha : at_ < N) (hk : k < r) (hN : N ≤ 1000) {back : Nat} (hb : back < p) (hp : p ≤ 5) (hr : r ≤ 1000) :
    ∃ g' R' w7 w9 w11 w12, sFor (sRng2 (aCons (mB gAdd (mVar 3) (mC (.int 1))) (aCons (mCall gLen (aCons (mVar 2) aNil)) aNil))) (.nm 7) (bSeq (sAsg (mB gMod (mCall gInt (aCons (mB gMul (mB gIx (mB gIx (mVar 2) (mVar 7)) (mVar 4)) (mVar 6)) aNil)) (mVar 1)) (.nm 9)) (sSub (mVar 2) (mVar 7) (mLc (sZip (aCons (mB gIx (mVar 2) (mVar 7)) (aCons (mB gIx (mVar 2) (mVar 3)) aNil))) (.tup [11, 12]) tYesM (mB gMod (mCall gInt (aCons (mB gSub (mVar 11) (mB gMul (mVar 9) (mVar 12))) aNil)) (mVar 1)) [11, 12])))
      [c, .p (nInt p), .loc n, .p (nInt at_), .p (nInt k), z5, .p (nInt back), z7, z8, z9, z10, z11, z12] (h ++ g) = some (.nx, [c, .p (nInt p), .loc n, .p (nInt at_), .p (nInt k), z5, .p (nInt back), w7, z8, w9, z10, w11, w12], h ++ g') ∧
      RowsAt (h ++ g') n R' ∧ OkR p N r R' ∧ (∀ x, x ≤ at_ → R'.getD x [] = R.getD x []) ∧ ∀ x, at_ < x → x < N → ∀ j, j < r → cellR R' x j = redC R p at_ k back x j := by
  have a1 : (aCons (mB gAdd (mVar 3) (mC (.int 1))) (aCons (mCall gLen (aCons (mVar 2) aNil)) aNil)) [c, .p (nInt p), .loc n, .p (nInt at_), .p (nInt k), z5, .p (nInt back), z7, z8, z9, z10, z11, z12] (h ++ g) = some ([.p (.int (at_ + 1 : Int)), .p (.int (N : Int))], h ++ g) := by
    have := q.len
    rw [o.1] at this
    exact aC_ev (mB_ev (a := mVar 3) (x := .p (nInt at_)) (h1 := h ++ g) rfl (mC_ev _ _ _) (r_addI _ _ _)) (aC_ev (mC1_ev (a := mVar 2) (x := .loc n) (h1 := h ++ g) rfl this) (aN_ev _ _))
  have e20 : (2 : Int) ^ 62 = 4611686018427387904 := by decide
  have s := src_rng2 a1 (by unfold bnd; rw [decide_eq_true_iff]; omega) (by unfold bnd; rw [decide_eq_true_iff]; omega)
  have el : (List.range ((N : Int) - (at_ + 1 : Int)).toNat).map (fun k => Mv.int ((at_ + 1 : Int) + (k : Nat))) = (List.range (N - (at_ + 1))).map fun x => .p (nInt (at_ + 1 + x)) := by
    have : ((N : Int) - (at_ + 1 : Int)).toNat = N - (at_ + 1) := by omega
    rw [this]
    refine List.map_congr_left fun x _ => ?_
    show Mv.p (.int (((at_ : Int) + 1) + (x : Int))) = Mv.p (.int ((at_ + 1 + x : Nat) : Int))
    rw [Int.natCast_add, Int.natCast_add]; rfl
  rw [el] at s
  have F := for_inv (t := .nm 7) (b := bSeq (sAsg (mB gMod (mCall gInt (aCons (mB gMul (mB gIx (mB gIx (mVar 2) (mVar 7)) (mVar 4)) (mVar 6)) aNil)) (mVar 1)) (.nm 9)) (sSub (mVar 2) (mVar 7) (mLc (sZip (aCons (mB gIx (mVar 2) (mVar 7)) (aCons (mB gIx (mVar 2) (mVar 3)) aNil))) (.tup [11, 12]) tYesM (mB gMod (mCall gInt (aCons (mB gSub (mVar 11) (mB gMul (mVar 9) (mVar 12))) aNil)) (mVar 1)) [11, 12])))
    (fun i e hh => ∃ g' R' w7 w9 w11 w12, e = [c, .p (nInt p), .loc n, .p (nInt at_), .p (nInt k), z5, .p (nInt back), w7, z8, w9, z10, w11, w12] ∧ hh = h ++ g' ∧ RowsAt (h ++ g') n R' ∧ OkR p N r R' ∧
      (∀ x, x ≤ at_ ∨ at_ + 1 + i ≤ x → R'.getD x [] = R.getD x []) ∧ ∀ x, at_ < x → x < at_ + 1 + i → ∀ j, j < r → cellR R' x j = redC R p at_ k back x j)
    (List.range (N - (at_ + 1))) (fun x => .p (nInt (at_ + 1 + x))) s (fun _ _ _ _ => trivial) ⟨g, R, z7, z9, z11, z12, rfl, rfl, q, o, fun _ _ => rfl, fun x h1 h2 => by omega⟩
    (fun i hi e hh ⟨g', R', w7, w9, w11, w12, e1, e2, q', o', f1, f2⟩ => by
      subst e1; subst e2
      rw [List.length_range] at hi
      rw [List.getElem_range]
      generalize hj : at_ + 1 + i = j
      have jN : j < N := by omega
      have ej : R'.getD j [] = R.getD j [] := f1 j (.inr (by omega))
      have ea : R'.getD at_ [] = R.getD at_ [] := f1 at_ (.inl (Nat.le_refl _))
      let e1 : En := [c, .p (nInt p), .loc n, .p (nInt at_), .p (nInt k), z5, .p (nInt back), .p (nInt j), z8, w9, z10, w11, w12]
      obtain ⟨d, c1, c2⟩ := q'.cell (k := j) (j := k) (by rw [o'.1]; exact jN) (by rw [(o'.row jN).1]; exact hk)
      have ck : cellR R' j k = cellR R j k := by unfold cellR; rw [ej]
      rw [ck] at c2
      have hc : cellR R j k < p := o.lt jN hk
      let T : Nat := cellR R j k * back % p
      have A : sAsg (mB gMod (mCall gInt (aCons (mB gMul (mB gIx (mB gIx (mVar 2) (mVar 7)) (mVar 4)) (mVar 6)) aNil)) (mVar 1)) (.nm 9) e1 (h ++ g') = some (.nx, [c, .p (nInt p), .loc n, .p (nInt at_), .p (nInt k), z5, .p (nInt back), .p (nInt j), z8, .p (nInt T), z10, w11, w12], h ++ g') := by
        refine sAsg_ev (i := 9) (d := .p (nInt T)) ?_ (show 9 < 13 by decide)
        have v1 := mB_ev (a := mB gIx (mVar 2) (mVar 7)) (b := mVar 4) (e := e1) (h := h ++ g') (mB_ev (a := mVar 2) (b := mVar 7) (x := .loc n) (y := .p (nInt j)) (h1 := h ++ g') (h2 := h ++ g') rfl rfl c1) (y := .p (nInt k)) (h2 := h ++ g') rfl c2
        have v2 := mB_ev (g := gMod) (mC1_ev (mB_ev (g := gMul) v1 (b := mVar 6) (y := .p (nInt back)) (h2 := h ++ g') rfl (g_mul (cm9 (by omega)) _)) (r_intI _ _)) (b := mVar 1) (y := .p (nInt p)) (h2 := h ++ g') rfl (g_mod (by omega) _)
        rw [v2]
        show some (Mv.p (.int ((cellR R j k : Int) * (back : Int) % (p : Int))), h ++ g') = some (Mv.p (.int ((cellR R j k * back % p : Nat) : Int)), h ++ g')
        rw [Int.natCast_emod, Int.natCast_mul]
      have T5 : T < p := Nat.mod_lt _ (by omega)
      let e2 : En := [c, .p (nInt p), .loc n, .p (nInt at_), .p (nInt k), z5, .p (nInt back), .p (nInt j), z8, .p (nInt T), z10, w11, w12]
      obtain ⟨mj, mj0, mj1, mj2⟩ := q'.row (k := j) (by rw [o'.1]; exact jN)
      obtain ⟨ma, ma0, ma1, ma2⟩ := q'.row (k := at_) (by rw [o'.1]; exact ha)
      rw [ej] at mj2
      rw [ea] at ma2
      obtain ⟨lj, bj⟩ := o.row jN
      obtain ⟨la, ba⟩ := o.row ha
      have sz := src_zipL (args := (aCons (mB gIx (mVar 2) (mVar 7)) (aCons (mB gIx (mVar 2) (mVar 3)) aNil))) (e := e2) (h := h ++ g') (h1 := h ++ g') (x := .loc mj) (y := .loc ma) (ds := (R.getD j []).map fun x => .p (nInt x)) (es := (R.getD at_ []).map fun x => .p (nInt x))
        (aC_ev (mB_ev (a := mVar 2) (b := mVar 7) (x := .loc n) (y := .p (nInt j)) (h1 := h ++ g') (h2 := h ++ g') rfl rfl mj1) (aC_ev (mB_ev (a := mVar 2) (b := mVar 3) (x := .loc n) (y := .p (nInt at_)) (h1 := h ++ g') (h2 := h ++ g') rfl rfl ma1) (aN_ev _ _)))
        (by simp only [lstOf, mj2]) (by simp only [lstOf, ma2])
      have ez : (((R.getD j []).map fun x => Mv.p (nInt x)).zip ((R.getD at_ []).map fun x => Mv.p (nInt x))).map (fun p => mkT [p.1, p.2]) = ((R.getD j []).zip (R.getD at_ [])).map fun q => .p (.tuple [nInt q.1, nInt q.2]) := by
        rw [List.zip_map, List.map_map]
        rfl
      rw [ez] at sz
      have Q : EvN (mLc (sZip (aCons (mB gIx (mVar 2) (mVar 7)) (aCons (mB gIx (mVar 2) (mVar 3)) aNil))) (.tup [11, 12]) tYesM (mB gMod (mCall gInt (aCons (mB gSub (mVar 11) (mB gMul (mVar 9) (mVar 12))) aNil)) (mVar 1)) [11, 12]) e2 (h ++ g')
          (((R.getD j []).zip (R.getD at_ [])).map fun q => .p (nInt (((q.1 : Int) - (T : Int) * (q.2 : Int)) % (p : Int)).toNat)) := by
        refine lc_mapT (g := []) ((R.getD j []).zip (R.getD at_ [])) (fun q => .p (.tuple [nInt q.1, nInt q.2])) (fun q => .p (nInt (((q.1 : Int) - (T : Int) * (q.2 : Int)) % (p : Int)).toNat)) (by rw [List.append_nil]; exact sz) (fun g2 => ?_) (by rw [List.length_zip, sizeLine_eq]; omega) fun x hx g2 => ⟨[c, .p (nInt p), .loc n, .p (nInt at_), .p (nInt k), z5, .p (nInt back), .p (nInt j), z8, .p (nInt T), z10, .p (nInt x.1), .p (nInt x.2)], rfl, ?_⟩
        · rw [List.append_nil]
          exact ⟨lstOf_app (by simp only [lstOf, mj2]), lstOf_app (by simp only [lstOf, ma2])⟩
        · let e3 : En := [c, .p (nInt p), .loc n, .p (nInt at_), .p (nInt k), z5, .p (nInt back), .p (nInt j), z8, .p (nInt T), z10, .p (nInt x.1), .p (nInt x.2)]
          have v1 := mB_ev (g := gMul) (a := mVar 9) (b := mVar 12) (e := e3) (h := h ++ g' ++ g2) (x := .p (nInt T)) (y := .p (nInt x.2)) (h1 := h ++ g' ++ g2) (h2 := h ++ g' ++ g2) rfl rfl (g_mul (cm9 (by omega)) _)
          have v2 := mB_ev (g := gMod) (mC1_ev (mB_ev (g := gSub) (a := mVar 11) (e := e3) (h := h ++ g' ++ g2) (x := .p (nInt x.1)) (h1 := h ++ g' ++ g2) rfl v1 (gI_ev rfl _)) (r_intI _ _)) (b := mVar 1) (y := .p (nInt p)) (h2 := h ++ g' ++ g2) rfl (g_mod (by omega) _)
          rw [v2, ← nat_abs_form (Int.emod_nonneg _ (by omega))]
      obtain ⟨n2, g2, q1, q2, q3⟩ := Q
      have qa := q'.app g2
      have nn : n < (h ++ g').length := by
        obtain ⟨ms, hm, _⟩ := q'
        exact (List.getElem?_eq_some_iff.mp hm).1
      let row : List Nat := ((R.getD j []).zip (R.getD at_ [])).map fun q => (((q.1 : Int) - (T : Int) * (q.2 : Int)) % (p : Int)).toNat
      have q2' : (h ++ g' ++ g2)[n2]? = some (rowM row) := by
        rw [q2]
        show some (Mo.lst _) = some (Mo.lst (List.map _ (List.map _ _)))
        rw [List.map_map]; rfl
      obtain ⟨o1, p1, p2⟩ := qa.put (k := j) q2' (by omega) (by rw [o'.1]; exact jN)
      have eg : (h ++ g' ++ g2).set n o1 = h ++ ((g' ++ g2).set (n - h.length) o1) := by rw [List.append_assoc, List.set_append_right _ _ hn]
      have jl : j < R'.length := by rw [o'.1]; exact jN
      have rl : row.length = r := by show (List.map _ _).length = r; rw [List.length_map, List.length_zip]; omega
      refine ⟨e1, e2, h ++ ((g' ++ g2).set (n - h.length) o1), rfl, ?_, (g' ++ g2).set (n - h.length) o1, R'.set j row, .p (nInt j), .p (nInt T), w11, w12, rfl, rfl, by rw [← eg]; exact p2, ⟨by rw [List.length_set]; exact o'.1, fun s hs => ?_⟩, fun x hx => ?_, fun x hx1 hx2 j' hj' => ?_⟩
      · rw [bSeq_nx A, ← eg]
        exact sSub_ev q1 (mo := mVar 2) (o := .loc n) (h2 := h ++ g' ++ g2) rfl (mi := mVar 7) (i := .p (nInt j)) (h3 := h ++ g' ++ g2) rfl p1
      · rcases List.mem_or_eq_of_mem_set hs with hs | hs
        · exact o'.2 s hs
        · subst hs
          refine ⟨rl, fun y hy => ?_⟩
          obtain ⟨w, hw, rfl⟩ := List.mem_map.mp hy
          have := Int.emod_lt_of_pos ((w.1 : Int) - (T : Int) * (w.2 : Int)) (show (0 : Int) < p by omega)
          have := Int.emod_nonneg ((w.1 : Int) - (T : Int) * (w.2 : Int)) (show (p : Int) ≠ 0 by omega)
          omega
      · rw [getD_set jl, if_neg (by omega)]
        exact f1 x (by omega)
      · by_cases hxj : x = j
        · subst hxj
          have : (R'.set x row).getD x [] = row := by rw [getD_set jl, if_pos rfl]
          unfold redC cellR
          rw [this]
          show row.getD j' 0 = (((((R.getD x []).getD j' 0 : Nat) : Int) - (T : Int) * (((R.getD at_ []).getD j' 0 : Nat) : Int)) % (p : Int)).toNat
          have b1 : j' < (R.getD x []).length := by omega
          have b2 : j' < (R.getD at_ []).length := by omega
          show (List.map _ ((R.getD x []).zip (R.getD at_ []))).getD j' 0 = _
          generalize R.getD x [] = u at b1
          generalize R.getD at_ [] = v at b2
          rw [List.getD_eq_getElem?_getD, List.getD_eq_getElem?_getD, List.getD_eq_getElem?_getD, List.getElem?_map, show (u.zip v)[j']? = some (u[j'], v[j']) from List.getElem?_zip_eq_some.mpr ⟨List.getElem?_eq_getElem b1, List.getElem?_eq_getElem b2⟩, List.getElem?_eq_getElem b1, List.getElem?_eq_getElem b2]
          rfl
        · have : cellR (R'.set j row) x j' = cellR R' x j' := by
            unfold cellR
            rw [getD_set jl, if_neg hxj]
          rw [this]
          exact f2 x hx1 (by omega) j' hj')
  obtain ⟨e', h', s2, g', R', w7, w9, w11, w12, rfl, rfl, q', o', f1, f2⟩ := F
  rw [List.length_range] at f1 f2
  exact ⟨g', R', w7, w9, w11, w12, s2, q', o', fun x hx => f1 x (.inl hx), fun x h1 h2 => f2 x h1 (by omega)⟩
end
end Wk
set_option Elab.async false
set_option linter.all false
set_option maxRecDepth 100000
set_option maxHeartbeats 1000000
set_option autoImplicit false
namespace Wk
open PySem PySem.Spec L2 MX
/-- rows as vectors -/
def rv (R : List (List Nat)) : Mt.Vf := fun x j => ((cellR R x j : Nat) : Int)
theorem nd_small {p x : Nat} (h0 : x ≠ 0) (h : x < p) : ¬ (p : Int) ∣ (x : Int) := fun d => by
  have := Nat.le_of_dvd (by omega) (Int.natCast_dvd_natCast.mp d)
  omega
theorem mem_rng {at_ N x : Nat} (h : at_ ≤ N) : x ∈ List.range' at_ (N - at_) ↔ at_ ≤ x ∧ x < N := by
  rw [List.mem_range']
  constructor
  · rintro ⟨i, h1, rfl⟩; omega
  · intro ⟨h1, h2⟩; exact ⟨x - at_, by omega, by omega⟩
theorem swap_get {p N r : Nat} {R : List (List Nat)} (o : OkR p N r R) {a b x : Nat} (ha : a < N) (hb : b < N) : (swapR R a b).getD x [] = R.getD (if x = a then b else if x = b then a else x) [] := by
  unfold swapR
  rw [getD_set (by rw [List.length_set, o.1]; exact hb), getD_set (by rw [o.1]; exact ha)]
  by_cases h1 : x = b
  · subst h1
    rw [if_pos rfl]
    by_cases h2 : x = a
    · subst h2; rw [if_pos rfl]
    · rw [if_neg h2, if_pos rfl]
  · rw [if_neg h1]
    by_cases h2 : x = a
    · rw [if_pos h2, if_pos h2]
    · rw [if_neg h2, if_neg h2, if_neg h1]
theorem place_none {p N r at_ k : Nat} {R : List (List Nat)} (ha : at_ ≤ N) (h : someR R N at_ k = []) : Mt.IndK p k r (rv R) (List.range' at_ (N - at_)) ↔ Mt.IndK p (k + 1) r (rv R) (List.range' at_ (N - at_)) := by
  refine Mt.elim_none fun x hx => ?_
  rw [mem_rng ha] at hx
  unfold someR at h
  rw [List.filter_eq_nil_iff] at h
  have := h x (List.mem_map.mpr ⟨x - at_, List.mem_range.mpr (by omega), by omega⟩)
  have e : cellR R x k = 0 := by simpa using this
  unfold rv
  rw [e]
  exact Int.dvd_zero _
theorem place_some {p N r at_ k i back : Nat} {R R' : List (List Nat)} (hp : Mt.Inv (p : Int)) (p0 : 0 < p) (hk : k < r) (o : OkR p N r R) (ha : at_ ≤ N) (hi : i ∈ someR R N at_ k) (hb : back * cellR (swapR R at_ i) at_ k % p = 1)
    (hR : ∀ x, at_ < x → x < N → ∀ j, j < r → cellR R' x j = redC (swapR R at_ i) p at_ k back x j) :
    at_ < N ∧ i < N ∧ (Mt.IndK p k r (rv R) (List.range' at_ (N - at_)) ↔ Mt.IndK p (k + 1) r (rv R') (List.range' (at_ + 1) (N - (at_ + 1)))) := by
  unfold someR at hi
  obtain ⟨hi1, hi2⟩ := List.mem_filter.mp hi
  obtain ⟨i', h1, h2⟩ := List.mem_map.mp hi1
  have h1 := List.mem_range.mp h1
  have hiN : i < N := by omega
  have haN : at_ < N := by omega
  have hne : cellR R i k ≠ 0 := by simpa using hi2
  refine ⟨haN, hiN, ?_⟩
  have sw : Mt.IndK p k r (rv R) (List.range' at_ (N - at_)) ↔ Mt.IndK p k r (rv (swapR R at_ i)) (List.range' at_ (N - at_)) := by
    refine Mt.ind_swap (List.nodup_range') (a := at_) (b := i) ((mem_rng ha).mpr ⟨Nat.le_refl _, haN⟩) ((mem_rng ha).mpr ⟨by omega, hiN⟩) fun x hx j => ?_
    unfold rv cellR
    rw [swap_get o haN hiN]
  rw [sw]
  have er : List.range' at_ (N - at_) = at_ :: List.range' (at_ + 1) (N - (at_ + 1)) := by
    have : N - at_ = (N - (at_ + 1)) + 1 := by omega
    rw [this, List.range'_succ]
  rw [er]
  have so := swap_ok o haN hiN
  have ek : cellR (swapR R at_ i) at_ k = cellR R i k := by
    unfold cellR
    rw [swap_get o haN hiN, if_pos rfl]
  have hb' : (back : Int) * (cellR (swapR R at_ i) at_ k : Int) % (p : Int) = 1 := by
    rw [← Int.natCast_mul, ← Int.natCast_emod, hb]; rfl
  have red : ∀ x ∈ List.range' (at_ + 1) (N - (at_ + 1)), ∀ j, j < r → (p : Int) ∣ rv R' x j - (rv (swapR R at_ i) x j - ((cellR (swapR R at_ i) x k * back % p : Nat) : Int) * rv (swapR R at_ i) at_ j) := fun x hx j hj => by
    rw [mem_rng (by omega)] at hx
    unfold rv
    rw [hR x (by omega) hx.2 j hj]
    unfold redC
    rw [Int.toNat_of_nonneg (Int.emod_nonneg _ (by omega))]
    generalize ((cellR (swapR R at_ i) x j : Int) - ((cellR (swapR R at_ i) x k * back % p : Nat) : Int) * (cellR (swapR R at_ i) at_ j : Int)) = u
    refine ⟨-(u / p), ?_⟩
    have := Int.emod_def u p
    rw [this, Int.mul_neg]
    omega
  refine Mt.elim_step hp hk (fun x => ((cellR (swapR R at_ i) x k * back % p : Nat) : Int)) ?_ ?_ ?_ ?_
  · unfold rv
    rw [ek]
    exact nd_small hne (o.lt hiN hk)
  · rw [mem_rng (by omega)]; omega
  · intro x hx
    have h1 := red x hx k hk
    have h2 : (p : Int) ∣ rv (swapR R at_ i) x k - ((cellR (swapR R at_ i) x k * back % p : Nat) : Int) * rv (swapR R at_ i) at_ k := by
      unfold rv
      rw [Int.natCast_emod, Int.natCast_mul]
      exact pv hb'
    have := Int.dvd_add h1 h2
    rw [Int.sub_add_cancel] at this
    exact this
  · intro x hx j _ hj
    exact red x hx j hj
theorem inv_of {p : Nat} (hp : p = 2 ∨ p = 3 ∨ p = 5) : Mt.Inv (p : Int) := by
  rcases hp with rfl | rfl | rfl
  · exact Mt.inv2
  · exact Mt.inv3
  · exact Mt.inv5
theorem e_loose (m0 p r : Nat) (h : Hq) (cols : List (List Nat)) (hl : lstOf h (.loc m0) = some (cols.map fun c => .p (lot c))) (hp : p = 2 ∨ p = 3 ∨ p = 5) (hc : ∀ c ∈ cols, c.length = r ∧ ∀ x ∈ c, x < p) (hN : cols.length ≤ 1000) (hr : r ≤ 1000) :
    ∃ b : Bool, F__law_loose_by [.loc m0, .p (nInt p)] h = some (.p (.bool b), h) ∧ (b = true ↔ Mt.IndK p 0 r (rv cols) (List.range cols.length)) ∧ (b = true → cols.length ≤ r) := by
  have p0 : 0 < p := by omega
  have p5 : p ≤ 5 := by omega
  obtain ⟨N, eN⟩ : ∃ N, N = cols.length := ⟨_, rfl⟩
  have o0 : OkR p N r cols := ⟨eN.symm, hc⟩
  rw [← eN] at hN ⊢
  obtain ⟨g0, i1, i2⟩ := rows_init m0 p h cols (List.replicate 11 .und) rfl hl (fun c h1 => (hc c h1).2) (fun c h1 => by rw [(hc c h1).1, sizeLine_eq]; omega) (by rw [sizeLine_eq]; omega) p0 rfl
  have i1 : mLc (sSeq (mVar 0)) (.nm 8) tYesM (mLc (sSeq (mVar 8)) (.nm 10) tYesM (mB gMod (mCall gInt (aCons (mVar 10) aNil)) (mVar 1)) [10]) [8] [.loc m0, .p (nInt p), .und, .und, .und, .und, .und, .und, .und, .und, .und, .und, .und] h = some (.loc h.length, h ++ g0) := i1
  have s1 : sPar (aCons (mLc (sSeq (mVar 0)) (.nm 8) tYesM (mLc (sSeq (mVar 8)) (.nm 10) tYesM (mB gMod (mCall gInt (aCons (mVar 10) aNil)) (mVar 1)) [10]) [8]) (aCons (mC (.int 0)) aNil)) [2, 3] [.loc m0, .p (nInt p), .und, .und, .und, .und, .und, .und, .und, .und, .und, .und, .und] h
      = some (.nx, [.loc m0, .p (nInt p), .loc h.length, .p (nInt 0), .und, .und, .und, .und, .und, .und, .und, .und, .und], h ++ g0) := by
    rw [r_par, aC_ev i1 (aC_ev (mC_ev (.int 0) _ _) (aN_ev _ _))]
    simp only [Option.bind_some]
    rw [if_pos (by simp)]
    rfl
  -- how many places
  let eA : En := [.loc m0, .p (nInt p), .loc h.length, .p (nInt 0), .und, .und, .und, .und, .und, .und, .und, .und, .und]
  obtain ⟨r', hr', er'⟩ : ∃ r' : Nat, (N = 0 ∧ r' = 0 ∨ N ≠ 0 ∧ r' = r) ∧ (mIf (tGc (mBo (mB gNe (mVar 2) (mLst aNil)))) (mCall gLen (aCons (mB gIx (mVar 2) (mC (.int 0))) aNil)) (mC (.int 0))) eA (h ++ g0) = some (.p (nInt r'), h ++ g0) := by
    have t1 := tGc_ne (a := mVar 2) (e := eA) (hh := h ++ g0) (n := h.length) rfl i2.ne
    rw [r_if, t1]
    simp only [Option.bind_some]
    by_cases h0 : N = 0
    · have : cols = [] := List.eq_nil_of_length_eq_zero (by omega)
      rw [if_neg (by simp [this])]
      exact ⟨0, .inl ⟨h0, rfl⟩, rfl⟩
    · have : cols ≠ [] := fun z => by rw [z] at eN; exact h0 eN
      rw [if_pos (by simp [this])]
      obtain ⟨m, _, m1, m2⟩ := i2.row (k := 0) (by omega)
      refine ⟨r, .inr ⟨h0, rfl⟩, ?_⟩
      have := mC1_ev (mB_ev (a := mVar 2) (e := eA) (h := h ++ g0) (x := .loc h.length) (h1 := h ++ g0) rfl (mC_ev (.int 0) _ _) m1) (len_lst (ds := (cols.getD 0 []).map fun x => .p (nInt x)) (by simp only [lstOf, m2]))
      rw [this, List.length_map, (o0.row (x := 0) (by omega)).1]
  have e20 : (2 : Int) ^ 62 = 4611686018427387904 := by decide
  have src := src_rng1 (args := aCons (mIf (tGc (mBo (mB gNe (mVar 2) (mLst aNil)))) (mCall gLen (aCons (mB gIx (mVar 2) (mC (.int 0))) aNil)) (mC (.int 0))) aNil) (e := eA) (h := h ++ g0) (h1 := h ++ g0) (j := (r' : Int)) (aC_ev er' (aN_ev _ _)) (by unfold bnd; rw [decide_eq_true_iff]; omega)
  have el : (List.range ((r' : Int)).toNat).map (fun i : Nat => Mv.int (i : Int)) = (List.range r').map fun x => .p (nInt x) := by
    rw [Int.toNat_natCast]
  rw [el] at src
  have F := for_inv (t := .nm 4) (b := (bSeq (sAsg (mLc (sRng2 (aCons (mVar 3) (aCons (mCall gLen (aCons (mVar 2) aNil)) aNil))) (.nm 7) (mBo (mB gNe (mB gIx (mB gIx (mVar 2) (mVar 7)) (mVar 4)) (mC (.int 0)))) (mVar 7) [7]) (.nm 5)) (sIf (tGc (mBo (mB gNe (mVar 5) (mLst aNil)))) (bSeq (sSwap (aCons (mB gIx (mVar 2) (mB gIx (mVar 5) (mC (.int 0)))) (aCons (mB gIx (mVar 2) (mVar 3)) aNil)) (mVar 2) (mVar 3) (mVar 2) (mB gIx (mVar 5) (mC (.int 0)))) (bSeq (sAsg (mGc (mB gIx (mLc (sRng2 (aCons (mC (.int 1)) (aCons (mVar 1) aNil))) (.nm 11) (mBo (mB gEq (mB gMod (mCall gInt (aCons (mB gMul (mVar 11) (mB gIx (mB gIx (mVar 2) (mVar 3)) (mVar 4))) aNil)) (mVar 1)) (mC (.int 1)))) (mVar 11) [11]) (mC (.int 0)))) (.nm 6)) (bSeq (sFor (sRng2 (aCons (mB gAdd (mVar 3) (mC (.int 1))) (aCons (mCall gLen (aCons (mVar 2) aNil)) aNil))) (.nm 7) (bSeq (sAsg (mB gMod (mCall gInt (aCons (mB gMul (mB gIx (mB gIx (mVar 2) (mVar 7)) (mVar 4)) (mVar 6)) aNil)) (mVar 1)) (.nm 9)) (sSub (mVar 2) (mVar 7) (mLc (sZip (aCons (mB gIx (mVar 2) (mVar 7)) (aCons (mB gIx (mVar 2) (mVar 3)) aNil))) (.tup [11, 12]) tYesM (mB gMod (mCall gInt (aCons (mB gSub (mVar 11) (mB gMul (mVar 9) (mVar 12))) aNil)) (mVar 1)) [11, 12])))) (sAsg (mB gAdd (mVar 3) (mC (.int 1))) (.nm 3))))) bNil)))
    (fun k e hh => ∃ g R at_ z4 z5 z6 z7 z8 z9 z10 z11 z12, e = [.loc m0, .p (nInt p), .loc h.length, .p (nInt at_), z4, z5, z6, z7, z8, z9, z10, z11, z12] ∧ hh = h ++ g ∧ RowsAt (h ++ g) h.length R ∧ OkR p N r R ∧ at_ ≤ N ∧ at_ ≤ k ∧
      (Mt.IndK p 0 r (rv cols) (List.range N) ↔ Mt.IndK p k r (rv R) (List.range' at_ (N - at_))))
    (List.range r') (fun x => .p (nInt x)) src (fun _ _ _ _ => trivial)
    ⟨g0, cols, 0, .und, .und, .und, .und, .und, .und, .und, .und, .und, rfl, rfl, i2, o0, Nat.zero_le _, Nat.zero_le _, by rw [Nat.sub_zero, List.range_eq_range']⟩
    (fun k hk e hh ⟨g, R, at_, z4, z5, z6, z7, z8, z9, z10, z11, z12, e1, e2, q, o, a1, a2, ind⟩ => by
      subst e1; subst e2
      rw [List.length_range] at hk
      rw [List.getElem_range]
      have kr : k < r := by rcases hr' with ⟨_, z⟩ | ⟨_, z⟩ <;> omega
      obtain ⟨n5, g5, s5, l5, n5l⟩ := some_ev (c := .loc m0) (z5 := z5) (z6 := z6) (z7 := z7) (z8 := z8) (z9 := z9) (z10 := z10) (z11 := z11) (z12 := z12) q o a1 kr hN
      have ll5 : lstOf (h ++ g ++ g5) (.loc n5) = some ((someR R N at_ k).map fun x => .p (nInt x)) := by simp only [lstOf, l5]
      have c1 := sAsg_ev (i := 5) s5 (show 5 < 13 by decide)
      have q5 := q.app g5
      have n5h : n5 ≠ h.length := by
        obtain ⟨ms, hm, _⟩ := q
        have := (List.getElem?_eq_some_iff.mp hm).1
        omega
      let e5 : En := [.loc m0, .p (nInt p), .loc h.length, .p (nInt at_), .p (nInt k), .loc n5, z6, z7, z8, z9, z10, z11, z12]
      have t5 := tGc_ne (a := mVar 5) (e := e5) (hh := h ++ g ++ g5) (n := n5) rfl (ints_ne ll5)
      cases hs : someR R N at_ k with
      | nil =>
        rw [hs] at t5
        refine ⟨[.loc m0, .p (nInt p), .loc h.length, .p (nInt at_), .p (nInt k), z5, z6, z7, z8, z9, z10, z11, z12], e5, h ++ (g ++ g5), rfl, ?_, g ++ g5, R, at_, .p (nInt k), .loc n5, z6, z7, z8, z9, z10, z11, z12, rfl, rfl, by rw [← List.append_assoc]; exact q5, o, a1, by omega, ind.trans (place_none a1 hs)⟩
        rw [bSeq_nx c1]
        refine (sIf_f t5).trans ?_
        rw [← List.append_assoc]
        rfl
      | cons i rest =>
        rw [hs] at t5 ll5
        have him : i ∈ someR R N at_ k := by rw [hs]; simp
        obtain ⟨hiN, haN⟩ : i < N ∧ at_ < N := by
          unfold someR at him
          obtain ⟨i', h1, h2⟩ := List.mem_map.mp (List.mem_filter.mp him).1
          have h1 := List.mem_range.mp h1
          omega
        have hine : cellR R i k ≠ 0 := by
          unfold someR at him
          simpa using (List.mem_filter.mp him).2
        obtain ⟨o1, w1, w2⟩ := swap_ev (c := .loc m0) (p := p) (k := k) (z6 := z6) (z7 := z7) (z8 := z8) (z9 := z9) (z10 := z10) (z11 := z11) (z12 := z12) q5 o haN hiN ll5 n5h
        have so := swap_ok o haN hiN
        have sk : cellR (swapR R at_ i) at_ k ≠ 0 := by
          unfold cellR
          rw [swap_get o haN hiN, if_pos rfl]
          exact hine
        obtain ⟨back, b1, b2, b3⟩ := back_ev (c := .loc m0) (z5 := .loc n5) (z6 := z6) (z7 := z7) (z8 := z8) (z9 := z9) (z10 := z10) (z11 := z11) (z12 := z12) w2 so haN kr hp sk
        have c3 := sAsg_ev (i := 6) b3 (show 6 < 13 by decide)
        obtain ⟨g6, eg⟩ : ∃ g6, (h ++ g ++ g5).set h.length o1 = h ++ g6 := ⟨_, by rw [List.append_assoc, List.set_append_right _ _ (Nat.le_refl _)]⟩
        rw [eg] at w1 w2 c3
        obtain ⟨g7, R', w7, w9, w11, w12, v1, v2, v3, v4, v5⟩ := elim_ev (c := .loc m0) (z5 := .loc n5) (z7 := z7) (z8 := z8) (z9 := z9) (z10 := z10) (z11 := z11) (z12 := z12) w2 (Nat.le_refl _) so haN kr hN b1 p5 hr
        obtain ⟨_, _, pi⟩ := place_some (inv_of hp) p0 kr o a1 him b2 v5
        have c5 := sAsg_ev (i := 3) (mB_ev (g := gAdd) (a := mVar 3) (e := [.loc m0, .p (nInt p), .loc h.length, .p (nInt at_), .p (nInt k), .loc n5, .p (nInt back), w7, z8, w9, z10, w11, w12]) (h := h ++ g7) (x := .p (nInt at_)) (h1 := h ++ g7) rfl (mC_ev (.int 1) _ _) (r_addI _ _ _)) (show 3 < 13 by decide)
        refine ⟨[.loc m0, .p (nInt p), .loc h.length, .p (nInt at_), .p (nInt k), z5, z6, z7, z8, z9, z10, z11, z12], [.loc m0, .p (nInt p), .loc h.length, .p (nInt (at_ + 1)), .p (nInt k), .loc n5, .p (nInt back), w7, z8, w9, z10, w11, w12], h ++ g7, rfl, ?_, g7, R', at_ + 1, .p (nInt k), .loc n5, .p (nInt back), w7, z8, w9, z10, w11, w12, rfl, rfl, v2, v3, by omega, by omega, ind.trans pi⟩
        rw [bSeq_nx c1]
        refine (sIf_t t5).trans ?_
        refine (bSeq_nx w1).trans ?_
        refine (bSeq_nx c3).trans ?_
        refine (bSeq_nx v1).trans ?_
        exact c5)
  obtain ⟨e', h', s2, g, R, at_, z4, z5, z6, z7, z8, z9, z10, z11, z12, rfl, rfl, q, o, a1, a2, ind⟩ := F
  rw [List.length_range] at a2 ind
  refine ⟨decide (at_ = N), ?_, ?_, fun hb => ?_⟩
  · refine runF_rg [.loc m0, .p (nInt p), .und, .und, .und, .und, .und, .und, .und, .und, .und, .und, .und] g ?_
    unfold b__law_loose_by
    rw [bSeq_nx s1, bSeq_nx s2, retOf_sRet]
    have := mB_ev (g := gEq) (a := mVar 3) (e := [.loc m0, .p (nInt p), .loc h.length, .p (nInt at_), z4, z5, z6, z7, z8, z9, z10, z11, z12]) (h := h ++ g) (x := .p (nInt at_)) (h1 := h ++ g) rfl (mC1_ev (a := mVar 2) (x := .loc h.length) (h1 := h ++ g) rfl q.len) (eq_int _ _ _)
    rw [this, o.1]
    have : decide ((at_ : Int) = (N : Int)) = decide (at_ = N) := by
      rw [Bool.eq_iff_iff, decide_eq_true_iff, decide_eq_true_iff]; omega
    rw [this]
  · rw [decide_eq_true_iff, ind]
    rcases hr' with ⟨z, z2⟩ | ⟨z, z2⟩
    · subst z2
      have : N - at_ = 0 := by omega
      rw [this]
      refine ⟨fun _ => ?_, fun _ => by omega⟩
      intro c _ x hx
      cases hx
    · subst z2
      rw [Mt.elim_end (inv_of hp)]
      constructor
      · intro h; rw [h, Nat.sub_self]; rfl
      · intro h
        have := congrArg List.length h
        simp at this
        omega
  · have := of_decide_eq_true hb
    rcases hr' with ⟨z, z2⟩ | ⟨z, z2⟩ <;> omega
end Wk
set_option Elab.async false
set_option linter.all false
set_option maxRecDepth 100000
set_option maxHeartbeats 1000000
set_option autoImplicit false
namespace Wk
open PySem PySem.Spec L2 MX
theorem sm_map (l : List Nat) (f : Nat → Nat) (g : Nat → Int) : Mt.sm (l.map f) g = Mt.sm l fun x => g (f x) := by
  unfold Mt.sm; rw [List.map_map]; rfl
theorem range_get {l : List Nat} : (List.range l.length).map (fun x => l.getD x 0) = l := by
  refine List.ext_getElem (by simp) fun i h1 h2 => ?_
  rw [List.getElem_map, List.getElem_range, List.getD_eq_getElem?_getD, List.getElem?_eq_getElem h2]
  rfl
theorem ind_re {p : Int} {k r : Nat} {v : Mt.Vf} {l : List Nat} (nd : l.Nodup) : Mt.IndK p k r (fun x j => v (l.getD x 0) j) (List.range l.length) ↔ Mt.IndK p k r v l := by
  constructor
  · intro i c hc x hx
    have := i (fun y => c (l.getD y 0)) (fun j h1 h2 => by
      have e := sm_map (List.range l.length) (fun x => l.getD x 0) fun x => c x * v x j
      rw [range_get] at e
      rw [← e]
      exact hc j h1 h2)
    obtain ⟨y, hy, e⟩ := List.getElem_of_mem hx
    have h := this y (List.mem_range.mpr hy)
    rw [List.getD_eq_getElem?_getD, List.getElem?_eq_getElem hy] at h
    rw [← e]
    exact h
  · intro i c hc x hx
    have hx := List.mem_range.mp hx
    have hi : ∀ y, y < l.length → l.idxOf (l.getD y 0) = y := fun y hy => by
      rw [List.getD_eq_getElem?_getD, List.getElem?_eq_getElem hy]
      exact nd.idxOf_getElem y hy
    have := i (fun y => c (l.idxOf y)) (fun j h1 h2 => by
      have e := sm_map (List.range l.length) (fun x => l.getD x 0) fun x => c (l.idxOf x) * v x j
      rw [range_get] at e
      rw [e]
      have e2 : (Mt.sm (List.range l.length) fun x => c (l.idxOf (l.getD x 0)) * v (l.getD x 0) j) = Mt.sm (List.range l.length) fun x => c x * v (l.getD x 0) j := Mt.sm_congr fun y hy => by rw [hi y (List.mem_range.mp hy)]
      rw [e2]
      exact hc j h1 h2) l[x] (List.getElem_mem hx)
    have h2 := hi x hx
    rw [List.getD_eq_getElem?_getD, List.getElem?_eq_getElem hx] at h2
    rw [← h2]
    exact this
/-! ### all lots -/
theorem lotsL_succ (N : Nat) : lotsL (List.range (N + 1)) = lotsL (List.range N) ++ (lotsL (List.range N)).map (· ++ [N]) := by
  unfold lotsL
  rw [List.range_succ, List.foldl_append]
  rfl
theorem lot_snoc {N : Nat} {l : List Nat} : Lot (N + 1) l ↔ Lot N l ∨ ∃ l', Lot N l' ∧ l = l' ++ [N] := by
  constructor
  · intro h
    rcases List.eq_nil_or_concat l with rfl | ⟨l', x, rfl⟩
    · exact .inl ⟨.nil, fun _ z => by cases z⟩
    · obtain ⟨h1, h2⟩ := h
      rw [List.concat_eq_append] at h1 h2 ⊢
      rw [List.pairwise_append] at h1
      have hx := h2 x (by simp)
      have hl : ∀ y ∈ l', y < x := fun y hy => h1.2.2 y hy x (by simp)
      by_cases e : x = N
      · subst e
        exact .inr ⟨l', ⟨h1.1, hl⟩, rfl⟩
      · refine .inl ⟨List.pairwise_append.mpr h1, fun y hy => ?_⟩
        rcases List.mem_append.mp hy with hy | hy
        · have := hl y hy; omega
        · rw [List.mem_singleton.mp hy]; omega
  · rintro (h | ⟨l', h, rfl⟩)
    · exact h.mono (by omega)
    · refine ⟨List.pairwise_append.mpr ⟨h.1, List.pairwise_singleton _ _, fun a ha b hb => by rw [List.mem_singleton.mp hb]; exact h.2 a ha⟩, fun y hy => ?_⟩
      rcases List.mem_append.mp hy with hy | hy
      · have := h.2 y hy; omega
      · rw [List.mem_singleton.mp hy]; omega
theorem mem_lotsL : ∀ {N : Nat} {l : List Nat}, l ∈ lotsL (List.range N) ↔ Lot N l
  | 0, l => by
    have : lotsL (List.range 0) = [[]] := rfl
    rw [this, List.mem_singleton]
    constructor
    · rintro rfl; exact ⟨.nil, fun _ z => by cases z⟩
    · intro h
      have := h.len
      exact List.eq_nil_of_length_eq_zero (by omega)
  | N + 1, l => by
    rw [lotsL_succ, List.mem_append, mem_lotsL, List.mem_map, lot_snoc]
    refine or_congr_right ⟨fun ⟨l', h, e⟩ => ⟨l', mem_lotsL.mp h, e.symm⟩, fun ⟨l', h, e⟩ => ⟨l', mem_lotsL.mpr h, e.symm⟩⟩
theorem lotsL_n (N : Nat) : (lotsL (List.range N)).length = 2 ^ N := by
  unfold lotsL
  rw [lotsL_len]
  simp
theorem filter_few {α : Type} {p : α → Bool} {l : List α} (h : ∃ x ∈ l, p x = false) : (l.filter p).length < l.length := by
  obtain ⟨x, hx, e⟩ := h
  refine Nat.lt_of_le_of_ne (List.length_filter_le _ _) fun z => ?_
  have := List.length_filter_eq_length_iff.mp z x hx
  rw [e] at this; cases this
/-- of six things at most 63 lots, if one is left out -/
theorem few64 {N : Nat} (hN : N ≤ 6) {p : List Nat → Bool} (h : ∃ l, Lot N l ∧ p l = false) : ((lotsL (List.range N)).filter p).length < 64 := by
  have h1 := filter_few (p := p) (l := lotsL (List.range N)) (by
    obtain ⟨l, a, b⟩ := h
    exact ⟨l, mem_lotsL.mpr a, b⟩)
  rw [lotsL_n] at h1
  have : 2 ^ N ≤ 2 ^ 6 := Nat.pow_le_pow_right (by decide) hN
  omega
theorem lot_nil (N : Nat) : Lot N [] := ⟨.nil, fun _ z => by cases z⟩
theorem lot_zero {N : Nat} (h : 1 ≤ N) : Lot N [0] := ⟨List.pairwise_singleton _ _, fun y hy => by rw [List.mem_singleton.mp hy]; omega⟩
/-! ### the choice of columns -/
open Classical in
noncomputable def looseB (p r : Nat) (cols : List (List Nat)) (l : List Nat) : Bool := decide (Mt.IndK (p : Int) 0 r (rv cols) l)
theorem loose_iff {p r : Nat} {cols : List (List Nat)} {l : List Nat} : looseB p r cols l = true ↔ Mt.IndK (p : Int) 0 r (rv cols) l := by
  unfold looseB
  exact @decide_eq_true_iff _ (Classical.propDecidable _)
noncomputable def looseL (p r : Nat) (cols : List (List Nat)) : List (List Nat) := (lotsL (List.range cols.length)).filter (looseB p r cols)
noncomputable def fullsL (p r : Nat) (cols : List (List Nat)) : List (List Nat) := bestL (looseL p r cols)
structure ColOk (p r N : Nat) (cols : List (List Nat)) : Prop where
  prime : p = 2 ∨ p = 3 ∨ p = 5
  col : ∀ c ∈ cols, c.length = r ∧ ∀ x ∈ c, x < p
  len : cols.length = N
  one : 1 ≤ N
  six : N ≤ 6
  four : r ≤ 4
section
variable {p r N : Nat} {cols : List (List Nat)} (k : ColOk p r N cols)
include k
theorem ColOk.loose (m0 : Nat) (h : Hq) (l : List Nat) (hl : Lot N l) (hm : lstOf h (.loc m0) = some ((l.map fun x => cols.getD x []).map fun c => .p (lot c))) :
    F__law_loose_by [.loc m0, .p (nInt p)] h = some (.p (.bool (looseB p r cols l)), h) ∧ (looseB p r cols l = true → l.length ≤ r) := by
  have lN := hl.len
  have h6 := k.six
  have h4 := k.four
  obtain ⟨b, e1, e2, e3⟩ := e_loose m0 p r h (l.map fun x => cols.getD x []) hm k.prime (fun c hc => by
    obtain ⟨x, hx, rfl⟩ := List.mem_map.mp hc
    have hx := hl.2 x hx
    rw [List.getD_eq_getElem?_getD, List.getElem?_eq_getElem (by rw [k.len]; exact hx)]
    exact k.col _ (List.getElem_mem _)) (by rw [List.length_map]; omega) (by omega)
  rw [List.length_map] at e2 e3
  have re : Mt.IndK (p : Int) 0 r (rv (l.map fun x => cols.getD x [])) (List.range l.length) ↔ Mt.IndK (p : Int) 0 r (rv cols) l := by
    rw [← ind_re hl.nodup]
    have ee : ∀ x ∈ List.range l.length, ∀ j, rv (l.map fun x => cols.getD x []) x j = rv cols (l.getD x 0) j := fun x hx j => by
      have hx := List.mem_range.mp hx
      unfold rv cellR
      rw [List.getD_eq_getElem?_getD (l := l.map _), List.getElem?_map, List.getD_eq_getElem?_getD (l := l), List.getElem?_eq_getElem hx]
      rfl
    constructor
    · intro i c hc
      refine i c fun j h1 h2 => ?_
      rw [Mt.sm_congr (g := fun x => c x * rv cols (l.getD x 0) j) fun x hx => by rw [ee x hx]]
      exact hc j h1 h2
    · intro i c hc
      refine i c fun j h1 h2 => ?_
      rw [← Mt.sm_congr (f := fun x => c x * rv (l.map fun x => cols.getD x []) x j) fun x hx => by rw [ee x hx]]
      exact hc j h1 h2
  have eb : b = looseB p r cols l := by
    rw [Bool.eq_iff_iff, e2, re, loose_iff]
  subst eb
  exact ⟨e1, e3⟩
theorem ColOk.loose_nil : looseB p r cols [] = true := by
  rw [loose_iff]
  intro c _ x hx
  cases hx
theorem ColOk.mem_loose {l : List Nat} : l ∈ looseL p r cols ↔ Lot N l ∧ looseB p r cols l = true := by
  unfold looseL
  rw [List.mem_filter, k.len, mem_lotsL]
theorem ColOk.nil_mem : [] ∈ looseL p r cols := k.mem_loose.mpr ⟨lot_nil N, k.loose_nil⟩
theorem ColOk.most_few : ((looseL p r cols).filter fun l => decide (((l.length : Nat) : Int) = mostN (looseL p r cols))).length < 64 := by
  unfold looseL
  rw [List.filter_filter, k.len]
  refine few64 k.six ?_
  generalize mostN _ = M
  by_cases h : (0 : Int) = M
  · refine ⟨[0], lot_zero k.one, ?_⟩
    have : decide ((([0] : List Nat).length : Int) = M) = false := decide_eq_false (by rw [← h]; decide)
    rw [this]; rfl
  · refine ⟨[], lot_nil N, ?_⟩
    have : decide ((([] : List Nat).length : Int) = M) = false := decide_eq_false h
    rw [this]; rfl
theorem ColOk.mem_fulls {f : List Nat} : f ∈ fullsL p r cols ↔ (Lot N f ∧ looseB p r cols f = true) ∧ ∀ l, Lot N l → looseB p r cols l = true → l.length ≤ f.length := by
  unfold fullsL bestL
  rw [mem_srtN, List.mem_filter, k.mem_loose, decide_eq_true_iff]
  obtain ⟨m1, m2⟩ := maxL_spec (ns := (looseL p r cols).map fun l => ((l.length : Nat) : Int)) (by
    have := List.ne_nil_of_mem k.nil_mem
    simpa using this)
  refine and_congr_right fun hf => ⟨fun e l h1 h2 => ?_, fun h => ?_⟩
  · have := m2 _ (List.mem_map.mpr ⟨l, k.mem_loose.mpr ⟨h1, h2⟩, rfl⟩)
    unfold mostN at e
    omega
  · obtain ⟨l, hl, e⟩ := List.mem_map.mp m1
    have hl := k.mem_loose.mp hl
    have := h l hl.1 hl.2
    have := m2 _ (List.mem_map.mpr ⟨f, k.mem_loose.mpr hf, rfl⟩)
    unfold mostN
    omega
theorem ColOk.ne : fullsL p r cols ≠ [] := by
  obtain ⟨m1, m2⟩ := maxL_spec (ns := (looseL p r cols).map fun l => ((l.length : Nat) : Int)) (by
    have := List.ne_nil_of_mem k.nil_mem
    simpa using this)
  obtain ⟨l, hl, e⟩ := List.mem_map.mp m1
  refine List.ne_nil_of_mem (a := l) (k.mem_fulls.mpr ⟨k.mem_loose.mp hl, fun o h1 h2 => ?_⟩)
  have := m2 _ (List.mem_map.mpr ⟨o, k.mem_loose.mpr ⟨h1, h2⟩, rfl⟩)
  omega
theorem ColOk.made (m0 : Nat) (h : Hq) (hm : lstOf h (.loc m0) = some (cols.map fun c => .p (lot c))) : F__law_made [.loc m0, .p (nInt p)] h = some (.p (heapP N (fullsL p r cols)), h) := by
  have h6 := k.six
  let e0 : En := [.loc m0, .p (nInt p), .und, .und, .und]
  have ln := len_lst hm
  rw [List.length_map, k.len] at ln
  have a1 : mCall gLen (aCons (mVar 0) aNil) e0 h = some (.p (nInt N), h) := mC1_ev (a := mVar 0) (x := .loc m0) (h1 := h) rfl ln
  have lots_ev : mGc (mCall F__law_lots (aCons (mLR1 (mCall gLen (aCons (mVar 0) aNil))) aNil)) e0 h = some (.loc h.length, h ++ [.lst ((lotsL (List.range N)).map fun l => .p (lot l))]) := by
    have a2 := mLR1_nat a1 (by omega)
    have a3 := e_lots h.length (h ++ [.lst ((List.range N).map fun i => .p (nInt i))]) (List.range N) (by rw [List.length_range]; omega) (lst_last _ _)
    refine mGc_ev (mC1_ev a2 a3) ?_
    rw [List.append_assoc]
    exact gc_l (by simp) (by simp) (by simp only [moB]; exact mv_lots _ _)
  have Q : EvN (mLc (sSeq (mGc (mCall F__law_lots (aCons (mLR1 (mCall gLen (aCons (mVar 0) aNil))) aNil)))) (.nm 3) (tTru (mGc (mCall F__law_loose_by (aCons (mLc (sSeq (mVar 3)) (.nm 4) tYesM (mB gIx (mVar 0) (mVar 4)) [4]) (aCons (mVar 1) aNil))))) (mVar 3) [3]) e0 h (((lotsL (List.range N)).filter (looseB p r cols)).map fun l => .p (lot l)) := by
    refine lc_lstF (lotsL (List.range N)) (fun l => .p (lot l)) (fun l => .p (lot l)) (looseB p r cols) lots_ev (lst_last _ _) (by rw [lotsL_n, sizeLine_eq]; have : 2 ^ N ≤ 2 ^ 6 := Nat.pow_le_pow_right (by decide) h6; omega) fun l hl g' => ⟨[.loc m0, .p (nInt p), .und, .p (lot l), .und], rfl, ?_, fun _ => rfl⟩
    have hl := mem_lotsL.mp hl
    let e1 : En := [.loc m0, .p (nInt p), .und, .p (lot l), .und]
    have q : EvN (mLc (sSeq (mVar 3)) (.nm 4) tYesM (mB gIx (mVar 0) (mVar 4)) [4]) e1 (h ++ g') (l.map fun x => .p (lot (cols.getD x []))) := by
      refine lc_tup l nInt (fun x => .p (lot (cols.getD x []))) rfl (by have := hl.len; rw [sizeLine_eq]; omega) fun x hx g2 => ⟨[.loc m0, .p (nInt p), .und, .p (lot l), .p (nInt x)], rfl, ?_⟩
      have hx : x < cols.length := by rw [k.len]; exact hl.2 x hx
      refine mB_ev (a := mVar 0) (b := mVar 4) (x := .loc m0) (y := .p (nInt x)) (h1 := h ++ g' ++ g2) (h2 := h ++ g' ++ g2) rfl rfl (ixL (ds := cols.map fun c => .p (lot c)) (by rw [List.append_assoc]; exact lstOf_app hm) ?_)
      rw [List.getElem?_map, List.getD_eq_getElem?_getD, List.getElem?_eq_getElem hx]
      rfl
    obtain ⟨n2, g2, q1, q2, _⟩ := q
    have L := (k.loose n2 (h ++ g' ++ g2) l hl (by simp only [lstOf, q2, List.map_map, Function.comp_def])).1
    have := mGc_ev (mC2_ev q1 (b := mVar 1) (y := .p (nInt p)) (h2 := h ++ g' ++ g2) rfl L) (gc_p _ _ _)
    rw [r_tru, this]
    rfl
  obtain ⟨n2, g2, q1, q2, _⟩ := Q
  have s1 := sAsg_ev (i := 2) q1 (show 2 < 5 by decide)
  have eL : (lotsL (List.range N)).filter (looseB p r cols) = looseL p r cols := by unfold looseL; rw [k.len]
  rw [eL] at q2
  have hb := e_best_of (nInt N) n2 (looseL p r cols) (h ++ g2) (by simp only [lstOf, q2]) (List.ne_nil_of_mem k.nil_mem) k.most_few (by
    have := List.length_filter_le (looseB p r cols) (lotsL (List.range cols.length))
    rw [lotsL_n, k.len] at this
    have h64 : 2 ^ N ≤ 2 ^ 6 := Nat.pow_le_pow_right (by decide) h6
    unfold looseL
    rw [k.len, sizeLine_eq]; omega)
  refine runF_rg e0 g2 ?_
  unfold b__law_made
  rw [bSeq_nx s1, retOf_sRet]
  have ln2 := len_lst (lstOf_app (g := g2) hm)
  rw [List.length_map, k.len] at ln2
  exact mC2_ev (mC1_ev (a := mVar 0) (x := .loc m0) (h1 := h ++ g2) rfl ln2) (b := mVar 2) (y := .loc n2) (h2 := h ++ g2) rfl hb
end
end Wk
set_option Elab.async false
set_option linter.all false
set_option maxRecDepth 100000
set_option maxHeartbeats 1000000
set_option autoImplicit false
namespace Wk
open PySem PySem.Spec L2 MX
theorem gc_set2 {h g g2 : Hq} {n : Nat} {o o2 : Mo} {x : Pd} (hn : n < h.length) (b : ∀ k, moB k o2 = true) : gc (h.set n o ++ g) (.p x) (h.set n o2 ++ g ++ g2) = (.p x, h.set n o2 ++ g) := by
  rw [← set_ap2 hn o o2, gc_set (b _)]
theorem e_drawn (n : Nat) (h : Hq) (o : Mo) (B N : Nat) (ho : h[n]? = some o) (hp : PotV B o) (hB : B + 100 ≤ 2 ^ 40) (h1 : 1 ≤ N) (h6 : N ≤ 6) :
    ∃ p r cols o', ColOk p r N cols ∧ PotV (B + 50) o' ∧ F__law_drawn_plain [.loc n, .p (nInt N)] h = some (.p (heapP N (fullsL p r cols)), h.set n o') := by
  have hn : n < h.length := (List.getElem?_eq_some_iff.mp ho).1
  have hs0 : h.set n o ++ [] = h := by rw [List.append_nil, set_self ho]
  let e0 : En := [.loc n, .p (nInt N), .und, .und, .und, .und, .und]
  obtain ⟨p, hpm, o1, p1, q1⟩ := of_in (h := h) (n := n) [] o B hn hp (by omega) (e := e0) (ma := aCons (mC (.int 2)) (aCons (mC (.int 2)) (aCons (mC (.int 3)) (aCons (mC (.int 5)) aNil)))) [2, 2, 3, 5] (by decide) (by decide) rfl rfl
  have hpr : p = 2 ∨ p = 3 ∨ p = 5 := by simp at hpm; exact hpm
  rw [hs0] at q1
  -- rows
  have mn : (mB gAdd (mCall gMin2 (aCons (mC (.int 4)) (aCons (mVar 1) aNil))) (mC (.int 1))) e0 (h.set n o1 ++ []) = some (.p (nInt (min 4 N + 1)), h.set n o1 ++ []) := by
    have z := mB_ev (g := gAdd) (mC2_ev (gA := gMin2) (mC_ev (.int 4) _ _) (b := mVar 1) (e := e0) (h := h.set n o1 ++ []) (y := .p (nInt N)) (h2 := h.set n o1 ++ []) rfl (r_min2 _ _ _)) (mC_ev (.int 1) _ _) (r_addI _ _ _)
    rw [z]
    have : ((if (N : Int) < 4 then (N : Int) else 4) + 1) = ((min 4 N + 1 : Nat) : Int) := by
      split <;> omega
    rw [this]
  obtain ⟨r, o2, hr, p2, q2⟩ := take_in (h := h) (n := n) [] o1 (B + 1) (min 4 N + 1) hn p1 (by omega) (by omega) (by omega)
  have hr4 : r ≤ 4 := by omega
  have t2 : mCall F__law_take (aCons (mVar 0) (aCons (mB gAdd (mCall gMin2 (aCons (mC (.int 4)) (aCons (mVar 1) aNil))) (mC (.int 1))) aNil)) e0 (h.set n o1 ++ []) = some (.p (nInt r), h.set n o2 ++ []) :=
    mC2_ev (a := mVar 0) (x := .loc n) (h1 := h.set n o1 ++ []) rfl mn q2
  let e1 : En := [.loc n, .p (nInt N), .p (nInt p), .p (nInt r), .und, .und, .und]
  have s1 : sPar (aCons (mGc (mCall F__law_of (aCons (mVar 0) (aCons (mLst (aCons (mC (.int 2)) (aCons (mC (.int 2)) (aCons (mC (.int 3)) (aCons (mC (.int 5)) aNil))))) aNil)))) (aCons (mCall F__law_take (aCons (mVar 0) (aCons (mB gAdd (mCall gMin2 (aCons (mC (.int 4)) (aCons (mVar 1) aNil))) (mC (.int 1))) aNil))) aNil)) [2, 3] e0 h = some (.nx, e1, h.set n o2) := by
    have := aC_ev q1 (aC_ev t2 (aN_ev _ _))
    rw [List.append_nil] at this
    rw [r_par, this]
    simp only [Option.bind_some]
    rw [if_pos (by simp)]
    rfl
  have ho2 : (h.set n o2)[n]? = some o2 := List.getElem?_set_self hn
  have hn2 : n < (h.set n o2).length := by simpa using hn
  obtain ⟨ys, o3, ⟨cols, c1, c2, c3⟩, l3, p3, q3⟩ := lc_pot (t := .nm 5) (tt := tYesM) (te := mGc (mCall gTuple (aCons (mLc (sRng1 (aCons (mVar 3) aNil)) (.nm 6) tYesM (mCall F__law_take (aCons (mVar 0) (aCons (mVar 2) aNil))) [6]) aNil))) (vs := [5]) (e := e1) (h := h.set n o2) (n := n) (m := N) (c := 4) (B := B + 2) (args := aCons (mVar 1) aNil)
    (fun k acc => ∃ cols : List (List Nat), acc = cols.map (fun c => .p (lot c)) ∧ cols.length = k ∧ ∀ c ∈ cols, c.length = r ∧ ∀ x ∈ c, x < p) rfl (by omega) ho2 (p2.mono (by omega)) ⟨[], rfl, rfl, fun _ z => by cases z⟩ (by rw [sizeLine_eq]; omega)
    (fun k hk acc o' g ⟨cols, d1, d2, d3⟩ pv => by
      let e2 : En := [.loc n, .p (nInt N), .p (nInt p), .p (nInt r), .und, .p (nInt k), .und]
      have ho3 : ((h.set n o2).set n o' ++ g)[n]? = some o' := get_set hn2 o'
      obtain ⟨zs, o4, ⟨col, f1, f2, f3⟩, l4, p4, q4⟩ := lc_pot (t := .nm 6) (tt := tYesM) (te := mCall F__law_take (aCons (mVar 0) (aCons (mVar 2) aNil))) (vs := [6]) (e := e2) (h := (h.set n o2).set n o' ++ g) (n := n) (m := r) (c := 1) (B := B + 2 + k * 4) (args := aCons (mVar 3) aNil)
        (fun k acc => ∃ col : List Nat, acc = col.map (fun x => .p (nInt x)) ∧ col.length = k ∧ ∀ x ∈ col, x < p) rfl (by omega) ho3 pv ⟨[], rfl, rfl, fun _ z => by cases z⟩ (by rw [sizeLine_eq]; omega)
        (fun k2 hk2 acc o5 g2 ⟨col, f1, f2, f3⟩ pv2 => by
          have hn3 : n < ((h.set n o2).set n o' ++ g).length := by simp; omega
          obtain ⟨v, o6, v1, v2, v3⟩ := take_in (h := (h.set n o2).set n o' ++ g) (n := n) g2 o5 (B + 2 + k * 4 + k2 * 1) p hn3 pv2 (by omega) (by omega) (by omega)
          refine ⟨[.loc n, .p (nInt N), .p (nInt p), .p (nInt r), .und, .p (nInt k), .p (nInt k2)], rfl, .inr ⟨o5, .p (nInt v), o6, rfl, mC2_ev rfl rfl v3, v2.mono (by omega), col ++ [v], by rw [f1, List.map_append]; rfl, by simp [f2], fun w hw => ?_⟩⟩
          rcases List.mem_append.mp hw with hw | hw
          · exact f3 w hw
          · rw [List.mem_singleton.mp hw]; exact v1)
      subst f1
      have lc : lstOf (((h.set n o2).set n o' ++ g).set n o4 ++ [.lst (col.map fun x => .p (nInt x))]) (.loc ((h.set n o2).set n o' ++ g).length) = some ((col.map nInt).map Mv.p) := by
        have := lst_last (((h.set n o2).set n o' ++ g).set n o4) (col.map fun x => .p (nInt x))
        rw [List.length_set] at this
        rw [this, List.map_map]
        rfl
      refine ⟨e2, rfl, .inr ⟨o', .p (lot col), o4, rfl, mGc_ev (mC1_ev q4 (tuple_lst lc)) ?_, p4.mono (by omega), cols ++ [col], by rw [d1, List.map_append]; rfl, by simp [d2], fun c hc => ?_⟩⟩
      · rw [gc_set (p4.mo _), set_ap2 hn2]
      · rcases List.mem_append.mp hc with hc | hc
        · exact d3 c hc
        · rw [List.mem_singleton.mp hc]; exact ⟨f2, f3⟩)
  subst c1
  have k : ColOk p r N cols := ⟨hpr, c3, c2, h1, h6, hr4⟩
  have s2 := sAsg_ev (i := 4) q3 (show 4 < 7 by decide)
  rw [List.length_set, set_set2] at s2
  have lm : lstOf (h.set n o3 ++ [.lst (cols.map fun c => .p (lot c))]) (.loc h.length) = some (cols.map fun c => .p (lot c)) := by
    have := lst_last (h.set n o3) (cols.map fun c => .p (lot c))
    rw [List.length_set] at this
    exact this
  have md := k.made h.length _ lm
  refine ⟨p, r, cols, o3, k, p3.mono (by omega), ?_⟩
  refine runF_set e0 [.lst (cols.map fun c => .p (lot c))] (n := n) (o := o3) ?_ (p3.mo _)
  unfold b__law_drawn_plain
  rw [bSeq_nx s1, bSeq_nx s2, retOf_sRet]
  have v4 : ∀ H, mVar 4 (List.set e1 4 (.loc h.length)) H = some (.loc h.length, H) := fun H => rfl
  have v2 : ∀ H, mVar 2 (List.set e1 4 (.loc h.length)) H = some (.p (nInt p), H) := fun H => rfl
  exact mC2_ev (v4 _) (v2 _) md
/-! ### lots as sets -/
theorem lot_ext {N : Nat} {a b : List Nat} (ha : Lot N a) (hb : Lot N b) (h : ∀ x, x < N → (x ∈ a ↔ x ∈ b)) : a = b := by
  have p : a.Perm b := (List.perm_ext_iff_of_nodup ha.nodup hb.nodup).mpr fun x => ⟨fun hx => (h x (ha.2 x hx)).mp hx, fun hx => (h x (hb.2 x hx)).mpr hx⟩
  exact p.eq_of_pairwise (le := (· < ·)) (fun a b _ _ h1 h2 => absurd h1 (Nat.lt_asymm h2)) ha.1 hb.1
theorem els_isLot (N : Nat) (s : Mt.S) : Lot N (Mt.els N s) := ⟨List.pairwise_lt_range.filter _, fun x hx => (Mt.els_mem.mp hx).1⟩
theorem els_lot {N : Nat} {l : List Nat} (h : Lot N l) : Mt.els N (Mt.lmem l) = l := lot_ext (els_isLot N _) h fun x hx => by
  rw [Mt.els_mem]; simp [hx]
theorem cd_lot {N : Nat} {l : List Nat} (h : Lot N l) : Mt.cd N (Mt.lmem l) = l.length := by
  rw [← Mt.els_len, els_lot h]
section
variable {p r N : Nat} {cols : List (List Nat)} (k : ColOk p r N cols)
include k
theorem ColOk.ind {l : List Nat} (hl : Lot N l) : looseB p r cols l = true ↔ Mt.IndS (p : Int) N r (rv cols) (Mt.lmem l) := by
  rw [loose_iff]
  unfold Mt.IndS
  rw [els_lot hl]
theorem ColOk.free {l : List Nat} (hl : Lot N l) : isFree (fullsL p r cols) l = true ↔ Mt.IndS (p : Int) N r (rv cols) (Mt.lmem l) := by
  have her := Mt.ind_her (p : Int) N r (rv cols)
  have aug := Mt.ind_aug (inv_of k.prime) N r (rv cols)
  unfold isFree
  rw [List.any_eq_true]
  constructor
  · rintro ⟨f, hf, ha⟩
    have hf := k.mem_fulls.mp hf
    refine her.sub (fun x hx e => ?_) ((k.ind hf.1.1).mp hf.1.2)
    simp at e ⊢
    exact of_decide_eq_true (List.all_eq_true.mp ha x e)
  · intro i
    obtain ⟨f, hf⟩ := List.exists_mem_of_ne_nil _ k.ne
    have hf' := k.mem_fulls.mp hf
    obtain ⟨M, mm, ms⟩ := Mt.max_of (n := N) (U := fun _ => true) (fun _ _ _ => rfl) i
    have h1 := Mt.aug_share aug _ _ _ mm ((k.ind hf'.1.1).mp hf'.1.2) (fun _ _ _ => rfl)
    rw [Nat.one_mul, Nat.one_mul, cd_lot hf'.1.1] at h1
    have lM := els_isLot N M
    have cong : Mt.IndS (p : Int) N r (rv cols) (Mt.lmem (Mt.els N M)) := (her.congr fun x hx => by simp [Mt.els_mem, hx]).mp mm.mem
    refine ⟨Mt.els N M, k.mem_fulls.mpr ⟨⟨lM, (k.ind lM).mpr cong⟩, fun l h2 h3 => ?_⟩, List.all_eq_true.mpr fun x hx => decide_eq_true (Mt.els_mem.mpr ⟨hl.2 x hx, ms x (hl.2 x hx) (by simpa using hx)⟩)⟩
    have := hf'.2 l h2 h3
    rw [Mt.els_len]
    omega
theorem ColOk.fulls_lot : ∀ f ∈ fullsL p r cols, Lot N f := fun f hf => (k.mem_fulls.mp hf).1.1
theorem ColOk.fulls_len : ∀ f ∈ fullsL p r cols, f.length ≤ 4 := fun f hf => by
  have h := (k.mem_fulls.mp hf).1
  obtain ⟨_, h2⟩ := k.loose 0 [.lst ((f.map fun x => cols.getD x []).map fun c => .p (lot c))] f h.1 rfl
  have := h2 h.2
  have := k.four
  omega
theorem ColOk.fulls_few : (fullsL p r cols).length < 64 := by
  have := k.most_few
  have h2 := srtN_len ((looseL p r cols).filter fun l => decide (((l.length : Nat) : Int) = mostN (looseL p r cols)))
  unfold fullsL bestL
  omega
theorem ColOk.e_free (l : List Nat) (hl : Lot N l) (h : Hq) : F__law_is_free [.p (heapP N (fullsL p r cols)), .p (lot l)] h = some (.p (.bool (isFree (fullsL p r cols) l)), h) := by
  have := k.six
  refine e_is_free (nInt N) (fullsL p r cols) l h k.ne ?_ (fun f hf => ?_) (fun f hf => (k.fulls_lot f hf).nodup) hl.nodup
  · have := k.fulls_few; rw [sizeLine_eq]; omega
  · have := (k.fulls_lot f hf).len; rw [sizeLine_eq]; omega
end
end Wk
set_option Elab.async false
set_option linter.all false
set_option maxRecDepth 100000
set_option maxHeartbeats 1000000
set_option autoImplicit false
namespace Wk
open PySem PySem.Spec L2 MX
/-- what some lots let -/
def LF (N : Nat) (ls : List (List Nat)) (s : Mt.S) : Prop := ∃ l ∈ ls, Mt.Sub N s (Mt.lmem l)
abbrev Ch := Nat × Nat × List (List Nat)
abbrev chOk (N : Nat) (c : Ch) : Prop := ColOk c.1 c.2.1 N c.2.2
noncomputable abbrev chF (c : Ch) : List (List Nat) := fullsL c.1 c.2.1 c.2.2
noncomputable def freeL (N : Nat) (chs : List Ch) : List (List Nat) := (lotsL (List.range N)).filter fun l => chs.all fun c => isFree (chF c) l
theorem mem_freeL {N : Nat} {chs : List Ch} {l : List Nat} : l ∈ freeL N chs ↔ Lot N l ∧ ∀ c ∈ chs, isFree (chF c) l = true := by
  unfold freeL
  rw [List.mem_filter, mem_lotsL, List.all_eq_true]
theorem free_share {N : Nat} {chs : List Ch} (hc : ∀ c ∈ chs, chOk N c) (ne : chs ≠ []) : Mt.Share N (LF N (freeL N chs)) 1 chs.length := by
  have h := Mt.meet_share (n := N) (F := LF N (freeL N chs)) (chs.map fun c => Mt.IndS (c.1 : Int) N c.2.1 (rv c.2.2)) (fun s => ?_) (fun G hG => ?_) (fun G hG => ?_) (by simpa using ne)
  · rw [List.length_map] at h; exact h
  · constructor
    · rintro ⟨l, hl, hs⟩ G hG
      obtain ⟨c, h1, rfl⟩ := List.mem_map.mp hG
      have hl := mem_freeL.mp hl
      exact (Mt.ind_her _ _ _ _).sub hs (((hc c h1).free hl.1).mp (hl.2 c h1))
    · intro h
      refine ⟨Mt.els N s, mem_freeL.mpr ⟨els_isLot N s, fun c h1 => ((hc c h1).free (els_isLot N s)).mpr ?_⟩, fun x hx e => by simp [Mt.els_mem, hx, e]⟩
      exact ((Mt.ind_her _ _ _ _).congr fun x hx => by simp [Mt.els_mem, hx]).mp (h _ (List.mem_map.mpr ⟨c, h1, rfl⟩))
  · obtain ⟨c, h1, rfl⟩ := List.mem_map.mp hG
    exact Mt.ind_her _ _ _ _
  · obtain ⟨c, h1, rfl⟩ := List.mem_map.mp hG
    exact Mt.ind_aug (inv_of (hc c h1).prime) _ _ _
theorem free_few {N : Nat} {chs : List Ch} (hc : ∀ c ∈ chs, chOk N c) (ne : chs ≠ []) : (freeL N chs).length < 64 := by
  obtain ⟨c, h1⟩ := List.exists_mem_of_ne_nil _ ne
  have h6 := (hc c h1).six
  by_cases hN : N = 6
  · subst hN
    refine few64 (Nat.le_refl _) ⟨List.range 6, ⟨List.pairwise_lt_range, fun x hx => List.mem_range.mp hx⟩, ?_⟩
    refine Bool.eq_false_iff.mpr fun z => ?_
    have h2 := List.all_eq_true.mp z c h1
    unfold isFree at h2
    rw [List.any_eq_true] at h2
    obtain ⟨f, hf, ha⟩ := h2
    have h3 := (hc c h1).fulls_len f hf
    have h4 : (List.range 6).length ≤ f.length := List.Nodup.length_le_of_subset List.nodup_range fun x hx => of_decide_eq_true (List.all_eq_true.mp ha x hx)
    rw [List.length_range] at h4
    omega
  · have := List.length_filter_le (fun l => chs.all fun c => isFree (chF c) l) (lotsL (List.range N))
    rw [lotsL_n] at this
    have h5 : 2 ^ N ≤ 2 ^ 5 := Nat.pow_le_pow_right (by decide) (by omega)
    unfold freeL
    omega
theorem free_ne {N : Nat} {chs : List Ch} (hc : ∀ c ∈ chs, chOk N c) : freeL N chs ≠ [] := by
  refine List.ne_nil_of_mem (a := []) (mem_freeL.mpr ⟨lot_nil N, fun c h1 => ?_⟩)
  unfold isFree
  rw [List.any_eq_true]
  obtain ⟨f, hf⟩ := List.exists_mem_of_ne_nil _ (hc c h1).ne
  exact ⟨f, hf, rfl⟩
noncomputable abbrev kindA : MS := (bSeq (sAsg (mLc (sRng1 (aCons (mB gAdd (mC (.int 1)) (mVar 2)) aNil)) (.nm 10) tYesM (mCall F__law_drawn_plain (aCons (mVar 0) (aCons (mVar 1) aNil))) [10]) (.nm 5)) (sRet (mTup (aCons (mTup (aCons (mVar 1) (aCons (mGc (mCall F__law_tops (aCons (mLc (sSeq (mVar 3)) (.nm 7) (tTru (mGc (mCall gAll (aCons (mLc (sSeq (mVar 5)) (.nm 13) tYesM (mCall F__law_is_free (aCons (mVar 13) (aCons (mVar 7) aNil))) [13]) aNil)))) (mVar 7) [7]) aNil))) aNil))) (aCons (mB gAdd (mC (.int 1)) (mVar 2)) aNil)))))
theorem kindA_ev (n : Nat) (h : Hq) (o : Mo) (B N kind : Nat) (hn : n < h.length) (hp : PotV B o) (hB : B + 1000 ≤ 2 ^ 40) (h1 : 1 ≤ N) (h6 : N ≤ 6) (hk : kind < 3) :
    ∃ chs : List Ch, (∀ c ∈ chs, chOk N c) ∧ chs.length = 1 + kind ∧ ∃ o' e' g', PotV (B + 150) o' ∧
      kindA [.loc n, .p (nInt N), .p (nInt kind), .loc h.length, .und, .und, .und, .und, .und, .und, .und, .und, .und, .und] (h.set n o ++ [.lst ((lotsL (List.range N)).map fun l => .p (lot l))])
        = some (.ret (.p (.tuple [heapP N (topsL (freeL N chs)), nInt (1 + kind)])), e', h.set n o' ++ g') := by
  let H : Hq := h.set n o ++ [.lst ((lotsL (List.range N)).map fun l => .p (lot l))]
  have hH : H[n]? = some o := get_set hn o
  have hnH : n < H.length := (List.getElem?_eq_some_iff.mp hH).1
  let e3 : En := [.loc n, .p (nInt N), .p (nInt kind), .loc h.length, .und, .und, .und, .und, .und, .und, .und, .und, .und, .und]
  have hk1 : ∀ (e : En) (H : Hq), mVar 2 e H = some (.p (nInt kind), H) → (mB gAdd (mC (.int 1)) (mVar 2)) e H = some (.p (nInt (1 + kind)), H) := fun e H v => by
    have := mB_ev (g := gAdd) (mC_ev (.int 1) e H) v (r_addI _ _ _)
    rw [this]
    show some (Mv.p (.int ((1 : Int) + (kind : Int))), H) = some (Mv.p (.int ((1 + kind : Nat) : Int)), H)
    rw [Int.natCast_add]; rfl
  obtain ⟨ys, o3, ⟨chs, c1, c2, c3⟩, l3, p3, q3⟩ := lc_pot (t := .nm 10) (tt := tYesM) (te := mCall F__law_drawn_plain (aCons (mVar 0) (aCons (mVar 1) aNil))) (vs := [10]) (e := e3) (h := H) (n := n) (m := 1 + kind) (c := 50) (B := B) (args := aCons (mB gAdd (mC (.int 1)) (mVar 2)) aNil)
    (fun k acc => ∃ chs : List Ch, acc = chs.map (fun c => .p (heapP N (chF c))) ∧ chs.length = k ∧ ∀ c ∈ chs, chOk N c) (aC_ev (hk1 _ _ rfl) (aN_ev _ _)) (by omega) hH hp ⟨[], rfl, rfl, fun _ z => by cases z⟩ (by rw [sizeLine_eq]; omega)
    (fun k hk2 acc o' g ⟨chs, d1, d2, d3⟩ pv => by
      obtain ⟨p, r, cols, o'', k1, k2, k3⟩ := e_drawn n (H.set n o' ++ g) o' (B + k * 50) N (get_set hnH o') pv (by omega) h1 h6
      rw [set_ap2 hnH] at k3
      refine ⟨[.loc n, .p (nInt N), .p (nInt kind), .loc h.length, .und, .und, .und, .und, .und, .und, .p (nInt k), .und, .und, .und], rfl, .inr ⟨o', .p (heapP N (fullsL p r cols)), o'', rfl, mC2_ev rfl rfl k3, k2.mono (by omega), chs ++ [(p, r, cols)], by rw [d1, List.map_append]; rfl, by simp [d2], fun c hc => ?_⟩⟩
      rcases List.mem_append.mp hc with hc | hc
      · exact d3 c hc
      · rw [List.mem_singleton.mp hc]; exact k1)
  subst c1
  have s1 := sAsg_ev (i := 5) q3 (show 5 < 14 by decide)
  have eH : H.set n o3 = h.set n o3 ++ [.lst ((lotsL (List.range N)).map fun l => .p (lot l))] := set_ap2 hn _ _
  let H4 : Hq := H.set n o3 ++ [.lst (chs.map fun c => .p (heapP N (chF c)))]
  let e5 : En := [.loc n, .p (nInt N), .p (nInt kind), .loc h.length, .und, .loc H.length, .und, .und, .und, .und, .und, .und, .und, .und]
  have l4 : lstOf H4 (.loc h.length) = some ((lotsL (List.range N)).map fun l => .p (lot l)) := by
    show lstOf (H.set n o3 ++ _) _ = _
    rw [eH]
    have := lst_last (h.set n o3) ((lotsL (List.range N)).map fun l => .p (lot l))
    rw [List.length_set] at this
    exact lstOf_app this
  have l5 : lstOf H4 (.loc H.length) = some (chs.map fun c => .p (heapP N (chF c))) := by
    have := lst_last (H.set n o3) (chs.map fun c => .p (heapP N (chF c)))
    rw [List.length_set] at this
    exact this
  have chne : chs ≠ [] := fun z => by subst z; simp at c2; omega
  have zl : (lotsL (List.range N)).length ≤ sizeLine := by
    rw [lotsL_n, sizeLine_eq]
    have : 2 ^ N ≤ 2 ^ 6 := Nat.pow_le_pow_right (by decide) h6
    omega
  have Q : EvN (mLc (sSeq (mVar 3)) (.nm 7) (tTru (mGc (mCall gAll (aCons (mLc (sSeq (mVar 5)) (.nm 13) tYesM (mCall F__law_is_free (aCons (mVar 13) (aCons (mVar 7) aNil))) [13]) aNil)))) (mVar 7) [7]) e5 H4 ((freeL N chs).map fun l => .p (lot l)) := by
    refine lc_lstF (g := []) (lotsL (List.range N)) (fun l => .p (lot l)) (fun l => .p (lot l)) _ (d := .loc h.length) (by rw [List.append_nil]; rfl) (by rw [List.append_nil]; exact l4) zl fun l hl g' => ⟨[.loc n, .p (nInt N), .p (nInt kind), .loc h.length, .und, .loc H.length, .und, .p (lot l), .und, .und, .und, .und, .und, .und], rfl, ?_, fun _ => rfl⟩
    have hl := mem_lotsL.mp hl
    have q : EvN (mLc (sSeq (mVar 5)) (.nm 13) tYesM (mCall F__law_is_free (aCons (mVar 13) (aCons (mVar 7) aNil))) [13]) [.loc n, .p (nInt N), .p (nInt kind), .loc h.length, .und, .loc H.length, .und, .p (lot l), .und, .und, .und, .und, .und, .und] (H4 ++ g') (chs.map fun c => .p (.bool (isFree (chF c) l))) := by
      refine lc_lst (g := []) chs (fun c => .p (heapP N (chF c))) (fun c => .p (.bool (isFree (chF c) l))) (d := .loc H.length) (by rw [List.append_nil]; rfl) (by rw [List.append_nil]; exact lstOf_app l5) (by rw [c2, sizeLine_eq]; omega) fun c hc g2 => ⟨[.loc n, .p (nInt N), .p (nInt kind), .loc h.length, .und, .loc H.length, .und, .p (lot l), .und, .und, .und, .und, .und, .p (heapP N (chF c))], rfl, ?_⟩
      exact mC2_ev (a := mVar 13) (b := mVar 7) (x := .p (heapP N (chF c))) (y := .p (lot l)) (h1 := H4 ++ g' ++ g2) (h2 := H4 ++ g' ++ g2) rfl rfl ((c3 c hc).e_free l hl _)
    rw [r_tru, q.all]
    rfl
  obtain ⟨n2, g2, q1, q2, _⟩ := Q
  have tp := e_tops n2 (H4 ++ g2) (freeL N chs) (by simp only [lstOf, q2]) (free_few c3 chne) fun l hl => by
    have := (mem_freeL.mp hl).1.len
    rw [sizeLine_eq]; omega
  have m1 := mGc_ev (mC1_ev q1 tp) (gc_p _ _ _)
  refine ⟨chs, c3, c2, o3, e5, [.lst ((lotsL (List.range N)).map fun l => .p (lot l))] ++ [.lst (chs.map fun c => .p (heapP N (chF c)))], p3.mono (by omega), ?_⟩
  rw [← List.append_assoc, ← eH]
  refine (bSeq_nx s1).trans (sRet_p ?_)
  show mTup _ e5 H4 = some (_, H4)
  have t1 := mTup_ev (aC_ev (a := mVar 1) (e := e5) (h := H4) (x := .p (nInt N)) (h1 := H4) rfl (aC_ev m1 (aN_ev _ _))) (by simp)
  rw [r_mk2] at t1
  have t2 := mTup_ev (aC_ev t1 (aC_ev (hk1 e5 H4 rfl) (aN_ev _ _))) (by simp)
  rw [r_mk2] at t2
  exact t2
end Wk
set_option Elab.async false
set_option linter.all false
set_option maxRecDepth 100000
set_option maxHeartbeats 1000000
set_option autoImplicit false
namespace Wk
open PySem PySem.Spec L2 MX
abbrev endA (E : List (Nat × Nat)) (x : Nat) : Nat := (E.getD x (0, 0)).1
abbrev endB (E : List (Nat × Nat)) (x : Nat) : Nat := (E.getD x (0, 0)).2
def nodesL (E : List (Nat × Nat)) (l : List Nat) : List Nat := l.flatMap fun x => [endA E x, 3 + endB E x]
def nodeOk (E : List (Nat × Nat)) (l : List Nat) : Bool := decide (((nodesL E l).length : Int) = ((ded (zsN (nodesL E l))).length : Int))
def pairL (N : Nat) (E : List (Nat × Nat)) : List (List Nat) := (lotsL (List.range N)).filter (nodeOk E)
theorem ded_le (xs : List Int) : (ded xs).length ≤ xs.length := by
  induction xs with
  | nil => exact Nat.le_refl _
  | cons x xs ih =>
    unfold ded
    split
    · simp; omega
    · simp; omega
theorem ded_len (xs : List Int) : xs.length = (ded xs).length ↔ xs.Nodup := by
  induction xs with
  | nil => exact ⟨fun _ => List.nodup_nil, fun _ => rfl⟩
  | cons x xs ih =>
    have := ded_le xs
    unfold ded
    rw [List.nodup_cons, ← ih]
    split
    · rename_i h
      simp [h]; omega
    · rename_i h
      simp [h]
theorem nodes_len (E : List (Nat × Nat)) (l : List Nat) : (nodesL E l).length = 2 * l.length := by
  unfold nodesL
  induction l with
  | nil => rfl
  | cons x m ih => rw [List.flatMap_cons, List.length_append, ih]; simp; omega
theorem nodes_nd {E : List (Nat × Nat)} (h3 : ∀ x, endA E x < 3) : ∀ l : List Nat, (nodesL E l).Nodup ↔ l.Pairwise fun x y => endA E x ≠ endA E y ∧ endB E x ≠ endB E y
  | [] => ⟨fun _ => .nil, fun _ => List.nodup_nil⟩
  | x :: l => by
    have e : nodesL E (x :: l) = endA E x :: (3 + endB E x) :: nodesL E l := rfl
    rw [e, List.nodup_cons, List.nodup_cons, List.pairwise_cons, nodes_nd h3 l]
    have m : ∀ z, z ∈ nodesL E l ↔ ∃ y ∈ l, z = endA E y ∨ z = 3 + endB E y := fun z => by
      unfold nodesL
      rw [List.mem_flatMap]
      simp
    have hx := h3 x
    constructor
    · rintro ⟨h1, h2, h4⟩
      refine ⟨fun y hy => ⟨fun z => h1 ?_, fun z => h2 ?_⟩, h4⟩
      · exact List.mem_cons_of_mem _ ((m _).mpr ⟨y, hy, .inl z⟩)
      · exact (m _).mpr ⟨y, hy, .inr (by rw [z])⟩
    · rintro ⟨h1, h4⟩
      refine ⟨fun h => ?_, fun h => ?_, h4⟩
      · rcases List.mem_cons.mp h with h | h
        · omega
        · obtain ⟨y, hy, z | z⟩ := (m _).mp h
          · exact (h1 y hy).1 z
          · omega
      · obtain ⟨y, hy, z | z⟩ := (m _).mp h
        · have := h3 y; omega
        · exact (h1 y hy).2 (by omega)
theorem pw_dist {f : Nat → Nat} {N : Nat} {l : List Nat} (hl : Lot N l) : (l.Pairwise fun x y => f x ≠ f y) ↔ Mt.Dist N f (Mt.lmem l) := by
  constructor
  · intro h x y hx hy h1 h2 e
    simp at h1 h2
    have h' : (l.map f).Nodup := List.pairwise_map.mpr h
    obtain ⟨i, hi, rfl⟩ := List.getElem_of_mem h1
    obtain ⟨j, hj, rfl⟩ := List.getElem_of_mem h2
    have e' : (l.map f)[i]'(by simpa using hi) = (l.map f)[j]'(by simpa using hj) := by rw [List.getElem_map, List.getElem_map]; exact e
    have := (List.getElem_inj h').mp e'
    subst this; rfl
  · intro d
    refine hl.nodup.imp_of_mem fun {x y} hx hy ne e => ne (d x y (hl.2 x hx) (hl.2 y hy) (by simpa using hx) (by simpa using hy) e)
theorem ok_iff {E : List (Nat × Nat)} (h3 : ∀ x, endA E x < 3) {N : Nat} {l : List Nat} (hl : Lot N l) : nodeOk E l = true ↔ Mt.Dist N (endA E) (Mt.lmem l) ∧ Mt.Dist N (endB E) (Mt.lmem l) := by
  unfold nodeOk
  rw [decide_eq_true_iff, ← pw_dist hl, ← pw_dist hl, ← List.pairwise_and_iff, ← nodes_nd h3]
  have e : (zsN (nodesL E l)).length = (nodesL E l).length := by simp [zsN]
  have nd : (zsN (nodesL E l)).Nodup ↔ (nodesL E l).Nodup := by
    unfold zsN
    show List.Pairwise _ _ ↔ List.Pairwise _ _
    rw [List.pairwise_map]
    constructor
    · intro h; exact h.imp fun q z => q (by rw [z])
    · intro h; exact h.imp fun q z => q (by omega)
  rw [← nd, ← ded_len, e]
  omega
theorem mem_pairL {N : Nat} {E : List (Nat × Nat)} {l : List Nat} : l ∈ pairL N E ↔ Lot N l ∧ nodeOk E l = true := by
  unfold pairL
  rw [List.mem_filter, mem_lotsL]
theorem pair_share {N : Nat} {E : List (Nat × Nat)} (h3 : ∀ x, endA E x < 3) : Mt.Share N (LF N (pairL N E)) 1 2 := by
  refine Mt.meet_share (n := N) (F := LF N (pairL N E)) [Mt.Dist N (endA E), Mt.Dist N (endB E)] (fun s => ?_) (fun G hG => ?_) (fun G hG => ?_) (by simp)
  · have her1 := Mt.dist_her N (endA E)
    have her2 := Mt.dist_her N (endB E)
    simp only [List.mem_cons, List.not_mem_nil, or_false, forall_eq_or_imp, forall_eq]
    constructor
    · rintro ⟨l, hl, hs⟩
      have hl := mem_pairL.mp hl
      have := (ok_iff h3 hl.1).mp hl.2
      exact ⟨her1.sub hs this.1, her2.sub hs this.2⟩
    · rintro ⟨d1, d2⟩
      refine ⟨Mt.els N s, mem_pairL.mpr ⟨els_isLot N s, (ok_iff h3 (els_isLot N s)).mpr ⟨?_, ?_⟩⟩, fun x hx e => by simp [Mt.els_mem, hx, e]⟩
      · exact (her1.congr fun x hx => by simp [Mt.els_mem, hx]).mp d1
      · exact (her2.congr fun x hx => by simp [Mt.els_mem, hx]).mp d2
  · simp at hG
    rcases hG with rfl | rfl <;> exact Mt.dist_her _ _
  · simp at hG
    rcases hG with rfl | rfl <;> exact Mt.dist_aug _ _
theorem pair_few {N : Nat} {E : List (Nat × Nat)} (h3 : ∀ x, endA E x < 3) (h6 : N ≤ 6) : (pairL N E).length < 64 := by
  by_cases hN : N = 6
  · subst hN
    have hl : Lot 6 (List.range 6) := ⟨List.pairwise_lt_range, fun x hx => List.mem_range.mp hx⟩
    refine few64 (Nat.le_refl _) ⟨List.range 6, hl, ?_⟩
    refine Bool.eq_false_iff.mpr fun z => ?_
    have d := (pw_dist hl).mpr ((ok_iff h3 hl).mp z).1
    have nd : ((List.range 6).map (endA E)).Nodup := List.pairwise_map.mpr d
    have := List.Nodup.length_le_of_subset (l₂ := List.range 3) nd fun x hx => by
      obtain ⟨y, _, rfl⟩ := List.mem_map.mp hx
      exact List.mem_range.mpr (h3 y)
    simp at this
  · have := List.length_filter_le (nodeOk E) (lotsL (List.range N))
    rw [lotsL_n] at this
    have h5 : 2 ^ N ≤ 2 ^ 5 := Nat.pow_le_pow_right (by decide) (by omega)
    unfold pairL
    omega
theorem pair_ne (N : Nat) (E : List (Nat × Nat)) : pairL N E ≠ [] := List.ne_nil_of_mem (a := []) (mem_pairL.mpr ⟨lot_nil N, rfl⟩)
theorem app_ev {hh : Hq} {m : Nat} {xs : List Mv} (e : hh[m]? = some (.lst xs)) (hz : xs.length < sizeLine) (d : Mv) : gAppend (.loc m) [d] hh = some (.p .none, hh.set m (.lst (xs ++ [d]))) := by
  simp only [gAppend, e]
  rw [if_pos hz]
theorem met_ev {gm : GM} {a : ME} {ma : MA} {e : En} {h h1 h2 h3 : Hq} {x d : Mv} {xs ds : List Mv} (ha : a e h = some (x, h1)) (hl : lstOf h1 x = some ds) (hm : ma e h1 = some (xs, h2)) (hg : gm x xs h2 = some (d, h3)) : mMet gm a ma e h = some (d, h3) := by
  rw [r_met, ha]
  simp only [Option.bind_some, hl, Option.isSome_some, if_true]
  rw [hm]
  exact hg
noncomputable abbrev kindB : MS := (bSeq (sAsg (mLc (sRng1 (aCons (mVar 1) aNil)) (.nm 11) tYesM (mTup (aCons (mCall F__law_take (aCons (mVar 0) (aCons (mC (.int 3)) aNil))) (aCons (mB gAdd (mC (.int 3)) (mCall F__law_take (aCons (mVar 0) (aCons (mC (.int 3)) aNil)))) aNil))) [11]) (.nm 6)) (bSeq (sAsg (mLst aNil) (.nm 4)) (bSeq (sFor (sSeq (mVar 3)) (.nm 7) (bSeq (sAsg (mLst aNil) (.nm 8)) (bSeq (sFor (sSeq (mVar 7)) (.nm 9) (sExp (mGc (mMet gExtend (mVar 8) (aCons (mCall gList (aCons (mB gIx (mVar 6) (mVar 9)) aNil)) aNil))))) (sIf (mBo (mB gEq (mCall gLen (aCons (mVar 8) aNil)) (mLenSet (mVar 8)))) (sExp (mMet gAppend (mVar 4) (aCons (mVar 7) aNil))) bNil)))) (sRet (mTup (aCons (mTup (aCons (mVar 1) (aCons (mCall F__law_tops (aCons (mVar 4) aNil)) aNil))) (aCons (mC (.int 2)) aNil)))))))
section
variable {E : List (Nat × Nat)} {N : Nat}
/-- the nodes of a lot -/
theorem nodes_ev {hh : Hq} {m6 : Nat} {z0 z1 z2 z3 z4 z5 z9 z10 z11 z12 z13 : Mv} (hE : E.length = N) (l : List Nat) (hl : Lot N l) (h6 : N ≤ 6) (e6 : lstOf hh (.loc m6) = some (E.map fun q => .p (.tuple [nInt q.1, nInt (3 + q.2)]))) :
    ∃ w9, sFor (sSeq (mVar 7)) (.nm 9) (sExp (mGc (mMet gExtend (mVar 8) (aCons (mCall gList (aCons (mB gIx (mVar 6) (mVar 9)) aNil)) aNil)))) [z0, z1, z2, z3, z4, z5, .loc m6, .p (lot l), .loc hh.length, z9, z10, z11, z12, z13] (hh ++ [.lst []])
      = some (.nx, [z0, z1, z2, z3, z4, z5, .loc m6, .p (lot l), .loc hh.length, w9, z10, z11, z12, z13], hh ++ [.lst ((nodesL E l).map fun x => .p (nInt x))]) := by
  have src : SrcR (sSeq (mVar 7)) [z0, z1, z2, z3, z4, z5, .loc m6, .p (lot l), .loc hh.length, z9, z10, z11, z12, z13] (hh ++ [.lst []]) (l.map fun x => .p (nInt x)) (hh ++ [.lst []]) SAny := by
    have := src_p (ma := mVar 7) (e := [z0, z1, z2, z3, z4, z5, .loc m6, .p (lot l), .loc hh.length, z9, z10, z11, z12, z13]) (h := hh ++ [.lst []]) (h1 := hh ++ [.lst []]) (xs := l.map nInt) rfl
    rw [List.map_map] at this
    exact this
  have F := for_inv (t := .nm 9) (b := sExp (mGc (mMet gExtend (mVar 8) (aCons (mCall gList (aCons (mB gIx (mVar 6) (mVar 9)) aNil)) aNil))))
    (fun i e h' => ∃ w9, e = [z0, z1, z2, z3, z4, z5, .loc m6, .p (lot l), .loc hh.length, w9, z10, z11, z12, z13] ∧ h' = hh ++ [.lst ((nodesL E (l.take i)).map fun x => .p (nInt x))])
    l (fun x => .p (nInt x)) src (fun _ _ _ _ => trivial) ⟨_, rfl, rfl⟩ (fun i hi e h' ⟨w9, e1, e2⟩ => by
      subst e1; subst e2
      have hx : l[i] < E.length := by rw [hE]; exact hl.2 _ (List.getElem_mem hi)
      have ht : nodesL E (l.take (i + 1)) = nodesL E (l.take i) ++ [endA E l[i], 3 + endB E l[i]] := by
        have : l.take (i + 1) = l.take i ++ [l[i]] := by rw [List.take_add_one, List.getElem?_eq_getElem hi]; rfl
        rw [this]
        unfold nodesL
        rw [List.flatMap_append]; rfl
      have hlen : (nodesL E (l.take i)).length ≤ 100 := by
        rw [nodes_len, List.length_take]
        have := hl.len
        omega
      rw [ht]
      generalize nodesL E (l.take i) = A at hlen
      generalize l[i] = x at hx
      let e1 : En := [z0, z1, z2, z3, z4, z5, .loc m6, .p (lot l), .loc hh.length, .p (nInt x), z10, z11, z12, z13]
      let H : Hq := hh ++ [.lst (A.map fun x => .p (nInt x))]
      have ix : (mB gIx (mVar 6) (mVar 9)) e1 H = some (.p (.tuple [nInt (endA E x), nInt (3 + endB E x)]), H) := by
        refine mB_ev (a := mVar 6) (b := mVar 9) (x := .loc m6) (y := .p (nInt x)) (h1 := H) (h2 := H) rfl rfl (ixL (lstOf_app e6) ?_)
        rw [List.getElem?_map]
        unfold endA endB
        rw [List.getD_eq_getElem?_getD, List.getElem?_eq_getElem hx]
        rfl
      have gl : mCall gList (aCons (mB gIx (mVar 6) (mVar 9)) aNil) e1 H = some (.loc H.length, H ++ [.lst [.p (nInt (endA E x)), .p (nInt (3 + endB E x))]]) := mC1_ev ix rfl
      have lH : lstOf H (.loc hh.length) = some (A.map fun x => .p (nInt x)) := lst_last _ _
      have ge : gExtend (.loc hh.length) [.loc H.length] (H ++ [.lst [.p (nInt (endA E x)), .p (nInt (3 + endB E x))]]) = some (.p .none, H.set hh.length (.lst ((A ++ [endA E x, 3 + endB E x]).map fun x => .p (nInt x))) ++ [.lst [.p (nInt (endA E x)), .p (nInt (3 + endB E x))]]) := by
        have g1 : (H ++ [Mo.lst [.p (nInt (endA E x)), .p (nInt (3 + endB E x))]])[hh.length]? = some (.lst (A.map fun x => .p (nInt x))) := get_app (by simp [H])
        have g2 : (H ++ [Mo.lst [.p (nInt (endA E x)), .p (nInt (3 + endB E x))]])[H.length]? = some (.lst [.p (nInt (endA E x)), .p (nInt (3 + endB E x))]) := by simp
        simp only [gExtend, g1, g2]
        rw [if_pos (by rw [List.length_map, sizeLine_eq]; simp; omega), set_app (by simp [H]), List.map_append]
        rfl
      have me := met_ev (gm := gExtend) (a := mVar 8) (e := e1) (h := H) (h1 := H) (x := .loc hh.length) rfl lH (aC_ev gl (aN_ev _ _)) ge
      refine ⟨e1, e1, hh ++ [.lst ((A ++ [endA E x, 3 + endB E x]).map fun x => .p (nInt x))], rfl, ?_, .p (nInt x), rfl, rfl⟩
      rw [r_exp, mGc_ev me (show gc H _ _ = (.p .none, hh ++ [.lst ((A ++ [endA E x, 3 + endB E x]).map fun x => .p (nInt x))]) from ?_)]
      · rfl
      · rw [gc_set (by
          simp only [moB]
          exact mvsB_all fun d hd => by
            obtain ⟨x, _, rfl⟩ := List.mem_map.mp hd
            exact ⟨_, rfl⟩)]
        show (_, (hh ++ _).set hh.length _) = _
        rw [List.set_append_right _ _ (Nat.le_refl _)]
        simp)
  obtain ⟨e', h', s2, w9, rfl, rfl⟩ := F
  rw [List.take_length] at s2
  exact ⟨w9, s2⟩
end
theorem kindB_ev (n : Nat) (h : Hq) (o : Mo) (B N kind : Nat) (hn : n < h.length) (hp : PotV B o) (hB : B + 1000 ≤ 2 ^ 40) (h1 : 1 ≤ N) (h6 : N ≤ 6) :
    ∃ E : List (Nat × Nat), (∀ x, endA E x < 3) ∧ ∃ o' e' g', PotV (B + 150) o' ∧
      kindB [.loc n, .p (nInt N), .p (nInt kind), .loc h.length, .und, .und, .und, .und, .und, .und, .und, .und, .und, .und] (h.set n o ++ [.lst ((lotsL (List.range N)).map fun l => .p (lot l))])
        = some (.ret (.p (.tuple [heapP N (topsL (pairL N E)), nInt 2])), e', h.set n o' ++ g') := by
  let EV : Mo := .lst ((lotsL (List.range N)).map fun l => .p (lot l))
  let H : Hq := h.set n o ++ [EV]
  have hH : H[n]? = some o := get_set hn o
  have hnH : n < H.length := (List.getElem?_eq_some_iff.mp hH).1
  let e3 : En := [.loc n, .p (nInt N), .p (nInt kind), .loc h.length, .und, .und, .und, .und, .und, .und, .und, .und, .und, .und]
  obtain ⟨ys, o3, ⟨E, c1, c2, c3⟩, l3, p3, q3⟩ := lc_pot (t := .nm 11) (tt := tYesM) (te := mTup (aCons (mCall F__law_take (aCons (mVar 0) (aCons (mC (.int 3)) aNil))) (aCons (mB gAdd (mC (.int 3)) (mCall F__law_take (aCons (mVar 0) (aCons (mC (.int 3)) aNil)))) aNil))) (vs := [11]) (e := e3) (h := H) (n := n) (m := N) (c := 2) (B := B) (args := aCons (mVar 1) aNil)
    (fun k acc => ∃ E : List (Nat × Nat), acc = E.map (fun q => .p (.tuple [nInt q.1, nInt (3 + q.2)])) ∧ E.length = k ∧ ∀ q ∈ E, q.1 < 3) rfl (by omega) hH hp ⟨[], rfl, rfl, fun _ z => by cases z⟩ (by rw [sizeLine_eq]; omega)
    (fun k hk2 acc o' g ⟨E, d1, d2, d3⟩ pv => by
      obtain ⟨v, o5, v1, v2, v3⟩ := take_in (h := H) (n := n) g o' (B + k * 2) 3 hnH pv (by omega) (by decide) (by decide)
      obtain ⟨w, o6, w1, w2, w3⟩ := take_in (h := H) (n := n) g o5 (B + k * 2 + 1) 3 hnH v2 (by omega) (by decide) (by decide)
      let e4 : En := [.loc n, .p (nInt N), .p (nInt kind), .loc h.length, .und, .und, .und, .und, .und, .und, .und, .p (nInt k), .und, .und]
      have t1 : mCall F__law_take (aCons (mVar 0) (aCons (mC (.int 3)) aNil)) e4 (H.set n o' ++ g) = some (.p (nInt v), H.set n o5 ++ g) := mC2_ev (a := mVar 0) (x := .loc n) (h1 := H.set n o' ++ g) rfl (mC_ev _ _ _) v3
      have t2 : mCall F__law_take (aCons (mVar 0) (aCons (mC (.int 3)) aNil)) e4 (H.set n o5 ++ g) = some (.p (nInt w), H.set n o6 ++ g) := mC2_ev (a := mVar 0) (x := .loc n) (h1 := H.set n o5 ++ g) rfl (mC_ev _ _ _) w3
      have t3 := mTup_ev (aC_ev t1 (aC_ev (mB_ev (g := gAdd) (mC_ev (.int 3) _ _) t2 (r_addI _ _ _)) (aN_ev _ _))) (by simp)
      rw [r_mk2] at t3
      have e3w : PyData.int ((3 : Int) + (w : Int)) = nInt (3 + w) := by
        show _ = PyData.int ((3 + w : Nat) : Int)
        rw [Int.natCast_add]; rfl
      rw [e3w] at t3
      refine ⟨e4, rfl, .inr ⟨o', _, o6, rfl, t3, w2.mono (by omega), E ++ [(v, w)], by rw [d1, List.map_append]; rfl, by simp [d2], fun q hq => ?_⟩⟩
      rcases List.mem_append.mp hq with hq | hq
      · exact d3 q hq
      · rw [List.mem_singleton.mp hq]; exact v1)
  subst c1
  have hE3 : ∀ x, endA E x < 3 := fun x => by
    unfold endA
    rw [List.getD_eq_getElem?_getD]
    by_cases hx : x < E.length
    · rw [List.getElem?_eq_getElem hx]; exact c3 _ (List.getElem_mem hx)
    · rw [List.getElem?_eq_none (by omega)]; decide
  have s1 := sAsg_ev (i := 6) q3 (show 6 < 14 by decide)
  let EN : Mo := .lst (E.map fun q => .p (.tuple [nInt q.1, nInt (3 + q.2)]))
  have eH : H.set n o3 = h.set n o3 ++ [EV] := set_ap2 hn _ _
  let K : Hq := H.set n o3 ++ [EN]
  have lK : K.length = H.length + 1 := by simp [K]
  let e6 : En := [.loc n, .p (nInt N), .p (nInt kind), .loc h.length, .und, .und, .loc H.length, .und, .und, .und, .und, .und, .und, .und]
  have s2 : sAsg (mLst aNil) (.nm 4) e6 K = some (.nx, [.loc n, .p (nInt N), .p (nInt kind), .loc h.length, .loc K.length, .und, .loc H.length, .und, .und, .und, .und, .und, .und, .und], K ++ [.lst []]) := sAsg_ev (mLst_ev (aN_ev _ _) (by simp)) (show 4 < 14 by decide)
  have l3 : ∀ g, lstOf (K ++ g) (.loc h.length) = some ((lotsL (List.range N)).map fun l => .p (lot l)) := fun g => by
    refine lstOf_app ?_
    show lstOf (H.set n o3 ++ _) _ = _
    rw [eH]
    have := lst_last (h.set n o3) ((lotsL (List.range N)).map fun l => .p (lot l))
    rw [List.length_set] at this
    exact lstOf_app this
  have l6 : ∀ g, lstOf (K ++ g) (.loc H.length) = some (E.map fun q => .p (.tuple [nInt q.1, nInt (3 + q.2)])) := fun g => by
    have := lst_last (H.set n o3) (E.map fun q => .p (.tuple [nInt q.1, nInt (3 + q.2)]))
    rw [List.length_set] at this
    exact lstOf_app this
  have src : SrcR (sSeq (mVar 3)) [.loc n, .p (nInt N), .p (nInt kind), .loc h.length, .loc K.length, .und, .loc H.length, .und, .und, .und, .und, .und, .und, .und] (K ++ [.lst []]) ((lotsL (List.range N)).map fun l => .p (lot l)) (K ++ [.lst []]) (SLst (.loc h.length) ((lotsL (List.range N)).map fun l => .p (lot l))) := src_lst rfl (l3 _)
  have F := for_inv (t := .nm 7) (b := (bSeq (sAsg (mLst aNil) (.nm 8)) (bSeq (sFor (sSeq (mVar 7)) (.nm 9) (sExp (mGc (mMet gExtend (mVar 8) (aCons (mCall gList (aCons (mB gIx (mVar 6) (mVar 9)) aNil)) aNil))))) (sIf (mBo (mB gEq (mCall gLen (aCons (mVar 8) aNil)) (mLenSet (mVar 8)))) (sExp (mMet gAppend (mVar 4) (aCons (mVar 7) aNil))) bNil))))
    (fun i e hh => ∃ g z7 z8 z9, e = [.loc n, .p (nInt N), .p (nInt kind), .loc h.length, .loc K.length, .und, .loc H.length, z7, z8, z9, .und, .und, .und, .und] ∧ hh = K ++ ([.lst ((((lotsL (List.range N)).take i).filter (nodeOk E)).map fun l => .p (lot l))] ++ g))
    (lotsL (List.range N)) (fun l => .p (lot l)) src (fun i e hh ⟨g, _, _, _, _, e2⟩ => by rw [e2]; exact l3 _) ⟨[], _, _, _, rfl, rfl⟩ (fun i hi e hh ⟨g, z7, z8, z9, e1, e2⟩ => by
      subst e1; subst e2
      have hl : Lot N (lotsL (List.range N))[i] := mem_lotsL.mp (List.getElem_mem hi)
      have ht : (lotsL (List.range N)).take (i + 1) = (lotsL (List.range N)).take i ++ [(lotsL (List.range N))[i]] := by rw [List.take_add_one, List.getElem?_eq_getElem hi]; rfl
      have accl : (((lotsL (List.range N)).take i).filter (nodeOk E)).length ≤ 64 := by
        have := List.length_filter_le (nodeOk E) ((lotsL (List.range N)).take i)
        rw [List.length_take, lotsL_n] at this
        have h64 : 2 ^ N ≤ 2 ^ 6 := Nat.pow_le_pow_right (by decide) h6
        omega
      rw [ht, List.filter_append]
      generalize (((lotsL (List.range N)).take i).filter (nodeOk E)) = A at accl
      generalize (lotsL (List.range N))[i] = l at hl
      let hh : Hq := K ++ ([.lst (A.map fun l => .p (lot l))] ++ g)
      have a1 : sAsg (mLst aNil) (.nm 8) [.loc n, .p (nInt N), .p (nInt kind), .loc h.length, .loc K.length, .und, .loc H.length, .p (lot l), z8, z9, .und, .und, .und, .und] hh = some (.nx, [.loc n, .p (nInt N), .p (nInt kind), .loc h.length, .loc K.length, .und, .loc H.length, .p (lot l), .loc hh.length, z9, .und, .und, .und, .und], hh ++ [.lst []]) := sAsg_ev (mLst_ev (aN_ev _ _) (by simp)) (show 8 < 14 by decide)
      obtain ⟨w9, a2⟩ := nodes_ev (E := E) (N := N) (hh := hh) (m6 := H.length) (z0 := .loc n) (z1 := .p (nInt N)) (z2 := .p (nInt kind)) (z3 := .loc h.length) (z4 := .loc K.length) (z5 := .und) (z9 := z9) (z10 := .und) (z11 := .und) (z12 := .und) (z13 := .und) c2 l hl h6 (l6 _)
      let H8 : Hq := hh ++ [.lst ((nodesL E l).map fun x => .p (nInt x))]
      let e8 : En := [.loc n, .p (nInt N), .p (nInt kind), .loc h.length, .loc K.length, .und, .loc H.length, .p (lot l), .loc hh.length, w9, .und, .und, .und, .und]
      have l8 : lstOf H8 (.loc hh.length) = some ((nodesL E l).map fun x => .p (nInt x)) := lst_last _ _
      have ln8 := len_lst l8
      rw [List.length_map] at ln8
      have nlen : (nodesL E l).length ≤ 100 := by
        rw [nodes_len]
        have := hl.len
        omega
      have ls8 : mLenSet (mVar 8) e8 H8 = some (.p (.int ((ded (zsN (nodesL E l))).length : Int)), H8) := by
        have v8 : mVar 8 e8 H8 = some (.loc hh.length, H8) := rfl
        have im : intsM ((nodesL E l).map fun x => Mv.p (nInt x)) = some (zsN (nodesL E l)) := by
          generalize nodesL E l = m
          induction m with
          | nil => rfl
          | cons x m ih =>
            rw [List.map_cons]
            unfold intsM
            rw [ih]; rfl
        unfold mLenSet
        rw [v8]
        simp only [Option.bind_some, l8, im]
        rw [if_pos (by unfold zsN; rw [List.length_map]; omega)]
      have t8 := mB_ev (g := gEq) (mC1_ev (a := mVar 8) (e := e8) (h := H8) (x := .loc hh.length) (h1 := H8) rfl ln8) ls8 (eq_int _ _ _)
      have hh4 : H8[K.length]? = some (.lst (A.map fun l => .p (lot l))) := by
        show (K ++ ([.lst (A.map fun l => .p (lot l))] ++ g) ++ _)[K.length]? = _
        rw [List.append_assoc, List.getElem?_append_right (Nat.le_refl _)]
        simp
      cases hk : nodeOk E l with
      | false =>
        unfold nodeOk at hk
        rw [hk] at t8
        refine ⟨[.loc n, .p (nInt N), .p (nInt kind), .loc h.length, .loc K.length, .und, .loc H.length, .p (lot l), z8, z9, .und, .und, .und, .und], e8, H8, rfl, ?_, g ++ [.lst ((nodesL E l).map fun x => .p (nInt x))], .p (lot l), .loc hh.length, w9, rfl, ?_⟩
        · rw [bSeq_nx a1, bSeq_nx a2, sIf_f (r_bo _ _ _ t8)]
          rfl
        · have : nodeOk E l = false := hk
          simp [H8, hh, this]
      | true =>
        unfold nodeOk at hk
        rw [hk] at t8
        have ap := app_ev hh4 (by rw [List.length_map, sizeLine_eq]; omega) (.p (lot l))
        refine ⟨[.loc n, .p (nInt N), .p (nInt kind), .loc h.length, .loc K.length, .und, .loc H.length, .p (lot l), z8, z9, .und, .und, .und, .und], e8, H8.set K.length (.lst ((A.map fun l => .p (lot l)) ++ [.p (lot l)])), rfl, ?_, g ++ [.lst ((nodesL E l).map fun x => .p (nInt x))], .p (lot l), .loc hh.length, w9, rfl, ?_⟩
        · rw [bSeq_nx a1, bSeq_nx a2, sIf_t (r_bo _ _ _ t8), r_exp]
          have me := met_ev (gm := gAppend) (a := mVar 4) (e := e8) (h := H8) (h1 := H8) (x := .loc K.length) (ds := A.map fun l => .p (lot l)) rfl (by simp only [lstOf, hh4]) (aC_ev (a := mVar 7) (x := .p (lot l)) (h1 := H8) rfl (aN_ev _ _)) ap
          rw [me]
          rfl
        · have : nodeOk E l = true := hk
          show (K ++ ([Mo.lst (A.map fun l => .p (lot l))] ++ g) ++ [Mo.lst ((nodesL E l).map fun x => .p (nInt x))]).set K.length _ = _
          rw [List.append_assoc, List.set_append_right _ _ (Nat.le_refl _)]
          simp [this])
  obtain ⟨e', h', s3, g, z7, z8, z9, rfl, rfl⟩ := F
  rw [List.take_length] at s3
  have lf : lstOf (K ++ ([.lst (((lotsL (List.range N)).filter (nodeOk E)).map fun l => .p (lot l))] ++ g)) (.loc K.length) = some ((pairL N E).map fun l => .p (lot l)) := by
    have : (K ++ ([Mo.lst (((lotsL (List.range N)).filter (nodeOk E)).map fun l => .p (lot l))] ++ g))[K.length]? = some (.lst ((pairL N E).map fun l => .p (lot l))) := by
      rw [List.getElem?_append_right (Nat.le_refl _)]
      simp [pairL]
    simp only [lstOf, this]
  have tp := e_tops K.length _ (pairL N E) lf (pair_few hE3 h6) fun l hl => by
    have := (mem_pairL.mp hl).1.len
    rw [sizeLine_eq]; omega
  refine ⟨E, hE3, o3, [.loc n, .p (nInt N), .p (nInt kind), .loc h.length, .loc K.length, .und, .loc H.length, z7, z8, z9, .und, .und, .und, .und], [EV] ++ ([EN] ++ ([.lst (((lotsL (List.range N)).filter (nodeOk E)).map fun l => .p (lot l))] ++ g)), p3.mono (by omega), ?_⟩
  · have eK : h.set n o3 ++ ([EV] ++ ([EN] ++ ([.lst (((lotsL (List.range N)).filter (nodeOk E)).map fun l => .p (lot l))] ++ g))) = K ++ ([.lst (((lotsL (List.range N)).filter (nodeOk E)).map fun l => .p (lot l))] ++ g) := by
      rw [← List.append_assoc, ← List.append_assoc, ← eH]
    rw [eK]
    refine (bSeq_nx s1).trans ((bSeq_nx s2).trans ((bSeq_nx s3).trans (sRet_p ?_)))
    have t1 := mTup_ev (aC_ev (a := mVar 1) (e := [.loc n, .p (nInt N), .p (nInt kind), .loc h.length, .loc K.length, .und, .loc H.length, z7, z8, z9, .und, .und, .und, .und]) (h := K ++ ([.lst (((lotsL (List.range N)).filter (nodeOk E)).map fun l => .p (lot l))] ++ g)) (x := .p (nInt N)) (h1 := K ++ ([.lst (((lotsL (List.range N)).filter (nodeOk E)).map fun l => .p (lot l))] ++ g)) rfl (aC_ev (mC1_ev (a := mVar 4) (x := .loc K.length) (h1 := K ++ ([.lst (((lotsL (List.range N)).filter (nodeOk E)).map fun l => .p (lot l))] ++ g)) rfl tp) (aN_ev _ _))) (by simp)
    rw [r_mk2] at t1
    have t2 := mTup_ev (aC_ev t1 (aC_ev (mC_ev (.int 2) _ _) (aN_ev _ _))) (by simp)
    rw [r_mk2] at t2
    exact t2
end Wk
set_option Elab.async false
set_option linter.all false
set_option maxRecDepth 100000
set_option maxHeartbeats 1000000
set_option autoImplicit false
namespace Wk
open PySem PySem.Spec L2 MX
section
variable {t : Tg} {tt : MT} {te : ME} {vs : List Nat} {e : En} {h : Hq} {n m c B : Nat} {o : Mo}
/-- a comprehension over a range that draws -/
theorem lc_pot2 {args : MA} {h0 : Hq} (P : Nat → List Mv → Prop) (a : args e h0 = some ([.p (nInt m)], h)) (hm : m < 2 ^ 20) (ho : h[n]? = some o) (hp : PotV B o) (p0 : P 0 []) (hz : m ≤ sizeLine)
    (step : ∀ k, k < m → ∀ acc o' g, P k acc → PotV (B + k * c) o' → ∃ e1, asg t (Mv.int (k : Nat)) (wipeE e vs) = some e1 ∧
      ((∃ o'', tt e1 (h.set n o' ++ g) = some (false, h.set n o'' ++ g) ∧ PotV (B + (k + 1) * c) o'' ∧ P (k + 1) acc) ∨
       ∃ o1 y o'', tt e1 (h.set n o' ++ g) = some (true, h.set n o1 ++ g) ∧ te e1 (h.set n o1 ++ g) = some (y, h.set n o'' ++ g) ∧ PotV (B + (k + 1) * c) o'' ∧ P (k + 1) (acc ++ [y]))) :
    ∃ ys o', P m ys ∧ ys.length ≤ m ∧ PotV (B + m * c) o' ∧ mLc (sRng1 args) t tt te vs e h0 = some (.loc h.length, h.set n o' ++ [.lst ys]) := by
  have hn : n < h.length := (List.getElem?_eq_some_iff.mp ho).1
  have hb : bnd ((m : Nat) : Int) = true := by
    unfold bnd
    have : (2 : Int) ^ 62 = 4611686018427387904 := by decide
    have e20 : 2 ^ 20 = 1048576 := by decide
    exact decide_eq_true ⟨by omega, by omega⟩
  obtain ⟨nx, s1, s2⟩ := src_rng1 a hb
  have lg := lcN_gen (nx := nx) (t := t) (tt := tt) (te := te) (e0 := wipeE e vs) (n0 := h.length) (k := m)
    (fun k hh => ∃ acc o', hh = h.set n o' ++ [.lst acc] ∧ acc.length ≤ k ∧ P k acc ∧ PotV (B + k * c) o')
    (fun hh _ => by rw [s2 m hh trivial, List.getElem?_eq_none (by simp)])
    (fun k hh hk ⟨acc, o', e1, l1, p1, p2⟩ => by
      subst e1
      obtain ⟨e1, a1, st⟩ := step k hk acc o' [.lst acc] p1 p2
      have en : nx k (h.set n o' ++ [.lst acc]) = some (some (Mv.int (k : Nat))) := by
        rw [s2 k _ trivial]
        rw [List.getElem?_map, List.getElem?_range (by simpa using hk)]
        rfl
      rcases st with ⟨o2, b1, b2, b3⟩ | ⟨o1, y, o2, b1, b2, b3, b4⟩
      · exact ⟨_, e1, false, _, en, a1, b1, (fun z => nomatch z), fun _ => ⟨acc, o2, rfl, by omega, b3, b2⟩⟩
      · refine ⟨_, e1, true, _, en, a1, b1, fun _ => ⟨y, _, h.set n o2 ++ [.lst (acc ++ [y])], b2, ?_, acc ++ [y], o2, rfl, by simp; omega, b4, b3⟩, (fun z => nomatch z)⟩
        have ln : (h.set n o2).length = h.length := by simp
        unfold putL
        rw [← ln, List.getElem?_append_right (Nat.le_refl _)]
        simp only [Nat.sub_self, List.getElem?_cons_zero]
        rw [if_pos (by omega), List.set_append_right _ _ (Nat.le_refl _)]
        simp)
    m 0 (h ++ [.lst []]) (by omega) ⟨[], o, by rw [set_self ho], Nat.le_refl _, p0, by simpa using hp⟩
  obtain ⟨h', l1, acc, o', l2, l3, l4, l5⟩ := lg
  subst l2
  refine ⟨acc, o', l4, l3, l5, ?_⟩
  unfold mLc
  rw [s1]
  have el : ((List.range ((m : Nat) : Int).toNat).map fun i : Nat => Mv.int (i : Int)).length = m := by simp
  simp only [Option.bind_some, el]
  rw [l1]
  rfl
end

noncomputable abbrev kindC : MS := (bSeq (sAsg (mLc (sRng1 (aCons (mB gAdd (mC (.int 1)) (mCall F__law_take (aCons (mVar 0) (aCons (mC (.int 4)) aNil)))) aNil)) (.nm 10) tYesM (mGc (mCall gTuple (aCons (mLc (sRng1 (aCons (mVar 1) aNil)) (.nm 12) (mBo (mB gEq (mCall F__law_take (aCons (mVar 0) (aCons (mC (.int 2)) aNil))) (mC (.int 0)))) (mVar 12) [12]) aNil))) [10]) (.nm 4)) (sRet (mTup (aCons (mTup (aCons (mVar 1) (aCons (mCall F__law_tops (aCons (mVar 4) aNil)) aNil))) (aCons (mC (.int 0)) aNil)))))
theorem kindC_ev (n : Nat) (h : Hq) (o : Mo) (B N kind : Nat) (hn : n < h.length) (hp : PotV B o) (hB : B + 1000 ≤ 2 ^ 40) (h1 : 1 ≤ N) (h6 : N ≤ 6) :
    ∃ ls : List (List Nat), (∀ l ∈ ls, Lot N l) ∧ ls ≠ [] ∧ ls.length < 64 ∧ ∃ o' e' g', PotV (B + 150) o' ∧
      kindC [.loc n, .p (nInt N), .p (nInt kind), .loc h.length, .und, .und, .und, .und, .und, .und, .und, .und, .und, .und] (h.set n o ++ [.lst ((lotsL (List.range N)).map fun l => .p (lot l))])
        = some (.ret (.p (.tuple [heapP N (topsL ls), nInt 0])), e', h.set n o' ++ g') := by
  let EV : Mo := .lst ((lotsL (List.range N)).map fun l => .p (lot l))
  let e3 : En := [.loc n, .p (nInt N), .p (nInt kind), .loc h.length, .und, .und, .und, .und, .und, .und, .und, .und, .und, .und]
  obtain ⟨v, o1, v1, v2, v3⟩ := take_in (h := h) (n := n) [EV] o B 4 hn hp (by omega) (by decide) (by decide)
  let H : Hq := h.set n o1 ++ [EV]
  have hH : H[n]? = some o1 := get_set hn o1
  have hnH : n < H.length := (List.getElem?_eq_some_iff.mp hH).1
  have ar : (aCons (mB gAdd (mC (.int 1)) (mCall F__law_take (aCons (mVar 0) (aCons (mC (.int 4)) aNil)))) aNil) e3 (h.set n o ++ [EV]) = some ([.p (nInt (1 + v))], H) := by
    have z := aC_ev (mB_ev (g := gAdd) (mC_ev (.int 1) e3 (h.set n o ++ [EV])) (mC2_ev (a := mVar 0) (x := .loc n) (h1 := h.set n o ++ [EV]) rfl (mC_ev (.int 4) _ _) v3) (r_addI _ _ _)) (aN_ev _ _)
    rw [z]
    show some ([Mv.p (.int ((1 : Int) + (v : Int)))], H) = some ([Mv.p (.int ((1 + v : Nat) : Int))], H)
    rw [Int.natCast_add]; rfl
  obtain ⟨ys, o3, ⟨ls, c1, c2, c3⟩, l3, p3, q3⟩ := lc_pot2 (t := .nm 10) (tt := tYesM) (te := mGc (mCall gTuple (aCons (mLc (sRng1 (aCons (mVar 1) aNil)) (.nm 12) (mBo (mB gEq (mCall F__law_take (aCons (mVar 0) (aCons (mC (.int 2)) aNil))) (mC (.int 0)))) (mVar 12) [12]) aNil))) (vs := [10]) (e := e3) (h := H) (n := n) (m := 1 + v) (c := 6) (B := B + 1)
    (fun k acc => ∃ ls : List (List Nat), acc = ls.map (fun l => .p (lot l)) ∧ ls.length = k ∧ ∀ l ∈ ls, Lot N l) ar (by omega) hH v2 ⟨[], rfl, rfl, fun _ z => by cases z⟩ (by rw [sizeLine_eq]; omega)
    (fun k hk acc o' g ⟨ls, d1, d2, d3⟩ pv => by
      let e4 : En := [.loc n, .p (nInt N), .p (nInt kind), .loc h.length, .und, .und, .und, .und, .und, .und, .p (nInt k), .und, .und, .und]
      have ho3 : (H.set n o' ++ g)[n]? = some o' := get_set hnH o'
      have hn3 : n < (H.set n o' ++ g).length := by simp; omega
      obtain ⟨zs, o4, ⟨l, f1, f2, f3⟩, l4, p4, q4⟩ := lc_pot2 (t := .nm 12) (tt := mBo (mB gEq (mCall F__law_take (aCons (mVar 0) (aCons (mC (.int 2)) aNil))) (mC (.int 0)))) (te := mVar 12) (vs := [12]) (e := e4) (h := H.set n o' ++ g) (h0 := H.set n o' ++ g) (n := n) (m := N) (c := 1) (B := B + 1 + k * 6) (args := aCons (mVar 1) aNil)
        (fun k acc => ∃ l : List Nat, acc = l.map (fun x => .p (nInt x)) ∧ l.Pairwise (· < ·) ∧ ∀ x ∈ l, x < k) rfl (by omega) ho3 pv ⟨[], rfl, .nil, fun _ z => by cases z⟩ (by rw [sizeLine_eq]; omega)
        (fun k2 hk2 acc o5 g2 ⟨l, f1, f2, f3⟩ pv2 => by
          obtain ⟨w, o6, w1, w2, w3⟩ := take_in (h := H.set n o' ++ g) (n := n) g2 o5 (B + 1 + k * 6 + k2 * 1) 2 hn3 pv2 (by omega) (by decide) (by decide)
          let e5 : En := [.loc n, .p (nInt N), .p (nInt kind), .loc h.length, .und, .und, .und, .und, .und, .und, .p (nInt k), .und, .p (nInt k2), .und]
          have tk := r_bo _ _ _ (mB_ev (g := gEq) (mC2_ev (a := mVar 0) (e := e5) (x := .loc n) (h := (H.set n o' ++ g).set n o5 ++ g2) (h1 := (H.set n o' ++ g).set n o5 ++ g2) rfl (mC_ev (.int 2) _ _) w3) (mC_ev (.int 0) _ _) (eq_int _ _ _))
          refine ⟨e5, rfl, ?_⟩
          by_cases hw : w = 0
          · subst hw
            refine .inr ⟨o6, .p (nInt k2), o6, tk, rfl, w2.mono (by omega), l ++ [k2], by rw [f1, List.map_append]; rfl, List.pairwise_append.mpr ⟨f2, List.pairwise_singleton _ _, fun a ha b hb => by rw [List.mem_singleton.mp hb]; exact f3 a ha⟩, fun x hx => ?_⟩
            rcases List.mem_append.mp hx with hx | hx
            · have := f3 x hx; omega
            · rw [List.mem_singleton.mp hx]; omega
          · have : decide ((w : Int) = 0) = false := by simpa using hw
            rw [this] at tk
            exact .inl ⟨o6, tk, w2.mono (by omega), l, f1, f2, fun x hx => by have := f3 x hx; omega⟩)
      subst f1
      have lc : lstOf ((H.set n o' ++ g).set n o4 ++ [.lst (l.map fun x => .p (nInt x))]) (.loc (H.set n o' ++ g).length) = some ((l.map nInt).map Mv.p) := by
        have := lst_last ((H.set n o' ++ g).set n o4) (l.map fun x => .p (nInt x))
        rw [List.length_set] at this
        rw [this, List.map_map]
        rfl
      refine ⟨e4, rfl, .inr ⟨o', .p (lot l), o4, rfl, mGc_ev (mC1_ev q4 (tuple_lst lc)) ?_, p4.mono (by omega), ls ++ [l], by rw [d1, List.map_append]; rfl, by simp [d2], fun c hc => ?_⟩⟩
      · rw [gc_set (p4.mo _), set_ap2 hnH]
      · rcases List.mem_append.mp hc with hc | hc
        · exact d3 c hc
        · rw [List.mem_singleton.mp hc]; exact ⟨f2, f3⟩)
  subst c1
  have s1 := sAsg_ev (i := 4) q3 (show 4 < 14 by decide)
  have eH : H.set n o3 = h.set n o3 ++ [EV] := set_ap2 hn _ _
  let K : Hq := H.set n o3 ++ [.lst (ls.map fun l => .p (lot l))]
  let e6 : En := [.loc n, .p (nInt N), .p (nInt kind), .loc h.length, .loc H.length, .und, .und, .und, .und, .und, .und, .und, .und, .und]
  have lf : lstOf K (.loc H.length) = some (ls.map fun l => .p (lot l)) := by
    have := lst_last (H.set n o3) (ls.map fun l => .p (lot l))
    rw [List.length_set] at this
    exact this
  have tp := e_tops H.length K ls lf (by omega) fun l hl => by
    have := (c3 l hl).len
    rw [sizeLine_eq]; omega
  refine ⟨ls, c3, fun z => by subst z; simp at c2; omega, by omega, o3, e6, [EV] ++ [.lst (ls.map fun l => .p (lot l))], p3.mono (by omega), ?_⟩
  have eK : h.set n o3 ++ ([EV] ++ [.lst (ls.map fun l => .p (lot l))]) = K := by rw [← List.append_assoc, ← eH]
  rw [eK]
  refine (bSeq_nx s1).trans (sRet_p ?_)
  have t1 := mTup_ev (aC_ev (a := mVar 1) (e := e6) (h := K) (x := .p (nInt N)) (h1 := K) rfl (aC_ev (mC1_ev (a := mVar 4) (x := .loc H.length) (h1 := K) rfl tp) (aN_ev _ _))) (by simp)
  rw [r_mk2] at t1
  have t2 := mTup_ev (aC_ev t1 (aC_ev (mC_ev (.int 0) _ _) (aN_ev _ _))) (by simp)
  rw [r_mk2] at t2
  exact t2
theorem e_heap (n : Nat) (h : Hq) (o : Mo) (B : Nat) (ho : h[n]? = some o) (hp : PotV B o) (hB : B + 2000 ≤ 2 ^ 40) :
    ∃ N ls choices o', 1 ≤ N ∧ N ≤ 6 ∧ (∀ l ∈ ls, Lot N l) ∧ ls ≠ [] ∧ ls.length < 64 ∧ (0 < choices → Mt.Share N (LF N ls) 1 choices) ∧ PotV (B + 200) o' ∧ choices ≤ 3 ∧
      F__law_heap [.loc n] h = some (.p (.tuple [heapP N (topsL ls), nInt choices]), h.set n o') := by
  have hn : n < h.length := (List.getElem?_eq_some_iff.mp ho).1
  have hs0 : h.set n o ++ [] = h := by rw [List.append_nil, set_self ho]
  let e0 : En := [.loc n, .und, .und, .und, .und, .und, .und, .und, .und, .und, .und, .und, .und, .und]
  obtain ⟨v, o1, v1, v2, v3⟩ := take_in (h := h) (n := n) [] o B 6 hn hp (by omega) (by decide) (by decide)
  obtain ⟨kind, o2, w1, w2, w3⟩ := take_in (h := h) (n := n) [] o1 (B + 1) 5 hn v2 (by omega) (by decide) (by decide)
  rw [hs0] at v3
  obtain ⟨N, eN⟩ : ∃ N, N = 1 + v := ⟨_, rfl⟩
  have h1 : 1 ≤ N := by omega
  have h6 : N ≤ 6 := by omega
  let e1 : En := [.loc n, .p (nInt N), .p (nInt kind), .und, .und, .und, .und, .und, .und, .und, .und, .und, .und, .und]
  have s1 : sPar (aCons (mB gAdd (mC (.int 1)) (mCall F__law_take (aCons (mVar 0) (aCons (mC (.int 6)) aNil)))) (aCons (mCall F__law_take (aCons (mVar 0) (aCons (mC (.int 5)) aNil))) aNil)) [1, 2] e0 h = some (.nx, e1, h.set n o2) := by
    have a1 := mB_ev (g := gAdd) (mC_ev (.int 1) e0 h) (mC2_ev (a := mVar 0) (x := .loc n) (h1 := h) rfl (mC_ev (.int 6) _ _) v3) (r_addI _ _ _)
    have a2 : mCall F__law_take (aCons (mVar 0) (aCons (mC (.int 5)) aNil)) e0 (h.set n o1 ++ []) = _ := mC2_ev (a := mVar 0) (x := .loc n) (h1 := h.set n o1 ++ []) rfl (mC_ev (.int 5) _ _) w3
    have a3 := aC_ev a1 (aC_ev a2 (aN_ev _ _))
    rw [List.append_nil] at a3
    have eN' : PyData.int ((1 : Int) + (v : Int)) = nInt N := by
      rw [eN]
      show _ = PyData.int ((1 + v : Nat) : Int)
      rw [Int.natCast_add]; rfl
    rw [eN'] at a3
    rw [r_par, a3]
    simp only [Option.bind_some]
    rw [if_pos (by simp)]
    rfl
  let H : Hq := h.set n o2
  let EV : Mo := .lst ((lotsL (List.range N)).map fun l => .p (lot l))
  have lots_ev : mGc (mCall F__law_lots (aCons (mLR1 (mVar 1)) aNil)) e1 H = some (.loc H.length, H ++ [EV]) := by
    have a2 := mLR1_nat (a := mVar 1) (e := e1) (h := H) (h1 := H) (n := N) rfl (by omega)
    have a3 := e_lots H.length (H ++ [.lst ((List.range N).map fun i => .p (nInt i))]) (List.range N) (by rw [List.length_range]; omega) (lst_last _ _)
    refine mGc_ev (mC1_ev a2 a3) ?_
    rw [List.append_assoc]
    exact gc_l (by simp) (by simp [EV]) (by simp only [moB]; exact mv_lots _ _)
  have s2 := sAsg_ev (i := 3) lots_ev (show 3 < 14 by decide)
  have lH : H.length = h.length := List.length_set
  let e3 : En := [.loc n, .p (nInt N), .p (nInt kind), .loc h.length, .und, .und, .und, .und, .und, .und, .und, .und, .und, .und]
  have s2' : sAsg (mGc (mCall F__law_lots (aCons (mLR1 (mVar 1)) aNil))) (.nm 3) e1 (h.set n o2) = some (.nx, e3, h.set n o2 ++ [EV]) := by
    rw [lH] at s2
    exact s2
  have t3 := r_bo _ _ _ (mB_ev (g := gLtA) (a := mVar 2) (e := e3) (h := h.set n o2 ++ [EV]) (x := .p (nInt kind)) (h1 := h.set n o2 ++ [EV]) rfl (mC_ev (.int 3) _ _) (r_ltI _ _ _))
  have t4 := r_bo _ _ _ (mB_ev (g := gEq) (a := mVar 2) (e := e3) (h := h.set n o2 ++ [EV]) (x := .p (nInt kind)) (h1 := h.set n o2 ++ [EV]) rfl (mC_ev (.int 3) _ _) (eq_int _ _ _))
  by_cases k3 : kind < 3
  · obtain ⟨chs, c1, c2, o', e', g', p1, q1⟩ := kindA_ev n h o2 (B + 2) N kind hn w2 (by omega) h1 h6 k3
    have cne : chs ≠ [] := fun z => by subst z; simp at c2; omega
    refine ⟨N, freeL N chs, 1 + kind, o', h1, h6, fun l hl => (mem_freeL.mp hl).1, free_ne c1, free_few c1 cne, fun _ => by rw [← c2]; exact free_share c1 cne, p1.mono (by omega), by omega, ?_⟩
    have : decide ((kind : Int) < 3) = true := decide_eq_true (by omega)
    rw [this] at t3
    refine runF_set e0 g' (n := n) (o := o') ?_ (p1.mo _)
    have sA := (sIf_t (s := kindA) (s' := bNil) t3).trans q1
    unfold b__law_heap
    rw [bSeq_nx s1, bSeq_nx s2', bSeq_ret sA]
    rfl
  · have : decide ((kind : Int) < 3) = false := decide_eq_false (by omega)
    rw [this] at t3
    have sA : sIf (mBo (mB gLtA (mVar 2) (mC (.int 3)))) kindA bNil e3 (h.set n o2 ++ [EV]) = some (.nx, e3, h.set n o2 ++ [EV]) := (sIf_f t3).trans rfl
    by_cases k4 : kind = 3
    · obtain ⟨E, c1, o', e', g', p1, q1⟩ := kindB_ev n h o2 (B + 2) N kind hn w2 (by omega) h1 h6
      refine ⟨N, pairL N E, 2, o', h1, h6, fun l hl => (mem_pairL.mp hl).1, pair_ne N E, pair_few c1 h6, fun _ => pair_share c1, p1.mono (by omega), by omega, ?_⟩
      have : decide ((kind : Int) = 3) = true := decide_eq_true (by omega)
      rw [this] at t4
      refine runF_set e0 g' (n := n) (o := o') ?_ (p1.mo _)
      have sB := (sIf_t (s := kindB) (s' := bNil) t4).trans q1
      unfold b__law_heap
      rw [bSeq_nx s1, bSeq_nx s2', bSeq_nx sA, bSeq_ret sB]
      rfl
    · obtain ⟨ls, c1, c2, c3, o', e', g', p1, q1⟩ := kindC_ev n h o2 (B + 2) N kind hn w2 (by omega) h1 h6
      refine ⟨N, ls, 0, o', h1, h6, c1, c2, c3, fun z => by omega, p1.mono (by omega), by omega, ?_⟩
      have : decide ((kind : Int) = 3) = false := decide_eq_false (by omega)
      rw [this] at t4
      refine runF_set e0 g' (n := n) (o := o') ?_ (p1.mo _)
      have sB : sIf (mBo (mB gEq (mVar 2) (mC (.int 3)))) kindB bNil e3 (h.set n o2 ++ [EV]) = some (.nx, e3, h.set n o2 ++ [EV]) := (sIf_f t4).trans rfl
      unfold b__law_heap
      rw [bSeq_nx s1, bSeq_nx s2', bSeq_nx sA, bSeq_nx sB]
      exact congrArg retOf q1
end Wk
set_option Elab.async false
set_option linter.all false
set_option maxRecDepth 100000
set_option maxHeartbeats 1000000
set_option autoImplicit false
namespace Wk
open PySem PySem.Spec L2 MX
/-! ### the plain law -/
abbrev setsOf (ls : List (List Nat)) : List Mt.S := ls.map Mt.lmem
theorem lf_fam (N : Nat) (ls : List (List Nat)) : LF N ls = Mt.Fam N (setsOf ls) := by
  funext s
  refine propext ⟨fun ⟨l, hl, h⟩ => ⟨_, List.mem_map.mpr ⟨l, hl, rfl⟩, h⟩, fun ⟨t, ht, h⟩ => ?_⟩
  obtain ⟨l, hl, rfl⟩ := List.mem_map.mp ht
  exact ⟨l, hl, h⟩
theorem lf_her (N : Nat) (ls : List (List Nat)) : Mt.Her N (LF N ls) := by rw [lf_fam]; exact Mt.fam_her N _
theorem lf_tops {N : Nat} {ls : List (List Nat)} (hl : ∀ l ∈ ls, Lot N l) : LF N (topsL ls) = LF N ls := by
  funext s
  refine propext ⟨fun ⟨l, h1, h2⟩ => ⟨l, (mem_tops.mp h1).1, h2⟩, fun ⟨l, h1, h2⟩ => ?_⟩
  obtain ⟨t, ht, hs⟩ := in_top hl _ h1 (Nat.le_refl _)
  exact ⟨t, ht, h2.trans fun x _ e => by simp at e ⊢; exact hs x e⟩
theorem lf_emp {N : Nat} {ls : List (List Nat)} (ne : ls ≠ []) : LF N ls Mt.emp := by
  obtain ⟨l, hl⟩ := List.exists_mem_of_ne_nil _ ne
  exact ⟨l, hl, fun _ _ h => by simp at h⟩
section
variable {N : Nat} {ls : List (List Nat)} (k : HeapOk N ls)
include k
theorem HeapOk.grown {s a : List Nat} : a ∈ grownL ls s ↔ Lot N a ∧ Mt.MaxIn N (LF N ls) (Mt.lmem s) (Mt.lmem a) := by
  have her := lf_her N ls
  have lt : ∀ t ∈ ls, Lot N (t.filter fun x => decide (x ∈ s)) := fun t ht => ⟨(k.lots t ht).1.filter _, fun x hx => (k.lots t ht).2 x (List.mem_filter.mp hx).1⟩
  unfold grownL
  rw [mem_tops]
  constructor
  · rintro ⟨h1, h2⟩
    obtain ⟨t, ht, rfl⟩ := List.mem_map.mp h1
    refine ⟨lt t ht, fun x _ e => ?_, ⟨t, ht, fun x _ e => ?_⟩, fun y hy hu ha ⟨t', ht', hs⟩ => ?_⟩
    · simp at e ⊢; exact e.2
    · simp at e ⊢; exact e.1
    · have e := h2 _ (List.mem_map.mpr ⟨t', ht', rfl⟩) fun x hx => by
        have := hs x ((lt t ht).2 x hx) (by rw [Mt.ins_ap, Mt.lmem_ap, decide_eq_true hx]; rfl)
        have h3 := (List.mem_filter.mp hx).2
        exact List.mem_filter.mpr ⟨by simpa using this, h3⟩
      have hy' : y ∈ t'.filter fun x => decide (x ∈ s) := by
        have := hs y hy (by simp)
        exact List.mem_filter.mpr ⟨by simpa using this, by simpa using hu⟩
      rw [← e] at hy'
      simp at ha hy'
      exact ha hy'.1 hy'.2
  · rintro ⟨la, m⟩
    have full : ∀ t ∈ ls, (∀ x ∈ a, x ∈ t.filter fun x => decide (x ∈ s)) → a = t.filter fun x => decide (x ∈ s) := fun t ht h => by
      refine lot_ext la (lt t ht) fun x hx => ⟨h x, fun hx2 => ?_⟩
      have := m.all her (B := Mt.lmem (t.filter fun x => decide (x ∈ s))) ⟨t, ht, fun x _ e => by simp at e ⊢; exact e.1⟩ (fun x _ e => by simp at e ⊢; exact e.2) (fun x _ e => by
        rw [Mt.lmem_ap, decide_eq_true_iff] at e ⊢
        exact h x e) x hx (by rw [Mt.lmem_ap]; exact decide_eq_true hx2)
      simpa using this
    obtain ⟨t, ht, hs⟩ := m.mem
    have ha : ∀ x ∈ a, x ∈ t.filter fun x => decide (x ∈ s) := fun x hx => by
      have h1 := hs x (la.2 x hx) (by simpa using hx)
      have h2 := m.sub x (la.2 x hx) (by simpa using hx)
      exact List.mem_filter.mpr ⟨by simpa using h1, by simpa using h2⟩
    refine ⟨List.mem_map.mpr ⟨t, ht, (full t ht ha).symm⟩, fun o ho hs2 => ?_⟩
    obtain ⟨t', ht', rfl⟩ := List.mem_map.mp ho
    exact full t' ht' hs2
/-- any set's greatest ones are told -/
theorem HeapOk.grownS {U A : Mt.S} (m : Mt.MaxIn N (LF N ls) U A) : Mt.els N A ∈ grownL ls (Mt.els N U) := by
  have her := lf_her N ls
  refine k.grown.mpr ⟨els_isLot N A, fun x hx e => ?_, (her.congr fun x hx => by simp [Mt.els_mem, hx]).mp m.mem, fun y hy hu ha f => ?_⟩
  · have := m.sub x hx (by simpa [Mt.els_mem, hx] using e)
    simp [Mt.els_mem, hx, this]
  · refine m.max y hy (by simpa [Mt.els_mem, hy] using hu) (by simpa [Mt.els_mem, hy] using ha) ((her.congr fun x hx => ?_).mp f)
    simp [Mt.els_mem, hx]
variable {few most : Nat} {small l : List Nat} (i : ShInv ls (lotsL (List.range N)) few most small l)
include i
theorem HeapOk.share : Mt.Share N (LF N ls) few most := fun U A B m hB hs => by
  obtain ⟨M, mm, ms⟩ := Mt.max_of hs hB
  have := i.all (Mt.els N U) (mem_lotsL.mpr (els_isLot N U)) _ (k.grownS m) _ (k.grownS mm)
  rw [Mt.els_len, Mt.els_len] at this
  exact Nat.le_trans (Nat.mul_le_mul_left _ (Mt.cd_mono ms)) this
theorem HeapOk.shareOf {c : Nat} (sh : Mt.Share N (LF N ls) 1 c) (hc : 0 < c) : most ≤ c * few := by
  by_cases e : few = most
  · rw [e]; exact Nat.le_mul_of_pos_left _ hc
  · obtain ⟨h1, h2, h3, b, h4, h5⟩ := i.at_ e
    obtain ⟨la, ma⟩ := k.grown.mp h2
    obtain ⟨lb, mb⟩ := k.grown.mp h4
    have := sh _ _ _ ma mb.mem mb.sub
    rw [cd_lot la, cd_lot lb, Nat.one_mul, h3, h5] at this
    exact this
theorem HeapOk.augOf (e : few = most) : Mt.Aug N (LF N ls) := by
  refine Mt.share_aug fun U A B ma mb => ?_
  have s1 := k.share i U A B ma mb.mem mb.sub
  have s2 := k.share i U B A mb ma.mem ma.sub
  rw [e] at s1 s2
  have h1 := Nat.le_of_mul_le_mul_left s1 i.pos
  have h2 := Nat.le_of_mul_le_mul_left s2 i.pos
  omega
omit i in
theorem HeapOk.anti (an : Anti ls) : Mt.AntiS N (setsOf ls) := by
  intro t ht u hu h
  obtain ⟨a, ha, rfl⟩ := List.mem_map.mp ht
  obtain ⟨b, hb, rfl⟩ := List.mem_map.mp hu
  by_cases e : a = b
  · subst e; exact h
  · exfalso
    have d0 : dif (mask a) (mask b) = 0 := by
      refine Nat.eq_of_testBit_eq fun x => ?_
      rw [dif_bit, mask_bit (k.lots a ha).nodup, mask_bit (k.lots b hb).nodup, Nat.zero_testBit]
      by_cases hx : x ∈ a
      · have := h x ((k.lots a ha).2 x hx) (by simpa using hx)
        simp at this
        simp [hx, this]
      · simp [hx]
    have sym : ∀ {a b}, a ∈ ls → b ∈ ls → a ≠ b → dif (mask a) (mask b) ≠ 0 ∧ dif (mask b) (mask a) ≠ 0 := fun {a b} ha hb ne => by
      have P : ls.Pairwise fun a b => dif (mask a) (mask b) ≠ 0 ∧ dif (mask b) (mask a) ≠ 0 := an
      obtain ⟨x, hx, ex⟩ := List.getElem_of_mem ha
      obtain ⟨y, hy, ey⟩ := List.getElem_of_mem hb
      rcases Nat.lt_trichotomy x y with c | c | c
      · have := List.pairwise_iff_getElem.mp P x y hx hy c
        rw [ex, ey] at this; exact this
      · subst c; exact absurd (ex.symm.trans ey) ne
      · have := List.pairwise_iff_getElem.mp P y x hy hx c
        rw [ex, ey] at this; exact ⟨this.2, this.1⟩
    exact (sym ha hb e).1 d0
omit i in
theorem HeapOk.canGo {a b : List Nat} (ha : a ∈ ls) (hb : b ∈ ls) (x : Nat) : canGo (pIn ls) (mask a) (mask b) x = true ↔ ∃ y, y < N ∧ Mt.lmem b y = true ∧ Mt.lmem a y = false ∧ ∃ v ∈ setsOf ls, ∀ z, z < N → v z = Mt.ins (Mt.del (Mt.lmem a) x) y z := by
  have na := (k.lots a ha)
  have nb := (k.lots b hb)
  have k9 := k.few
  unfold Wk.canGo
  rw [List.any_eq_true]
  have bits : ∀ y z, (dif (mask a) (2 ^ x) ||| 2 ^ y).testBit z = Mt.ins (Mt.del (Mt.lmem a) x) y z := fun y z => by
    rw [Nat.testBit_or, dif_bit, mask_bit na.nodup, Nat.testBit_two_pow, Nat.testBit_two_pow]
    simp only [Mt.ins_ap, Mt.del_ap, Mt.lmem_ap]
    have e1 : decide (x = z) = (z == x) := by rw [Bool.eq_iff_iff]; simp; exact eq_comm
    have e2 : decide (y = z) = (z == y) := by rw [Bool.eq_iff_iff]; simp; exact eq_comm
    rw [e1, e2]
  constructor
  · rintro ⟨y, hy, hp⟩
    rw [mem_lotOf, dif_bit, mask_bit nb.nodup, mask_bit na.nodup] at hy
    simp at hy
    have hyN : y < N := nb.2 y hy.2.1
    have hp : dif (mask a) (2 ^ x) ||| 2 ^ y ∈ ls.map mask := of_decide_eq_true hp
    obtain ⟨v, hv, e⟩ := List.mem_map.mp hp
    refine ⟨y, hyN, by simpa using hy.2.1, by simpa using hy.2.2, _, List.mem_map.mpr ⟨v, hv, rfl⟩, fun z hz => ?_⟩
    rw [← bits, ← e, mask_bit (k.lots v hv).nodup]
    rfl
  · rintro ⟨y, hyN, h1, h2, v, hv, e⟩
    obtain ⟨v, hw, rfl⟩ := List.mem_map.mp hv
    refine ⟨y, ?_, decide_eq_true (List.mem_map.mpr ⟨v, hw, Nat.eq_of_testBit_eq fun z => ?_⟩)⟩
    · rw [mem_lotOf, dif_bit, mask_bit nb.nodup, mask_bit na.nodup]
      simp at h1 h2
      simp [h1, h2]
      omega
    · rw [bits, mask_bit (k.lots v hw).nodup]
      by_cases hz : z < N
      · rw [← e z hz]; rfl
      · have z1 : z ∉ v := fun h => hz ((k.lots v hw).2 z h)
        have z2 : z ∉ a := fun h => hz (na.2 z h)
        have z3 : (z == y) = false := beq_eq_false_iff_ne.mpr (by omega)
        simp [z1, z2, z3]
omit i in
theorem HeapOk.stuck_iff : stuckP ls = none ↔ Mt.Exch N (setsOf ls) := by
  have k9 := k.few
  unfold stuckP
  rw [List.findSome?_eq_none_iff]
  constructor
  · intro h t ht u hu x hx h1 h2
    obtain ⟨a, ha, rfl⟩ := List.mem_map.mp ht
    obtain ⟨b, hb, rfl⟩ := List.mem_map.mp hu
    have h3 := List.findSome?_eq_none_iff.mp (h a ha) b hb
    have h4 := List.findSome?_eq_none_iff.mp h3 x (by
      rw [mem_lotOf, dif_bit, mask_bit (k.lots a ha).nodup, mask_bit (k.lots b hb).nodup]
      simp at h1 h2
      simp [h1, h2]
      omega)
    refine (k.canGo ha hb x).mp ?_
    cases hc : Wk.canGo (pIn ls) (mask a) (mask b) x with
    | true => rfl
    | false => rw [hc] at h4; simp at h4
  · intro h a ha
    rw [List.findSome?_eq_none_iff]
    intro b hb
    rw [List.findSome?_eq_none_iff]
    intro x hx
    rw [mem_lotOf, dif_bit, mask_bit (k.lots a ha).nodup, mask_bit (k.lots b hb).nodup] at hx
    simp at hx
    have := (k.canGo ha hb x).mpr (h _ (List.mem_map.mpr ⟨a, ha, rfl⟩) _ (List.mem_map.mpr ⟨b, hb, rfl⟩) x ((k.lots a ha).2 x hx.2.1) (by simpa using hx.2.1) (by simpa using hx.2.2))
    rw [this]
    rfl
omit i in
theorem HeapOk.few_iff : fewP ls = none ↔ ∀ a ∈ ls, ∀ b ∈ ls, b.length ≤ a.length := by
  unfold fewP
  rw [List.findSome?_eq_none_iff]
  constructor
  · intro h a ha b hb
    have := List.findSome?_eq_none_iff.mp (h a ha) b hb
    split at this
    · cases this
    · omega
  · intro h a ha
    rw [List.findSome?_eq_none_iff]
    intro b hb
    rw [if_neg (by have := h a ha b hb; omega)]
theorem HeapOk.eq_iff (an : Anti ls) : (stuckP ls = none ↔ few = most) ∧ (few = most → fewP ls = none) := by
  refine ⟨⟨fun h => ?_, fun e => ?_⟩, fun e => ?_⟩
  · have aug := Mt.exch_aug (k.stuck_iff.mp h)
    rw [← lf_fam] at aug
    have := k.shareOf i (Mt.aug_share aug) (by decide)
    have := i.le
    omega
  · have aug := k.augOf i e
    rw [lf_fam] at aug
    exact k.stuck_iff.mpr (Mt.aug_exch (k.anti an) aug)
  · have aug := k.augOf i e
    rw [lf_fam] at aug
    refine k.few_iff.mpr fun a ha b hb => ?_
    have := Mt.aug_eq (k.anti an) aug (List.mem_map.mpr ⟨a, ha, rfl⟩) (List.mem_map.mpr ⟨b, hb, rfl⟩)
    rw [cd_lot (k.lots a ha), cd_lot (k.lots b hb)] at this
    exact this
/-! ### taking the next best -/
abbrev wf (ws : List Nat) : Nat → Nat := fun x => ws.getD x 0
omit i in
theorem HeapOk.within {m : Nat} (hm : m < 2 ^ N) : within ls m = true ↔ LF N ls m.testBit := by
  unfold Wk.within
  rw [List.any_eq_true]
  constructor
  · rintro ⟨t, ht, h⟩
    refine ⟨t, ht, fun x hx e => ?_⟩
    have := dif_bit (mask t) x m
    rw [of_decide_eq_true h, mask_bit (k.lots t ht).nodup, e] at this
    simpa using this
  · rintro ⟨t, ht, h⟩
    refine ⟨t, ht, decide_eq_true (Nat.eq_of_testBit_eq fun x => ?_)⟩
    rw [dif_bit, mask_bit (k.lots t ht).nodup, Nat.zero_testBit]
    cases e : m.testBit x with
    | false => rfl
    | true =>
      have hx : x < N := Nat.lt_of_not_le fun c => by
        have h2 := Nat.testBit_lt_two_pow (Nat.lt_of_lt_of_le hm (Nat.pow_le_pow_right (by decide) c))
        rw [h2] at e; cases e
      have := h x hx e
      simpa using this
omit i in
theorem HeapOk.greedyS : ∀ (l : List Nat), (∀ x ∈ l, x < N) → greedy ls l.reverse < 2 ^ N ∧ ∀ x, (greedy ls l.reverse).testBit x = Mt.gs (LF N ls) l x
  | [], _ => ⟨Nat.pow_pos (by decide), fun x => by simp [greedy, Mt.gs]⟩
  | y :: l, h => by
    obtain ⟨h1, h2⟩ := HeapOk.greedyS l fun x hx => h x (List.mem_cons_of_mem _ hx)
    have e : greedy ls (y :: l).reverse = grow ls (greedy ls l.reverse) y := by
      unfold greedy
      rw [List.reverse_cons, List.foldl_append]; rfl
    have hy : 2 ^ y < 2 ^ N := Nat.pow_lt_pow_right (by decide) (h y (by simp))
    have hm : greedy ls l.reverse ||| 2 ^ y < 2 ^ N := Nat.or_lt_two_pow h1 hy
    have bits : (greedy ls l.reverse ||| 2 ^ y).testBit = Mt.ins (Mt.gs (LF N ls) l) y := by
      funext x
      rw [Nat.testBit_or, h2, Nat.testBit_two_pow, Mt.ins_ap]
      have e2 : decide (y = x) = (x == y) := by rw [Bool.eq_iff_iff]; simp; exact eq_comm
      rw [e2]
    have w := k.within hm
    rw [bits] at w
    rw [e]
    unfold grow Mt.gs
    by_cases c : LF N ls (Mt.ins (Mt.gs (LF N ls) l) y)
    · rw [if_pos (w.mpr c), if_pos c]
      exact ⟨hm, fun x => congrFun bits x⟩
    · rw [if_neg fun z => c (w.mp z), if_neg c]
      exact ⟨h1, h2⟩
omit k i in
theorem weigh_wl (ws : List Nat) {a : List Nat} (ha : Lot N a) : weigh ws a = Mt.wl (wf ws) (Mt.lmem a) (List.range N) := by
  have : a = (List.range N).filter (Mt.lmem a) := (els_lot ha).symm
  rw [Mt.wl_filter, ← this]
  rfl
variable {ws ord : List Nat} (o1 : ord.Perm (List.range N)) (o2 : ord.Pairwise (fun a b => ws.getD b 0 ≤ ws.getD a 0))
include o1 o2
omit i in
theorem HeapOk.next_wl : Lot N (lotOf (greedy ls ord) 10) ∧ weigh ws (lotOf (greedy ls ord) 10) = Mt.wl (wf ws) (Mt.gs (LF N ls) ord.reverse) ord.reverse ∧ ord.reverse.Perm (List.range N) ∧ ord.reverse.Pairwise (fun a b => wf ws a ≤ wf ws b) ∧ LF N ls (Mt.gs (LF N ls) ord.reverse) := by
  have pr : ord.reverse.Perm (List.range N) := (List.reverse_perm ord).trans o1
  obtain ⟨g1, g2⟩ := k.greedyS ord.reverse fun x hx => List.mem_range.mp (pr.mem_iff.mp hx)
  rw [List.reverse_reverse] at g1 g2
  have k9 := k.few
  have la : Lot N (lotOf (greedy ls ord) 10) := ⟨(lotOf_lot _ _).1, lotOf_small g1⟩
  refine ⟨la, ?_, pr, List.pairwise_reverse.mpr o2, Mt.gs_mem (lf_emp k.ne) _⟩
  rw [weigh_wl ws la, Mt.wl_perm pr]
  refine Mt.wl_congr fun x hx => ?_
  have hx := List.mem_range.mp hx
  rw [← g2 x, Mt.lmem_ap]
  rw [Bool.eq_iff_iff, decide_eq_true_iff, mem_lotOf]
  simp; omega
theorem HeapOk.got {top : List Nat} (ht : top ∈ ls) (hmax : ∀ t ∈ ls, weigh ws t ≤ weigh ws top) : few * weigh ws top ≤ weigh ws (lotOf (greedy ls ord) 10) * most ∧ weigh ws (lotOf (greedy ls ord) 10) ≤ weigh ws top := by
  obtain ⟨la, e, pr, sr, fg⟩ := k.next_wl o1 o2
  constructor
  · have := Mt.gs_weight (lf_emp k.ne) (lf_her N ls) (k.share i) (wf ws) (B := Mt.lmem top) ⟨top, ht, Mt.Sub.refl _ _⟩ (l := ord.reverse) (pr.nodup_iff.mpr List.nodup_range) (fun x hx => List.mem_range.mp (pr.mem_iff.mp hx)) sr
    rw [e, weigh_wl ws (k.lots top ht), ← Mt.wl_perm pr, Nat.mul_comm _ most]
    exact this
  · obtain ⟨t, h1, h2⟩ := fg
    refine Nat.le_trans ?_ (hmax t h1)
    rw [e, weigh_wl ws (k.lots t h1), Mt.wl_perm pr]
    exact Mt.wl_mono fun x hx h => h2 x (List.mem_range.mp hx) h
end
/-- the weights of the worst lot -/
def worstW (N : Nat) (small l : List Nat) : List Nat := (List.range N).map fun x => if x ∈ l then (if x ∈ small then 1000 else 999) else 0
theorem worst_ok (N : Nat) (small l : List Nat) : WOk N (worstW N small l) := by
  refine ⟨by simp [worstW], fun w hw => ?_⟩
  obtain ⟨x, _, rfl⟩ := List.mem_map.mp hw
  split
  · split <;> omega
  · omega
section
variable {N : Nat} {ls : List (List Nat)} (k : HeapOk N ls) {few most : Nat} {small l : List Nat} (i : ShInv ls (lotsL (List.range N)) few most small l) (ne : few ≠ most)
include k i ne
theorem worst_w : ∀ x, x < N → wf (worstW N small l) x = if Mt.lmem l x = true then (if Mt.lmem small x = true then 1000 else 999) else 0 := fun x hx => by
  unfold wf worstW
  rw [List.getD_eq_getElem?_getD, List.getElem?_map, List.getElem?_range hx]
  simp
theorem HeapOk.worst {ord : List Nat} (o1 : ord.Perm (List.range N)) (o2 : ord.Pairwise (fun a b => (worstW N small l).getD b 0 ≤ (worstW N small l).getD a 0)) {top : List Nat} (ht : top ∈ ls) (hmax : ∀ t ∈ ls, weigh (worstW N small l) t ≤ weigh (worstW N small l) top) :
    weigh (worstW N small l) (lotOf (greedy ls ord) 10) = 1000 * few ∧ 999 * most ≤ weigh (worstW N small l) top ∧ few < most ∧ most ≤ 9 := by
  obtain ⟨h1, h2, h3, b, h4, h5⟩ := i.at_ ne
  obtain ⟨la, ma⟩ := k.grown.mp h2
  obtain ⟨lb, mb⟩ := k.grown.mp h4
  have w := worst_w k i ne
  obtain ⟨_, e, pr, sr, fg⟩ := k.next_wl o1 o2
  refine ⟨?_, ?_, ?_, ?_⟩
  · rw [e, Mt.gs_worst (lf_emp k.ne) (lf_her N ls) ma (wf (worstW N small l)) w pr sr, cd_lot la, h3]
  · obtain ⟨t, h6, h7⟩ := mb.mem
    refine Nat.le_trans ?_ (hmax t h6)
    rw [weigh_wl _ (k.lots t h6), ← h5, ← cd_lot lb]
    exact Mt.best_worst (wf (worstW N small l)) w mb.sub h7
  · have := i.le; omega
  · have := lb.len
    have := k.few
    omega
end
end Wk
set_option Elab.async false
set_option linter.all false
set_option maxRecDepth 100000
set_option maxHeartbeats 1000000
set_option autoImplicit false
namespace Wk
open PySem PySem.Spec L2 MX
theorem sAsgT_ev {a : ME} {e e' : En} {h h1 : Hq} {is : List Nat} {xs : List Pd} (ha : a e h = some (.p (.tuple xs), h1)) (hs : setAll is (xs.map Mv.p) e = some e') : sAsg a (.tup is) e h = some (.nx, e', h1) := by
  rw [r_asg, ha]
  simp only [Option.bind_some, r_tg, r_tupP, hs, Option.map_some]
theorem tOr_f {t u : MT} {e : En} {h : Hq} (a : t e h = some (false, h)) (b : u e h = some (false, h)) : tOrM t u e h = some (false, h) := by
  rw [r_tor, a]; exact b
theorem tAnd_f {t u : MT} {e : En} {h : Hq} (a : t e h = some (false, h)) : tAndM t u e h = some (false, h) := by
  rw [r_tand, a]; rfl
theorem tAnd_t {t u : MT} {e : En} {h : Hq} {b : Bool} (a : t e h = some (true, h)) (c : u e h = some (b, h)) : tAndM t u e h = some (b, h) := by
  rw [r_tand, a]; exact c
theorem plns_int (l : List Int) (n : Nat) : plns n (l.map PyData.int) = true := by
  induction l with
  | nil => cases n <;> rfl
  | cons x l ih => cases n <;> simp [plns, pln, ih]
theorem dec_nat (a b : Nat) : decide ((a : Int) = (b : Int)) = decide (a = b) := by
  rw [Bool.eq_iff_iff, decide_eq_true_iff, decide_eq_true_iff]; omega
section
variable {N : Nat} {ls : List (List Nat)} (k : HeapOk N ls) (an : Anti ls)
include k an
theorem HeapOk.pair_ev {ws : List Nat} (hw : WOk N ws) {e : En} {h : Hq} (v1 : mVar 1 e h = some (.p (heapP N ls), h)) (v9 : mVar 9 e h = some (.p (lot ws), h)) :
    ∃ ord top, ord.Perm (List.range N) ∧ ord.Pairwise (fun a b => ws.getD b 0 ≤ ws.getD a 0) ∧ top ∈ ls ∧ (∀ t ∈ ls, weigh ws t ≤ weigh ws top) ∧
      mCall F_best (aCons (mVar 1) (aCons (mVar 9) aNil)) e h = some (.p (.tuple [nInt (weigh ws top), lot top]), h) ∧
      (aCons (mCall F__law_weighs (aCons (mVar 9) (aCons (mCall F_next_best (aCons (mVar 1) (aCons (mVar 9) aNil))) aNil))) (aCons (mB gIx (mCall F_best (aCons (mVar 1) (aCons (mVar 9) aNil))) (mC (.int 0))) aNil)) e h
        = some ([.p (nInt (weigh ws (lotOf (greedy ls ord) 10))), .p (nInt (weigh ws top))], h) := by
  obtain ⟨ord, o1, o2, o3⟩ := k.next_best an hw h
  obtain ⟨top, t1, t2, t3⟩ := k.bestF an hw h
  have b1 := mC2_ev v1 v9 t3
  have n1 := mC2_ev v1 v9 o3
  have w1 := e_weighs ws (lotOf (greedy ls ord) 10) h (len10 (lotOf_lot _ _)) (by rw [hw.1]; exact lotOf_small (greedy_lt ls o1))
  exact ⟨ord, top, o1, o2, t1, t2, b1, aC_ev (mC2_ev v9 n1 w1) (aC_ev (mB_ev b1 (mC_ev _ _ _) (ix0 _ _ _)) (aN_ev _ _))⟩
theorem HeapOk.always_eq {few most : Nat} {small l : List Nat} (i : ShInv ls (lotsL (List.range N)) few most small l) {e : En} {h : Hq} (v1 : mVar 1 e h = some (.p (heapP N ls), h)) :
    (mB gEq (mCall F_always_best (aCons (mVar 1) aNil)) (mTup (aCons (mC (.str "choice")) aNil))) e h = some (.p (.bool (decide (few = most))), h) := by
  obtain ⟨xs, a1, a2⟩ := k.always an h
  obtain ⟨q1, q2⟩ := k.eq_iff i an
  have pc : pln 60 (.tuple [.str "choice"]) = true := by decide +kernel
  have t1 := mTup_ev (aC_ev (mC_ev (.str "choice") e h) (aN_ev _ _)) (by simp)
  rw [r_mk1] at t1
  refine mB_ev (mC1_ev v1 a1) t1 ?_
  rcases a2 with ⟨c1, c2, rfl⟩ | ⟨c1, vs, top, rfl⟩
  · refine eq_pln pc pc _ ?_ h
    simp [q1.mp c2]
  · have pw : pln 60 (.tuple [.str "weights", .tuple (vs.map .int), lot top]) = true := by
      have sw : PyData.strOk "weights" = true := by decide +kernel
      show plns 59 [.str "weights", .tuple (vs.map .int), lot top] = true
      have p1 : pln 59 (.tuple (vs.map .int)) = true := plns_int vs 58
      have p2 : pln 59 (lot top) = true := plns_ints top 58
      have p0 : pln 59 (.str "weights") = true := by simpa [pln] using sw
      simp [plns, p0, p1, p2]
    refine eq_pln pw pc _ ?_ h
    have : ¬ few = most := fun z => c1 ⟨q2 z, q1.mpr z⟩
    simp [this]
end
theorem e_right (n : Nat) (h : Hq) (o : Mo) (B : Nat) (ho : h[n]? = some o) (hp : PotV B o) (hB : B + 5000 ≤ 2 ^ 40) :
    ∃ o', PotV (B + 300) o' ∧ F__law_right [.loc n] h = some (.p (.bool true), h.set n o') := by
  have hn : n < h.length := (List.getElem?_eq_some_iff.mp ho).1
  obtain ⟨N, ls0, choices, o1, h1, h6, l1, l2, l3, sh0, p1, ch3, e1⟩ := e_heap n h o B ho hp (by omega)
  obtain ⟨k, an⟩ := tops_heap (by omega) l1 l2 l3
  have sh1 := sh0
  rw [← lf_tops l1] at sh1
  have tl : (topsL ls0).length < 64 := by
    have h1 : (topsL ls0).length ≤ (srtN ls0).length := List.length_filter_le _ _
    have := srtN_len ls0
    omega
  generalize topsL ls0 = ls at k an sh1 e1 tl
  let H : Hq := h.set n o1
  obtain ⟨few, most, small, l, inv, f9, m9, e3⟩ := e_share N ls H (by omega) tl k.lots k.ne
  obtain ⟨q1, q2⟩ := k.eq_iff inv an
  let U : Mv := .und
  have s1 : sAsg (mCall F__law_heap (aCons (mVar 0) aNil)) (.tup [1, 2]) [.loc n, U, U, U, U, U, U, U, U, U, U, U, U] h = some (.nx, [.loc n, .p (heapP N ls), .p (nInt choices), U, U, U, U, U, U, U, U, U, U], H) := sAsgT_ev (mC1_ev (a := mVar 0) (x := .loc n) (h1 := h) rfl e1) rfl
  have s2 : sAsg (mB gIx (mVar 1) (mC (.int 0))) (.nm 3) [.loc n, .p (heapP N ls), .p (nInt choices), U, U, U, U, U, U, U, U, U, U] H = some (.nx, [.loc n, .p (heapP N ls), .p (nInt choices), .p (nInt N), U, U, U, U, U, U, U, U, U], H) := sAsg_ev (mB_ev (a := mVar 1) (x := .p (heapP N ls)) (h1 := H) rfl (mC_ev _ _ _) (ix0 _ _ _)) (show 3 < 13 by decide)
  let E (z8 z9 z10 z11 : Mv) : En := [.loc n, .p (heapP N ls), .p (nInt choices), .p (nInt N), .p (nInt few), .p (nInt most), .p (lot small), .p (lot l), z8, z9, z10, z11, U]
  have s3 : sAsg (mCall F__law_share (aCons (mVar 1) aNil)) (.tup [4, 5, 6, 7]) [.loc n, .p (heapP N ls), .p (nInt choices), .p (nInt N), U, U, U, U, U, U, U, U, U] H = some (.nx, E U U U U, H) := sAsgT_ev (mC1_ev (a := mVar 1) (x := .p (heapP N ls)) (h1 := H) rfl e3) rfl
  have fm : ∀ z8 z9 z10 z11 H, (mB gEq (mVar 4) (mVar 5)) (E z8 z9 z10 z11) H = some (.p (.bool (decide (few = most))), H) := fun z8 z9 z10 z11 H => by
    have := mB_ev (g := gEq) (a := mVar 4) (b := mVar 5) (e := E z8 z9 z10 z11) (h := H) (x := .p (nInt few)) (y := .p (nInt most)) (h1 := H) (h2 := H) rfl rfl (eq_int _ _ _)
    rw [dec_nat] at this
    exact this
  have s4 : sIf (tOrM (mBo (mB gNotN (mCall F_is_heap (aCons (mVar 1) aNil)) (mC (.bool true)))) (mBo (mB gNe (mB gEq (mCall F_always_best (aCons (mVar 1) aNil)) (mTup (aCons (mC (.str "choice")) aNil))) (mB gEq (mVar 4) (mVar 5))))) (sRet (mC (.bool false))) bNil (E U U U U) H = some (.nx, E U U U U, H) := by
    have t1 := r_bo _ _ _ (mB_ev (g := gNotN) (mC1_ev (a := mVar 1) (e := E U U U U) (h := H) (x := .p (heapP N ls)) (h1 := H) rfl (k.heap an H)) (mC_ev (.bool true) _ _) (r_notB _ _ _))
    have t2 := r_bo _ _ _ (mB_ev (g := gNe) (k.always_eq an inv (e := E U U U U) (h := H) rfl) (fm U U U U H) (ne_bool _ _ _))
    have d1 : (!decide (decide (few = most) = decide (few = most))) = false := by simp
    rw [d1] at t2
    exact (sIf_f (tOr_f t1 t2)).trans rfl
  have s5 : sIf (tOrM (mBo (mB gNe (mCall F_is_choice (aCons (mVar 1) aNil)) (mB gEq (mVar 4) (mVar 5)))) (tAndM (mBo (mB gGt (mVar 2) (mC (.int 0)))) (mBo (mB gLtA (mB gMul (mVar 4) (mVar 2)) (mVar 5))))) (sRet (mC (.bool false))) bNil (E U U U U) H = some (.nx, E U U U U, H) := by
    have t1 := r_bo _ _ _ (mB_ev (g := gNe) (mC1_ev (a := mVar 1) (e := E U U U U) (h := H) (x := .p (heapP N ls)) (h1 := H) rfl (k.choice H)) (fm U U U U H) (ne_bool _ _ _))
    have d1 : (!decide ((stuckP ls).isNone = decide (few = most))) = false := by
      have : (stuckP ls).isNone = decide (few = most) := by
        rw [Bool.eq_iff_iff, Option.isNone_iff_eq_none, decide_eq_true_iff]; exact q1
      simp [this]
    rw [d1] at t1
    have t2 := r_bo _ _ _ (mB_ev (g := gGt) (a := mVar 2) (e := E U U U U) (h := H) (x := .p (nInt choices)) (h1 := H) rfl (mC_ev (.int 0) _ _) (gI_ev rfl _))
    have t3 := r_bo _ _ _ (mB_ev (g := gLtA) (mB_ev (g := gMul) (a := mVar 4) (b := mVar 2) (e := E U U U U) (h := H) (x := .p (nInt few)) (y := .p (nInt choices)) (h1 := H) (h2 := H) rfl rfl (g_mul (cm9 (by omega)) _)) (b := mVar 5) (y := .p (nInt most)) (h2 := H) rfl (r_ltI _ _ _))
    have t4 : tAndM (mBo (mB gGt (mVar 2) (mC (.int 0)))) (mBo (mB gLtA (mB gMul (mVar 4) (mVar 2)) (mVar 5))) (E U U U U) H = some (false, H) := by
      by_cases c0 : 0 < choices
      · have := k.shareOf inv (sh1 c0) c0
        have d2 : decide ((few : Int) * (choices : Int) < (most : Int)) = false := by
          refine decide_eq_false ?_
          rw [← Int.natCast_mul, Nat.mul_comm]
          omega
        rw [d2] at t3
        have d3 : decide ((0 : Int) < (choices : Int)) = true := decide_eq_true (by omega)
        rw [d3] at t2
        exact tAnd_t t2 t3
      · have d3 : decide ((0 : Int) < (choices : Int)) = false := decide_eq_false (by omega)
        rw [d3] at t2
        exact tAnd_f t2
    exact (sIf_f (tOr_f t1 t4)).trans rfl
  -- four times
  have src : SrcR (sRng1 (aCons (mC (.int 4)) aNil)) (E U U U U) H ((List.range 4).map fun x => .p (nInt x)) H SAny := src_rng1 (j := 4) rfl (by decide +kernel)
  have F := for_inv (t := .nm 8) (b := (bSeq (sAsg (mCall F__law_weights (aCons (mVar 0) (aCons (mVar 3) (aCons (mGc (mCall F__law_of (aCons (mVar 0) (aCons (mLst (aCons (mC (.int 2)) (aCons (mC (.int 5)) (aCons (mC (.int 1001)) aNil)))) aNil)))) aNil)))) (.nm 9)) (bSeq (sPar (aCons (mCall F__law_weighs (aCons (mVar 9) (aCons (mCall F_next_best (aCons (mVar 1) (aCons (mVar 9) aNil))) aNil))) (aCons (mB gIx (mCall F_best (aCons (mVar 1) (aCons (mVar 9) aNil))) (mC (.int 0))) aNil)) [10, 11]) (sIf (tOrM (mBo (mB gLtA (mB gMul (mVar 10) (mVar 5)) (mB gMul (mVar 4) (mVar 11)))) (mBo (mB gGt (mVar 10) (mVar 11)))) (sRet (mC (.bool false))) bNil))))
    (fun i e hh => ∃ o' z8 z9 z10 z11, e = E z8 z9 z10 z11 ∧ hh = h.set n o' ∧ PotV (B + 200 + i * 10) o') (List.range 4) (fun x => .p (nInt x)) src (fun _ _ _ _ => trivial) ⟨o1, U, U, U, U, rfl, rfl, p1.mono (by omega)⟩
    (fun i hi e hh ⟨o', z8, z9, z10, z11, e1, e2, pv⟩ => by
      subst e1; subst e2
      rw [List.length_range] at hi
      rw [List.getElem_range]
      obtain ⟨u, hu, o2, v1, v2⟩ := of_in (h := h) (n := n) [] o' (B + 200 + i * 10) hn pv (by omega) (e := E (.p (nInt i)) z9 z10 z11) (ma := aCons (mC (.int 2)) (aCons (mC (.int 5)) (aCons (mC (.int 1001)) aNil))) [2, 5, 1001] (by decide) (by decide) rfl rfl
      rw [List.append_nil, List.append_nil] at v2
      have hu' : 0 < u ∧ u ≤ 1001 := by simp at hu; omega
      obtain ⟨ws, o3, w1, w2, w3, w4⟩ := e_weights n (h.set n o2) o2 (B + 200 + i * 10 + 1) N u (List.getElem?_set_self hn) v1 (by omega) (by omega) hu'.1 (by omega)
      rw [set_set2] at w4
      have hw : WOk N ws := ⟨w1, fun w hw => by have := w2 w hw; omega⟩
      let H3 : Hq := h.set n o3
      have c1 : sAsg (mCall F__law_weights (aCons (mVar 0) (aCons (mVar 3) (aCons (mGc (mCall F__law_of (aCons (mVar 0) (aCons (mLst (aCons (mC (.int 2)) (aCons (mC (.int 5)) (aCons (mC (.int 1001)) aNil)))) aNil)))) aNil)))) (.nm 9) (E (.p (nInt i)) z9 z10 z11) (h.set n o') = some (.nx, E (.p (nInt i)) (.p (lot ws)) z10 z11, H3) :=
        sAsg_ev (i := 9) (mCall_ev (aC_ev (a := mVar 0) (x := .loc n) (h1 := h.set n o') rfl (aC_ev (a := mVar 3) (x := .p (nInt N)) (h1 := h.set n o') rfl (aC_ev v2 (aN_ev _ _)))) w4) (show 9 < 13 by decide)
      obtain ⟨ord, top, r1, r2, r3, r4, r5, r6⟩ := k.pair_ev an hw (e := E (.p (nInt i)) (.p (lot ws)) z10 z11) (h := H3) rfl rfl
      obtain ⟨g1, g2⟩ := k.got inv r1 r2 r3 r4
      generalize weigh ws (lotOf (greedy ls ord) 10) = got at r6 g1 g2
      generalize weigh ws top = can at r6 g1 g2
      have c2 : sPar (aCons (mCall F__law_weighs (aCons (mVar 9) (aCons (mCall F_next_best (aCons (mVar 1) (aCons (mVar 9) aNil))) aNil))) (aCons (mB gIx (mCall F_best (aCons (mVar 1) (aCons (mVar 9) aNil))) (mC (.int 0))) aNil)) [10, 11] (E (.p (nInt i)) (.p (lot ws)) z10 z11) H3 = some (.nx, E (.p (nInt i)) (.p (lot ws)) (.p (nInt got)) (.p (nInt can)), H3) := by
        rw [r_par, r6]
        simp only [Option.bind_some]
        rw [if_pos (by simp)]
        rfl
      let e5 : En := E (.p (nInt i)) (.p (lot ws)) (.p (nInt got)) (.p (nInt can))
      have cmR : ∀ {i j : Nat}, j < 1000000 → cMulW (i : Int) (j : Int) = true := fun {i j} q => by
        have e64 : (2 : Int) ^ 64 = 18446744073709551616 := by decide
        have : cMul (i : Int) (j : Int) = true := decide_eq_true (.inr (by omega))
        simp only [cMulW, this, Bool.true_or]
      have t1 := r_bo _ _ _ (mB_ev (g := gLtA) (mB_ev (g := gMul) (a := mVar 10) (b := mVar 5) (e := e5) (h := H3) (x := .p (nInt got)) (y := .p (nInt most)) (h1 := H3) (h2 := H3) rfl rfl (g_mul (cmR (by omega)) _)) (mB_ev (g := gMul) (a := mVar 4) (b := mVar 11) (e := e5) (h := H3) (x := .p (nInt few)) (y := .p (nInt can)) (h1 := H3) (h2 := H3) rfl rfl (g_mul (cm9 (by omega)) _)) (r_ltI _ _ _))
      have t2 := r_bo _ _ _ (mB_ev (g := gGt) (a := mVar 10) (b := mVar 11) (e := e5) (h := H3) (x := .p (nInt got)) (y := .p (nInt can)) (h1 := H3) (h2 := H3) rfl rfl (gI_ev rfl _))
      have d1 : decide ((got : Int) * (most : Int) < (few : Int) * (can : Int)) = false := by
        refine decide_eq_false ?_
        rw [← Int.natCast_mul, ← Int.natCast_mul]
        omega
      have d2 : decide ((can : Int) < (got : Int)) = false := decide_eq_false (by omega)
      rw [d1] at t1
      rw [d2] at t2
      refine ⟨E (.p (nInt i)) z9 z10 z11, e5, H3, rfl, ?_, o3, .p (nInt i), .p (lot ws), .p (nInt got), .p (nInt can), rfl, rfl, w3.mono (by omega)⟩
      rw [bSeq_nx c1, bSeq_nx c2]
      exact (sIf_f (tOr_f t1 t2)).trans rfl)
  obtain ⟨e', h', s6, o', z8, z9, z10, z11, rfl, rfl, pv⟩ := F
  let H4 : Hq := h.set n o'
  have t7 := r_bo _ _ _ (fm z8 z9 z10 z11 H4)
  refine ⟨o', pv.mono (by rw [List.length_range]; omega), ?_⟩
  refine runF_set [.loc n, U, U, U, U, U, U, U, U, U, U, U, U] [] (n := n) (o := o') ?_ (pv.mo _)
  unfold b__law_right
  rw [bSeq_nx s1, bSeq_nx s2, bSeq_nx s3, bSeq_nx s4, bSeq_nx s5, bSeq_nx s6, List.append_nil]
  by_cases ne : few = most
  · rw [decide_eq_true ne] at t7
    have s7 : sIf (mBo (mB gEq (mVar 4) (mVar 5))) (sRet (mC (.bool true))) bNil (E z8 z9 z10 z11) H4 = some (.ret (.p (.bool true)), E z8 z9 z10 z11, H4) := (sIf_t t7).trans rfl
    rw [bSeq_ret s7]
    rfl
  · rw [decide_eq_false ne] at t7
    have s7 : sIf (mBo (mB gEq (mVar 4) (mVar 5))) (sRet (mC (.bool true))) bNil (E z8 z9 z10 z11) H4 = some (.nx, E z8 z9 z10 z11, H4) := (sIf_f t7).trans rfl
    rw [bSeq_nx s7]
    obtain ⟨WW, eWW⟩ : ∃ W, W = worstW N small l := ⟨_, rfl⟩
    have hw : WOk N WW := by rw [eWW]; exact worst_ok N small l
    have Q : EvN (mLc (sRng1 (aCons (mVar 3) aNil)) (.nm 12) tYesM (mIf (mBo (mB (gIn false) (mVar 12) (mVar 7))) (mIf (mBo (mB (gIn false) (mVar 12) (mVar 6))) (mC (.int 1000)) (mC (.int 999))) (mC (.int 0))) [12]) (E z8 z9 z10 z11) H4 ((List.range N).map fun x => .p (nInt (if x ∈ l then (if x ∈ small then 1000 else 999) else 0))) := by
      refine lc_rng N (fun x => .p (nInt (if x ∈ l then (if x ∈ small then 1000 else 999) else 0))) rfl (by omega) fun x hx g' => ⟨[.loc n, .p (heapP N ls), .p (nInt choices), .p (nInt N), .p (nInt few), .p (nInt most), .p (lot small), .p (lot l), z8, z9, z10, z11, .p (nInt x)], rfl, ?_⟩
      let e9 : En := [.loc n, .p (heapP N ls), .p (nInt choices), .p (nInt N), .p (nInt few), .p (nInt most), .p (lot small), .p (lot l), z8, z9, z10, z11, .p (nInt x)]
      have u1 := r_bo _ _ _ (mB_ev (g := gIn false) (a := mVar 12) (b := mVar 7) (e := e9) (h := H4 ++ g') (x := .p (nInt x)) (y := .p (lot l)) (h1 := H4 ++ g') (h2 := H4 ++ g') rfl rfl (in_lot x l _))
      have u2 := r_bo _ _ _ (mB_ev (g := gIn false) (a := mVar 12) (b := mVar 6) (e := e9) (h := H4 ++ g') (x := .p (nInt x)) (y := .p (lot small)) (h1 := H4 ++ g') (h2 := H4 ++ g') rfl rfl (in_lot x small _))
      rw [r_if, u1]
      simp only [Option.bind_some]
      by_cases x1 : x ∈ l
      · rw [if_pos (by simpa using x1), r_if, u2]
        simp only [Option.bind_some]
        by_cases x2 : x ∈ small
        · rw [if_pos (by simpa using x2), if_pos x1, if_pos x2]; rfl
        · rw [if_neg (by simpa using x2), if_pos x1, if_neg x2]; rfl
      · rw [if_neg (by simpa using x1), if_neg x1]; rfl
    have Q2 := Q.tup
    have s8 : sAsg (mGc (mCall gTuple (aCons (mLc (sRng1 (aCons (mVar 3) aNil)) (.nm 12) tYesM (mIf (mBo (mB (gIn false) (mVar 12) (mVar 7))) (mIf (mBo (mB (gIn false) (mVar 12) (mVar 6))) (mC (.int 1000)) (mC (.int 999))) (mC (.int 0))) [12]) aNil))) (.nm 9) (E z8 z9 z10 z11) H4 = some (.nx, E z8 (.p (lot WW)) z10 z11, H4) := by
      refine sAsg_ev (i := 9) (d := .p (lot WW)) ?_ (show 9 < 13 by decide)
      rw [Q2, eWW]
      unfold worstW
      show some (Mv.p (.tuple _), H4) = some (Mv.p (.tuple (List.map nInt (List.map _ _))), H4)
      rw [List.map_map]; rfl
    rw [bSeq_nx s8]
    obtain ⟨ord, top, r1, r2, r3, r4, r5, r6⟩ := k.pair_ev an hw (e := E z8 (.p (lot WW)) z10 z11) (h := H4) rfl rfl
    obtain ⟨g1, g2, g3, g4⟩ : weigh WW (lotOf (greedy ls ord) 10) = 1000 * few ∧ 999 * most ≤ weigh WW top ∧ few < most ∧ most ≤ 9 := by
      subst eWW
      exact k.worst inv ne r1 r2 r3 r4
    have s9 : sPar (aCons (mCall F__law_weighs (aCons (mVar 9) (aCons (mCall F_next_best (aCons (mVar 1) (aCons (mVar 9) aNil))) aNil))) (aCons (mB gIx (mCall F_best (aCons (mVar 1) (aCons (mVar 9) aNil))) (mC (.int 0))) aNil)) [10, 11] (E z8 (.p (lot WW)) z10 z11) H4 = some (.nx, E z8 (.p (lot WW)) (.p (nInt (1000 * few))) (.p (nInt (weigh WW top))), H4) := by
      rw [r_par, r6, g1]
      simp only [Option.bind_some]
      rw [if_pos (by simp)]
      rfl
    rw [bSeq_nx s9]
    let e9 : En := E z8 (.p (lot WW)) (.p (nInt (1000 * few))) (.p (nInt (weigh WW top)))
    have c1000 : cMulW 1000 (few : Int) = true := cm9 (i := 1000) (by decide)
    have c999 : cMulW 999 (most : Int) = true := cm9 (i := 999) (by decide)
    have t1 := r_bo _ _ _ (mB_ev (g := gNe) (a := mVar 10) (e := e9) (h := H4) (x := .p (nInt (1000 * few))) (h1 := H4) rfl (mB_ev (g := gMul) (b := mVar 4) (mC_ev (.int 1000) _ _) (y := .p (nInt few)) (h2 := H4) rfl (g_mul c1000 _)) (ne_int _ _ _))
    have t2 := r_bo _ _ _ (mB_ev (g := gLtA) (a := mVar 11) (e := e9) (h := H4) (x := .p (nInt (weigh WW top))) (h1 := H4) rfl (mB_ev (g := gMul) (b := mVar 5) (mC_ev (.int 999) _ _) (y := .p (nInt most)) (h2 := H4) rfl (g_mul c999 _)) (r_ltI _ _ _))
    have d1 : (!decide (((1000 * few : Nat) : Int) = 1000 * (few : Int))) = false := by
      have : ((1000 * few : Nat) : Int) = 1000 * (few : Int) := by omega
      simp [this]
    have d2 : decide (((weigh WW top : Nat) : Int) < 999 * (most : Int)) = false := decide_eq_false (by omega)
    rw [d1] at t1
    rw [d2] at t2
    have s10 : sIf (tOrM (mBo (mB gNe (mVar 10) (mB gMul (mC (.int 1000)) (mVar 4)))) (mBo (mB gLtA (mVar 11) (mB gMul (mC (.int 999)) (mVar 5))))) (sRet (mC (.bool false))) bNil e9 H4 = some (.nx, e9, H4) := (sIf_f (tOr_f t1 t2)).trans rfl
    rw [bSeq_nx s10, retOf_sRet]
    obtain ⟨ord2, u1, u2, u3⟩ := k.shows an hw top r3 H4
    have w2 : weigh WW (lotOf (greedy ls ord2) 10) = 1000 * few := by
      subst eWW
      exact (k.worst inv ne u1 u2 r3 r4).1
    rw [w2, decide_eq_true (show 1000 * few < weigh WW top by omega)] at u3
    have b2 := mC2_ev (gA := F_best) (a := mVar 1) (b := mVar 9) (e := e9) (h := H4) (x := .p (heapP N ls)) (y := .p (lot WW)) (h1 := H4) (h2 := H4) rfl rfl (d := .p (.tuple [nInt (weigh WW top), lot top])) (h3 := H4) (by
      have := r5
      rw [r_call, r_cons, show mVar 1 (E z8 (.p (lot WW)) z10 z11) H4 = some (.p (heapP N ls), H4) from rfl] at this
      simp only [Option.bind_some, r_cons] at this
      rw [show mVar 9 (E z8 (.p (lot WW)) z10 z11) H4 = some (.p (lot WW), H4) from rfl] at this
      exact this)
    have tt := mTup_ev (aC_ev (mC_ev (.str "weights") e9 H4) (aC_ev (a := mVar 9) (x := .p (lot WW)) (h1 := H4) rfl (aC_ev (mB_ev b2 (mC_ev (.int 1) _ _) (ix1 _ _ _ _)) (aN_ev _ _)))) sl3
    rw [r_mk3] at tt
    exact mB_ev (g := gIsN) (mC2_ev (a := mVar 1) (x := .p (heapP N ls)) (h1 := H4) rfl tt u3) (mC_ev (.bool true) _ _) (r_isB _ _ _)
end Wk
set_option Elab.async false
set_option linter.all false
set_option maxRecDepth 100000
set_option maxHeartbeats 1000000
set_option autoImplicit false
namespace Wk
open PySem PySem.Spec L2 MX
/-! ### the path of three edges -/
abbrev pathL : List (List Nat) := [[0, 2], [1]]
theorem path_ok : HeapOk 3 pathL := by
  refine ⟨by decide, fun l hl => ?_, by decide +kernel, by decide, by simp⟩
  simp at hl
  rcases hl with rfl | rfl
  · exact ⟨by decide, by decide⟩
  · exact ⟨by decide, by decide⟩
theorem path_anti : Anti pathL := by
  unfold Anti
  decide +kernel
theorem path_ord {m : Nat} {ord : List Nat} (o1 : ord.Perm (List.range 3)) (o2 : ord.Pairwise (fun a b => [m, m + 1, m].getD b 0 ≤ [m, m + 1, m].getD a 0)) : lotOf (greedy pathL ord) 10 = [1] := by
  have hl := o1.length_eq
  have nd : ord.Nodup := o1.nodup_iff.mpr List.nodup_range
  have hm : ∀ x ∈ ord, x < 3 := fun x hx => List.mem_range.mp (o1.mem_iff.mp hx)
  match ord, hl with
  | [a, b, c], _ =>
    have ha := hm a (by simp)
    have hb := hm b (by simp)
    have hc := hm c (by simp)
    have nd : a ≠ b ∧ a ≠ c ∧ b ≠ c := by simpa [and_assoc] using nd
    have w : ([m, m + 1, m].getD b 0 ≤ [m, m + 1, m].getD a 0) ∧ ([m, m + 1, m].getD c 0 ≤ [m, m + 1, m].getD a 0) := by
      rw [List.pairwise_cons] at o2
      exact ⟨o2.1 b (by simp), o2.1 c (by simp)⟩
    have a1 : a = 1 := by
      apply Classical.byContradiction
      intro na
      have : a = 0 ∨ a = 2 := by omega
      have hb1 : b = 1 ∨ c = 1 := by omega
      rcases this with rfl | rfl <;> rcases hb1 with rfl | rfl <;> simp at w <;> omega
    subst a1
    have : (b = 0 ∧ c = 2) ∨ (b = 2 ∧ c = 0) := by omega
    rcases this with ⟨rfl, rfl⟩ | ⟨rfl, rfl⟩ <;> decide +kernel
theorem sum_cut (ns : List Int) (d : Mv) (h : Hq) (e : En) (v : mVar 0 e h = some (d, h)) (hd : lstOf h d = some (ns.map Mv.int)) : ∃ s : Int, mGc (mCall gSum (aCons (mSl (mVar 0) oNone (oSome (mC (.int 1)))) aNil)) e h = some (.p (.int s), h) := by
  have c1 : ∃ ms : List Int, cutL (ns.map Mv.int) none (some 1) = ms.map Mv.int := by
    unfold cutL
    refine ⟨(ns.drop (HT.sIx (ns.map Mv.int).length 0 none)).take (HT.sIx (ns.map Mv.int).length (ns.map Mv.int).length (some 1) - HT.sIx (ns.map Mv.int).length 0 none), ?_⟩
    rw [List.map_take, List.map_drop]
  obtain ⟨ms, em⟩ := c1
  have sl : mSl (mVar 0) oNone (oSome (mC (.int 1))) e h = some (.loc h.length, h ++ [.lst (ms.map Mv.int)]) := by
    unfold mSl
    rw [v]
    simp only [Option.bind_some, oNone, oSome, r_c, lstOf_tup hd, hd, Option.map_some, em]
  refine ⟨ms.sum, mGc_ev (mC1_ev sl (d := .p (.int ms.sum)) (h2 := h ++ [.lst (ms.map Mv.int)]) ?_) (gc_p _ _ _)⟩
  have := lst_last h (ms.map Mv.int)
  simp only [gSum, gInts, this, Option.bind_some, intsM_map, Option.map_some]
theorem e_law (ns : List Int) (hz : ns.length ≤ 63) (d : Mv) (h : Hq) (sc : ScrAt ns d h) : ∃ h', F_law [d] h = some (.p (.bool true), h') := by
  have hd : lstOf h d = some (ns.map Mv.int) := sc.lst
  have du : d ≠ .und := by
    rcases sc with ⟨rfl, _⟩ | ⟨rfl, _⟩ <;> exact fun z => nomatch z
  have V0 : ∀ (l : En) (H : Hq), mVar 0 (d :: l) H = some (d, H) := fun l H => by
    cases d <;> first | rfl | exact absurd rfl du
  let U : Mv := .und
  obtain ⟨s, hs⟩ := sum_cut ns d h [d, U, U, U, U, U] (V0 _ _) hd
  obtain ⟨m, m1, m2, em⟩ : ∃ m : Nat, 1 ≤ m ∧ m ≤ 999 ∧ (1 + s % 999 : Int) = (m : Int) := by
    have h1 := Int.emod_nonneg s (show (999 : Int) ≠ 0 by decide)
    have h2 := Int.emod_lt_of_pos s (show (0 : Int) < 999 by decide)
    exact ⟨(1 + s % 999).toNat, by omega, by omega, by omega⟩
  have s1 : sAsg (mB gAdd (mC (.int 1)) (mB gMod (mCall gInt (aCons (mGc (mCall gSum (aCons (mSl (mVar 0) oNone (oSome (mC (.int 1)))) aNil))) aNil)) (mC (.int 999)))) (.nm 1) [d, U, U, U, U, U] h = some (.nx, [d, .p (nInt m), U, U, U, U], h) := by
    refine sAsg_ev (i := 1) (d := .p (nInt m)) ?_ (show 1 < 6 by decide)
    have := mB_ev (g := gAdd) (mC_ev (.int 1) _ _) (mB_ev (g := gMod) (mC1_ev hs (r_intI _ _)) (mC_ev (.int 999) _ _) (g_mod (by decide) _)) (r_addI _ _ _)
    rw [this, em]
  have s2 : sAsg (mTup (aCons (mC (.int 3)) (aCons (mTup (aCons (mTup (aCons (mC (.int 0)) (aCons (mC (.int 2)) aNil))) (aCons (mTup (aCons (mC (.int 1)) aNil)) aNil))) aNil))) (.nm 2) [d, .p (nInt m), U, U, U, U] h = some (.nx, [d, .p (nInt m), .p (heapP 3 pathL), U, U, U], h) := by
    refine sAsg_ev (i := 2) (d := .p (heapP 3 pathL)) ?_ (show 2 < 6 by decide)
    simp
  let e2 : En := [d, .p (nInt m), .p (heapP 3 pathL), U, U, U]
  have v1 : ∀ H, mVar 1 e2 H = some (.p (nInt m), H) := fun H => rfl
  have v2 : ∀ H, mVar 2 e2 H = some (.p (heapP 3 pathL), H) := fun H => rfl
  have e1m : PyData.int ((m : Int) + 1) = nInt (m + 1) := by
    show _ = PyData.int ((m + 1 : Nat) : Int)
    rw [Int.natCast_add]; rfl
  have vw : mTup (aCons (mVar 1) (aCons (mB gAdd (mVar 1) (mC (.int 1))) (aCons (mVar 1) aNil))) e2 h = some (.p (lot [m, m + 1, m]), h) := by
    have := mTup_ev (aC_ev (v1 h) (aC_ev (mB_ev (g := gAdd) (v1 h) (mC_ev (.int 1) _ _) (r_addI _ _ _)) (aC_ev (v1 h) (aN_ev _ _)))) sl3
    rw [r_mk3, e1m] at this
    exact this
  have hw : WOk 3 [m, m + 1, m] := ⟨rfl, fun w hw => by simp at hw; omega⟩
  obtain ⟨ord, o1, o2, o3⟩ := path_ok.next_best path_anti hw h
  rw [path_ord o1 o2] at o3
  obtain ⟨top, t1, t2, t3⟩ := path_ok.bestF path_anti hw h
  have s3 : sIf (tOrM (mBo (mB gNe (mCall F_next_best (aCons (mVar 2) (aCons (mTup (aCons (mVar 1) (aCons (mB gAdd (mVar 1) (mC (.int 1))) (aCons (mVar 1) aNil)))) aNil))) (mTup (aCons (mC (.int 1)) aNil)))) (mBo (mB gNe (mB gIx (mCall F_best (aCons (mVar 2) (aCons (mTup (aCons (mVar 1) (aCons (mB gAdd (mVar 1) (mC (.int 1))) (aCons (mVar 1) aNil)))) aNil))) (mC (.int 0))) (mCall gMax2 (aCons (mB gMul (mC (.int 2)) (mVar 1)) (aCons (mB gAdd (mVar 1) (mC (.int 1))) aNil)))))) (sRet (mC (.bool false))) bNil e2 h = some (.nx, e2, h) := by
    have tp1 := mTup_ev (aC_ev (mC_ev (.int 1) e2 h) (aN_ev _ _)) sl1
    rw [r_mk1] at tp1
    have a1 := r_bo _ _ _ (mB_ev (g := gNe) (mC2_ev (v2 h) vw o3) tp1 (ne_lot [1] [1] h))
    have cm2 : cMulW 2 (m : Int) = true := cm9 (i := 2) (by decide)
    have mx := mC2_ev (gA := gMax2) (mB_ev (g := gMul) (mC_ev (.int 2) e2 h) (v1 h) (g_mul cm2 _)) (mB_ev (g := gAdd) (v1 h) (mC_ev (.int 1) _ _) (r_addI _ _ _)) (r_max2 _ _ _)
    have a2 := r_bo _ _ _ (mB_ev (g := gNe) (mB_ev (mC2_ev (v2 h) vw t3) (mC_ev (.int 0) _ _) (ix0 _ _ _)) mx (ne_int _ _ _))
    have et : ((weigh [m, m + 1, m] top : Nat) : Int) = if (m : Int) + 1 > 2 * (m : Int) then (m : Int) + 1 else 2 * (m : Int) := by
      have w0 := t2 [0, 2] (by simp)
      have w1 := t2 [1] (by simp)
      have e0 : weigh [m, m + 1, m] [0, 2] = 2 * m := by simp [weigh]; omega
      have e1 : weigh [m, m + 1, m] [1] = m + 1 := by simp [weigh]
      rw [e0] at w0
      rw [e1] at w1
      simp at t1
      rcases t1 with rfl | rfl
      · rw [e0] at w1 ⊢
        split <;> omega
      · rw [e1] at w0 ⊢
        split <;> omega
    have d2 : (!decide (((weigh [m, m + 1, m] top : Nat) : Int) = if (m : Int) + 1 > 2 * (m : Int) then (m : Int) + 1 else 2 * (m : Int))) = false := by
      rw [decide_eq_true et]; rfl
    rw [d2] at a2
    have d1 : (!decide (([1] : List Nat) = [1])) = false := by decide
    rw [d1] at a1
    exact (sIf_f (tOr_f a1 a2)).trans rfl
  have hb40 : ∀ k, k < 3 → 0 + k * 300 + 5000 ≤ 2 ^ 40 := fun k hk => by
    have : 2 ^ 40 = 1099511627776 := by decide
    omega
  -- the places
  obtain ⟨pl, p2, ep⟩ := e_places ns d h hd du
  have src : SrcR (sSeq (mCall F__law_places (aCons (mVar 0) (aCons (mC (.int 2)) aNil)))) e2 h ((List.range pl).map fun i => .p (nInt i)) (h ++ [.lst ((List.range pl).map fun i => .p (nInt i))]) (SLst (.loc h.length) ((List.range pl).map fun i => .p (nInt i))) :=
    src_lst (mC2_ev (V0 _ _) (mC_ev (.int 2) _ _) ep) (lst_last _ _)
  let LP : Mo := .lst ((List.range pl).map fun i => .p (nInt i))
  have F := for_inv (t := .nm 3) (b := (bSeq (sAsg (mCall F__law_pot (aCons (mVar 0) (aCons (mVar 3) aNil))) (.nm 4)) (sIf (tNotM (tTru (mGc (mCall gAll (aCons (mLc (sRng1 (aCons (mC (.int 3)) aNil)) (.nm 5) tYesM (mCall F__law_right (aCons (mVar 4) aNil)) [5]) aNil))))) (sRet (mC (.bool false))) bNil)))
    (fun i e hh => ∃ g z3 z4 z5, e = [d, .p (nInt m), .p (heapP 3 pathL), z3, z4, z5] ∧ hh = h ++ [LP] ++ g) (List.range pl) (fun i => .p (nInt i)) src (fun i e hh ⟨g, _, _, _, _, e2⟩ => by rw [e2]; exact lstOf_app (lst_last _ _)) ⟨[], U, U, U, rfl, by rw [List.append_nil]⟩
    (fun i hi e hh ⟨g, z3, z4, z5, e1, e2⟩ => by
      subst e1; subst e2
      rw [List.length_range] at hi
      rw [List.getElem_range]
      let hh : Hq := h ++ [LP] ++ g
      have hd2 : lstOf hh d = some (ns.map Mv.int) := by
        show lstOf (h ++ [LP] ++ g) d = _
        rw [List.append_assoc]; exact lstOf_app hd
      obtain ⟨o, p1, q1⟩ := e_pot ns d hh i hd2 (by omega) du hz
      have c1 : sAsg (mCall F__law_pot (aCons (mVar 0) (aCons (mVar 3) aNil))) (.nm 4) [d, .p (nInt m), .p (heapP 3 pathL), .p (nInt i), z4, z5] hh = some (.nx, [d, .p (nInt m), .p (heapP 3 pathL), .p (nInt i), .loc hh.length, z5], hh ++ [o]) :=
        sAsg_ev (i := 4) (mC2_ev (V0 _ _) (b := mVar 3) (y := .p (nInt i)) (h2 := hh) rfl q1) (show 4 < 6 by decide)
      let e4 : En := [d, .p (nInt m), .p (heapP 3 pathL), .p (nInt i), .loc hh.length, z5]
      have ho : (hh ++ [o])[hh.length]? = some o := by simp
      have hn : hh.length < (hh ++ [o]).length := by simp
      obtain ⟨ys, o', ye, _, pv, q2⟩ := lc_pot (t := .nm 5) (tt := tYesM) (te := mCall F__law_right (aCons (mVar 4) aNil)) (vs := [5]) (e := e4) (h := hh ++ [o]) (n := hh.length) (m := 3) (c := 300) (B := 0) (args := aCons (mC (.int 3)) aNil)
        (fun k acc => acc = List.replicate k (.p (.bool true))) rfl (by decide) ho p1 rfl (by rw [sizeLine_eq]; omega)
        (fun k hk acc o1 g2 ea pv => by
          obtain ⟨o2, u1, u2⟩ := e_right hh.length ((hh ++ [o]).set hh.length o1 ++ g2) o1 (0 + k * 300) (get_set hn o1) pv (hb40 k hk)
          rw [set_ap2 hn] at u2
          exact ⟨[d, .p (nInt m), .p (heapP 3 pathL), .p (nInt i), .loc hh.length, .p (nInt k)], rfl, .inr ⟨o1, .p (.bool true), o2, rfl, mC1_ev (a := mVar 4) (x := .loc hh.length) (h1 := (hh ++ [o]).set hh.length o1 ++ g2) rfl u2, u1.mono (by omega), by rw [ea, List.replicate_succ']⟩⟩)
      have ya : gAll [.loc (hh ++ [o]).length] ((hh ++ [o]).set hh.length o' ++ [.lst ys]) = some (.p (.bool true), (hh ++ [o]).set hh.length o' ++ [.lst ys]) := by
        have l1 := lst_last ((hh ++ [o]).set hh.length o') ys
        rw [List.length_set] at l1
        rw [ye] at l1 ⊢
        have : List.replicate 3 (Mv.p (.bool true)) = [true, true, true].map Mv.bl := rfl
        rw [this] at l1 ⊢
        simp only [gAll, gBls, l1, Option.bind_some, blsM_map, Option.map_some]
        rfl
      have al := mGc_ev (mC1_ev q2 ya) (gc_set (pv.mo _))
      have es : (hh ++ [o]).set hh.length o' = hh ++ [o'] := by
        rw [List.set_append_right _ _ (Nat.le_refl _)]; simp
      rw [es] at al
      refine ⟨[d, .p (nInt m), .p (heapP 3 pathL), .p (nInt i), z4, z5], e4, hh ++ [o'], rfl, ?_, g ++ [o'], .p (nInt i), .loc hh.length, z5, rfl, by rw [← List.append_assoc]⟩
      rw [bSeq_nx c1]
      refine (sIf_f (h1 := hh ++ [o']) ?_).trans rfl
      rw [r_tnot, r_tru, al]
      rfl)
  obtain ⟨e', h', s4, g, z3, z4, z5, rfl, rfl⟩ := F
  refine ⟨h, ?_⟩
  refine runF_rg [d, U, U, U, U, U] ([LP] ++ g) ?_
  unfold b_law
  rw [bSeq_nx s1, bSeq_nx s2, bSeq_nx s3, bSeq_nx s4, retOf_sRet, ← List.append_assoc]
  rfl
end Wk
set_option Elab.async false
set_option linter.all false
set_option maxRecDepth 100000
set_option maxHeartbeats 0
set_option autoImplicit false
namespace Wk
open PySem PySem.Spec L2 MX
def top (i : Nat) : Stmt := PySem.Challenge.pw_nextbest_k30_whole_how_far_the_next_best.main.body.getD i (.Pass ⟨0, 0, 0, 0⟩)
structure Zf (K : PySem.W.Frag) (mg : Str → Option Value) (base : Heap) : Prop where
  d_is_int : ∃ fd, FunD K "is_int" "is_int" (defArgs (top 6)) (defBody (top 6)) (defScope (top 6)) [] [] (He.ga K "is_int") fd
  d_is_rising : ∃ fd, FunD K "is_rising" "is_rising" (defArgs (top 7)) (defBody (top 7)) (defScope (top 7)) [] [] (He.ga K "is_rising") fd
  d_is_lot : ∃ fd, FunD K "is_lot" "is_lot" (defArgs (top 8)) (defBody (top 8)) (defScope (top 8)) [] [] (He.ga K "is_lot") fd
  d_are_lots : ∃ fd, FunD K "are_lots" "are_lots" (defArgs (top 9)) (defBody (top 9)) (defScope (top 9)) [] [] (He.ga K "are_lots") fd
  d_bits_of : ∃ fd, FunD K "bits_of" "bits_of" (defArgs (top 10)) (defBody (top 10)) (defScope (top 10)) [] [] (He.ga K "bits_of") fd
  d_lot_of : ∃ fd, FunD K "lot_of" "lot_of" (defArgs (top 11)) (defBody (top 11)) (defScope (top 11)) [] [] (He.ga K "lot_of") fd
  d_can_go : ∃ fd, FunD K "can_go" "can_go" (defArgs (top 13)) (defBody (top 13)) (defScope (top 13)) [] [] (He.ga K "can_go") fd
  d_told_stuck : ∃ fd, FunD K "told_stuck" "told_stuck" (defArgs (top 14)) (defBody (top 14)) (defScope (top 14)) [] [] (He.ga K "told_stuck") fd
  d_is_choice : ∃ fd, FunD K "is_choice" "is_choice" (defArgs (top 15)) (defBody (top 15)) (defScope (top 15)) [] [] (He.ga K "is_choice") fd
  d_is_heap : ∃ fd, FunD K "is_heap" "is_heap" (defArgs (top 20)) (defBody (top 20)) (defScope (top 20)) [] [] (He.ga K "is_heap") fd
  d_look_at_heap : ∃ fd, FunD K "look_at_heap" "look_at_heap" (defArgs (top 21)) (defBody (top 21)) (defScope (top 21)) [] [] (He.ga K "look_at_heap") fd
  d_look_at_weights : ∃ fd, FunD K "look_at_weights" "look_at_weights" (defArgs (top 22)) (defBody (top 22)) (defScope (top 22)) [] [] (He.ga K "look_at_weights") fd
  d_weight_of : ∃ fd, FunD K "weight_of" "weight_of" (defArgs (top 23)) (defBody (top 23)) (defScope (top 23)) [] [] (He.ga K "weight_of") fd
  d_told_next : ∃ fd, FunD K "told_next" "told_next" (defArgs (top 24)) (defBody (top 24)) (defScope (top 24)) [] [] (He.ga K "told_next") fd
  d_next_best : ∃ fd, FunD K "next_best" "next_best" (defArgs (top 25)) (defBody (top 25)) (defScope (top 25)) [] [] (He.ga K "next_best") fd
  d_told_best : ∃ fd, FunD K "told_best" "told_best" (defArgs (top 26)) (defBody (top 26)) (defScope (top 26)) [] [] (He.ga K "told_best") fd
  d_best : ∃ fd, FunD K "best" "best" (defArgs (top 27)) (defBody (top 27)) (defScope (top 27)) [] [] (He.ga K "best") fd
  d_few_and_many : ∃ fd, FunD K "few_and_many" "few_and_many" (defArgs (top 28)) (defBody (top 28)) (defScope (top 28)) [] [] (He.ga K "few_and_many") fd
  d_always_best : ∃ fd, FunD K "always_best" "always_best" (defArgs (top 29)) (defBody (top 29)) (defScope (top 29)) [] [] (He.ga K "always_best") fd
  d_are_weights : ∃ fd, FunD K "are_weights" "are_weights" (defArgs (top 30)) (defBody (top 30)) (defScope (top 30)) [] [] (He.ga K "are_weights") fd
  d_is_allowed : ∃ fd, FunD K "is_allowed" "is_allowed" (defArgs (top 31)) (defBody (top 31)) (defScope (top 31)) [] [] (He.ga K "is_allowed") fd
  d_shows_always_best : ∃ fd, FunD K "shows_always_best" "shows_always_best" (defArgs (top 32)) (defBody (top 32)) (defScope (top 32)) [] [] (He.ga K "shows_always_best") fd
  d__law_pot : ∃ fd, FunD K "_law_pot" "_law_pot" (defArgs (top 34)) (defBody (top 34)) (defScope (top 34)) [] [] (He.ga K "_law_pot") fd
  d__law_take : ∃ fd, FunD K "_law_take" "_law_take" (defArgs (top 35)) (defBody (top 35)) (defScope (top 35)) [] [] (He.ga K "_law_take") fd
  d__law_of : ∃ fd, FunD K "_law_of" "_law_of" (defArgs (top 36)) (defBody (top 36)) (defScope (top 36)) [] [] (He.ga K "_law_of") fd
  d__law_places : ∃ fd, FunD K "_law_places" "_law_places" (defArgs (top 37)) (defBody (top 37)) (defScope (top 37)) [] [] (He.ga K "_law_places") fd
  d__law_lots : ∃ fd, FunD K "_law_lots" "_law_lots" (defArgs (top 38)) (defBody (top 38)) (defScope (top 38)) [] [] (He.ga K "_law_lots") fd
  d__law_rank : ∃ fd, FunD K "_law_rank" "_law_rank" (defArgs (top 39)) (defBody (top 39)) (defScope (top 39)) [] [] (He.ga K "_law_rank") fd
  d__law_is_free : ∃ fd, FunD K "_law_is_free" "_law_is_free" (defArgs (top 40)) (defBody (top 40)) (defScope (top 40)) [] [] (He.ga K "_law_is_free") fd
  d__law_best_of : ∃ fd, FunD K "_law_best_of" "_law_best_of" (defArgs (top 41)) (defBody (top 41)) (defScope (top 41)) [] [] (He.ga K "_law_best_of") fd
  d__law_loose_by : ∃ fd, FunD K "_law_loose_by" "_law_loose_by" (defArgs (top 42)) (defBody (top 42)) (defScope (top 42)) [] [] (He.ga K "_law_loose_by") fd
  d__law_made : ∃ fd, FunD K "_law_made" "_law_made" (defArgs (top 43)) (defBody (top 43)) (defScope (top 43)) [] [] (He.ga K "_law_made") fd
  d__law_drawn_plain : ∃ fd, FunD K "_law_drawn_plain" "_law_drawn_plain" (defArgs (top 44)) (defBody (top 44)) (defScope (top 44)) [] [] (He.ga K "_law_drawn_plain") fd
  d__law_weights : ∃ fd, FunD K "_law_weights" "_law_weights" (defArgs (top 45)) (defBody (top 45)) (defScope (top 45)) [] [] (He.ga K "_law_weights") fd
  d__law_weighs : ∃ fd, FunD K "_law_weighs" "_law_weighs" (defArgs (top 46)) (defBody (top 46)) (defScope (top 46)) [] [] (He.ga K "_law_weighs") fd
  d__law_tops : ∃ fd, FunD K "_law_tops" "_law_tops" (defArgs (top 47)) (defBody (top 47)) (defScope (top 47)) [] [] (He.ga K "_law_tops") fd
  d__law_heap : ∃ fd, FunD K "_law_heap" "_law_heap" (defArgs (top 48)) (defBody (top 48)) (defScope (top 48)) [] [] (He.ga K "_law_heap") fd
  d__law_grown : ∃ fd, FunD K "_law_grown" "_law_grown" (defArgs (top 49)) (defBody (top 49)) (defScope (top 49)) [] [] (He.ga K "_law_grown") fd
  d__law_share : ∃ fd, FunD K "_law_share" "_law_share" (defArgs (top 50)) (defBody (top 50)) (defScope (top 50)) [] [] (He.ga K "_law_share") fd
  d__law_right : ∃ fd, FunD K "_law_right" "_law_right" (defArgs (top 51)) (defBody (top 51)) (defScope (top 51)) [] [] (He.ga K "_law_right") fd
  d_law : ∃ fd, FunD K "law" "law" (defArgs (top 52)) (defBody (top 52)) (defScope (top 52)) [] [] (He.ga K "law") fd
  g_is_int : mg "is_int" = some (.ref (He.ga K "is_int"))
  g_is_rising : mg "is_rising" = some (.ref (He.ga K "is_rising"))
  g_is_lot : mg "is_lot" = some (.ref (He.ga K "is_lot"))
  g_are_lots : mg "are_lots" = some (.ref (He.ga K "are_lots"))
  g_bits_of : mg "bits_of" = some (.ref (He.ga K "bits_of"))
  g_lot_of : mg "lot_of" = some (.ref (He.ga K "lot_of"))
  g_can_go : mg "can_go" = some (.ref (He.ga K "can_go"))
  g_told_stuck : mg "told_stuck" = some (.ref (He.ga K "told_stuck"))
  g_is_choice : mg "is_choice" = some (.ref (He.ga K "is_choice"))
  g_is_heap : mg "is_heap" = some (.ref (He.ga K "is_heap"))
  g_look_at_heap : mg "look_at_heap" = some (.ref (He.ga K "look_at_heap"))
  g_look_at_weights : mg "look_at_weights" = some (.ref (He.ga K "look_at_weights"))
  g_weight_of : mg "weight_of" = some (.ref (He.ga K "weight_of"))
  g_told_next : mg "told_next" = some (.ref (He.ga K "told_next"))
  g_next_best : mg "next_best" = some (.ref (He.ga K "next_best"))
  g_told_best : mg "told_best" = some (.ref (He.ga K "told_best"))
  g_best : mg "best" = some (.ref (He.ga K "best"))
  g_few_and_many : mg "few_and_many" = some (.ref (He.ga K "few_and_many"))
  g_always_best : mg "always_best" = some (.ref (He.ga K "always_best"))
  g_are_weights : mg "are_weights" = some (.ref (He.ga K "are_weights"))
  g_is_allowed : mg "is_allowed" = some (.ref (He.ga K "is_allowed"))
  g_shows_always_best : mg "shows_always_best" = some (.ref (He.ga K "shows_always_best"))
  g__law_pot : mg "_law_pot" = some (.ref (He.ga K "_law_pot"))
  g__law_take : mg "_law_take" = some (.ref (He.ga K "_law_take"))
  g__law_of : mg "_law_of" = some (.ref (He.ga K "_law_of"))
  g__law_places : mg "_law_places" = some (.ref (He.ga K "_law_places"))
  g__law_lots : mg "_law_lots" = some (.ref (He.ga K "_law_lots"))
  g__law_rank : mg "_law_rank" = some (.ref (He.ga K "_law_rank"))
  g__law_is_free : mg "_law_is_free" = some (.ref (He.ga K "_law_is_free"))
  g__law_best_of : mg "_law_best_of" = some (.ref (He.ga K "_law_best_of"))
  g__law_loose_by : mg "_law_loose_by" = some (.ref (He.ga K "_law_loose_by"))
  g__law_made : mg "_law_made" = some (.ref (He.ga K "_law_made"))
  g__law_drawn_plain : mg "_law_drawn_plain" = some (.ref (He.ga K "_law_drawn_plain"))
  g__law_weights : mg "_law_weights" = some (.ref (He.ga K "_law_weights"))
  g__law_weighs : mg "_law_weighs" = some (.ref (He.ga K "_law_weighs"))
  g__law_tops : mg "_law_tops" = some (.ref (He.ga K "_law_tops"))
  g__law_heap : mg "_law_heap" = some (.ref (He.ga K "_law_heap"))
  g__law_grown : mg "_law_grown" = some (.ref (He.ga K "_law_grown"))
  g__law_share : mg "_law_share" = some (.ref (He.ga K "_law_share"))
  g__law_right : mg "_law_right" = some (.ref (He.ga K "_law_right"))
  g_law : mg "law" = some (.ref (He.ga K "law"))
  n_abs : mg "abs" = none
  n_all : mg "all" = none
  n_any : mg "any" = none
  n_bool : mg "bool" = none
  n_enumerate : mg "enumerate" = none
  n_int : mg "int" = none
  n_isinstance : mg "isinstance" = none
  n_len : mg "len" = none
  n_list : mg "list" = none
  n_max : mg "max" = none
  n_min : mg "min" = none
  n_range : mg "range" = none
  n_set : mg "set" = none
  n_sorted : mg "sorted" = none
  n_str : mg "str" = none
  n_sum : mg "sum" = none
  n_tuple : mg "tuple" = none
  n_zip : mg "zip" = none
  c_MOST_THINGS : ∃ t, mg "MOST_THINGS" = some (.int 9 t)
  c_MOST_WEIGHT : ∃ t, mg "MOST_WEIGHT" = some (.int 1000 t)
  c_CHOICE : ∃ t, mg "CHOICE" = some (.str "choice" t)
  c_WEIGHTS : ∃ t, mg "WEIGHTS" = some (.str "weights" t)
  tb_told_next : LamX.TabB base mg (He.cT K ("told_next", none)).1 (He.cT K ("told_next", none)).2
  tabs : tabsOf K = [((He.cT K ("told_next", none)).2, ("told_next" : Str) ++ ".<locals>." ++ "<lambda>")]
section
variable {P : Program} {w : World} {K : PySem.W.Frag} {mg : Str → Option Value} {base : Heap}
abbrev N_is_int : List Str := ["value", "low", "high"]
theorem r_is_int (Z : Zf K mg base) : ∃ fd, FnR P w K mg base 1 "is_int" ["value", "low", "high"] F_is_int fd := by
  obtain ⟨fd, D⟩ := Z.d_is_int
  have nd : (N_is_int).Nodup := by decide +kernel
  refine ⟨fd, fnR (k := 0) (N := N_is_int) D Z.g_is_int (by decide +kernel) (fun _ _ _ _ _ _ us hl => match us, hl with | [_, _, _], _ => rfl) fun cdv A outer s H E hr => ?_⟩
  exact (ms_one (ms_ret (me_and (me_isi Z.n_isinstance Z.n_int rfl (me_var 0)) (me_and (me_not (me_isi Z.n_isinstance Z.n_bool rfl (me_var 0))) (me_one (me_chain o_le o_le (me_var 1) (me_var 0) (me_var 2)))))))
abbrev N_is_rising : List Str := ["some", "one", "other"]
theorem r_is_rising (Z : Zf K mg base) : ∃ fd, FnR P w K mg base 1 "is_rising" ["some"] F_is_rising fd := by
  obtain ⟨fd, D⟩ := Z.d_is_rising
  have nd : (N_is_rising).Nodup := by decide +kernel
  refine ⟨fd, fnR (k := 0) (N := N_is_rising) D Z.g_is_rising (by decide +kernel) (fun _ _ _ _ _ _ us hl => match us, hl with | [_], _ => rfl) fun cdv A outer s H E hr => ?_⟩
  exact (ms_one (ms_ret (me_gc (me_callB (c_all rfl) Z.n_all rfl (na_cons (me_gc (me_lc (own := [("one", 1), ("other", 2)]) rfl nd (ni_zip Z.n_zip (na_cons (me_var 0) (na_cons (me_sl (me_var 0) (no_some me_int) no_none) na_nil))) (by kernel_rfl) (fun _ _ _ _ _ => (ng_tup rfl (ngs_cons 1 nd (ngs_cons 2 nd ngs_nil)))) (fun _ _ _ _ _ => nt_nil) (fun _ _ _ _ _ => (me_cmp (o_lt hr.units0) (me_var 1) (me_var 2))))) na_nil)))))
abbrev N_is_lot : List Str := ["many", "value", "thing"]
theorem r_is_lot (Z : Zf K mg base) : ∃ fd, FnR P w K mg base 2 "is_lot" ["many", "value"] F_is_lot fd := by
  obtain ⟨fd, D⟩ := Z.d_is_lot
  obtain ⟨fd_is_int, G_is_int⟩ := r_is_int (P := P) (w := w) (base := base) Z
  obtain ⟨fd_is_rising, G_is_rising⟩ := r_is_rising (P := P) (w := w) (base := base) Z
  have nd : (N_is_lot).Nodup := by decide +kernel
  refine ⟨fd, fnR (k := 1) (N := N_is_lot) D Z.g_is_lot (by decide +kernel) (fun _ _ _ _ _ _ us hl => match us, hl with | [_, _], _ => rfl) fun cdv A outer s H E hr => ?_⟩
  exact (ms_cons (ms_if (mw_or (mt_not (mt_tru (me_isi Z.n_isinstance Z.n_tuple rfl (me_var 1)))) (mw_or1 (mt_not (mt_tru (me_gc (me_callB (c_all rfl) Z.n_all rfl (na_cons (me_lc (own := [("thing", 2)]) rfl nd (ni_seq (me_var 1)) (by kernel_rfl) (fun _ _ _ _ _ => (ng_nm 2 nd)) (fun _ _ _ _ _ => nt_nil) (fun _ _ _ _ _ => (me_fn G_is_int hr (na_cons (me_var 2) (na_cons me_int (na_cons (me_bin o_sub (me_var 0) me_int) na_nil)))))) na_nil))))))).pt (ms_one (ms_ret me_bl)) ms_nil) (ms_one (ms_ret (me_fn G_is_rising hr (na_cons (me_var 1) na_nil)))))
abbrev N_are_lots : List Str := ["many", "value", "lot"]
theorem r_are_lots (Z : Zf K mg base) : ∃ fd, FnR P w K mg base 3 "are_lots" ["many", "value"] F_are_lots fd := by
  obtain ⟨fd, D⟩ := Z.d_are_lots
  obtain ⟨fd_is_lot, G_is_lot⟩ := r_is_lot (P := P) (w := w) (base := base) Z
  obtain ⟨fd_is_rising, G_is_rising⟩ := r_is_rising (P := P) (w := w) (base := base) Z
  have nd : (N_are_lots).Nodup := by decide +kernel
  refine ⟨fd, fnR (k := 2) (N := N_are_lots) D Z.g_are_lots (by decide +kernel) (fun _ _ _ _ _ _ us hl => match us, hl with | [_, _], _ => rfl) fun cdv A outer s H E hr => ?_⟩
  exact (ms_one (ms_ret (me_and (me_isi Z.n_isinstance Z.n_tuple rfl (me_var 1)) (me_and (me_gc (me_callB (c_all rfl) Z.n_all rfl (na_cons (me_lc (own := [("lot", 2)]) rfl nd (ni_seq (me_var 1)) (by kernel_rfl) (fun _ _ _ _ _ => (ng_nm 2 nd)) (fun _ _ _ _ _ => nt_nil) (fun _ _ _ _ _ => (me_fn G_is_lot hr (na_cons (me_var 0) (na_cons (me_var 2) na_nil))))) na_nil))) (me_one (me_fn G_is_rising hr (na_cons (me_var 1) na_nil)))))))
abbrev N_bits_of : List Str := ["lot", "thing"]
theorem r_bits_of (Z : Zf K mg base) : ∃ fd, FnR P w K mg base 1 "bits_of" ["lot"] F_bits_of fd := by
  obtain ⟨fd, D⟩ := Z.d_bits_of
  have nd : (N_bits_of).Nodup := by decide +kernel
  refine ⟨fd, fnR (k := 0) (N := N_bits_of) D Z.g_bits_of (by decide +kernel) (fun _ _ _ _ _ _ us hl => match us, hl with | [_], _ => rfl) fun cdv A outer s H E hr => ?_⟩
  exact (ms_one (ms_ret (me_gc (me_callB (c_sum rfl) Z.n_sum rfl (na_cons (me_lc (own := [("thing", 1)]) rfl nd (ni_seq (me_var 0)) (by kernel_rfl) (fun _ _ _ _ _ => (ng_nm 1 nd)) (fun _ _ _ _ _ => nt_nil) (fun _ _ _ _ _ => (me_bin o_shl me_int (me_var 1)))) na_nil)))))
abbrev N_lot_of : List Str := ["bits", "found", "thing"]
theorem r_lot_of (Z : Zf K mg base) : ∃ fd, FnR P w K mg base 1 "lot_of" ["bits"] F_lot_of fd := by
  obtain ⟨fd, D⟩ := Z.d_lot_of
  have nd : (N_lot_of).Nodup := by decide +kernel
  refine ⟨fd, fnR (k := 0) (N := N_lot_of) D Z.g_lot_of (by decide +kernel) (fun _ _ _ _ _ _ us hl => match us, hl with | [_], _ => rfl) fun cdv A outer s H E hr => ?_⟩
  exact (ms_cons (by first | exact ms_par 1 2 rfl nd (na_cons (me_lst na_nil) (na_cons me_int na_nil)) | exact ms_parT (na_cons (me_lst na_nil) (na_cons me_int na_nil)) (ng_tup rfl (ngs_cons 1 nd (ngs_cons 2 nd ngs_nil)))) (ms_cons (ms_while PassesOwn.never (mt_cmp o_gt (me_bin o_shr (me_var 0) (me_var 2)) me_int) (ms_cons (ms_if (mt_tru (me_bin o_and (me_bin o_shr (me_var 0) (me_var 2)) me_int)) (ms_one (ms_expr (me_append (me_var 1) (na_cons (me_var 2) na_nil)))) ms_nil) (ms_one (ms_aug 2 nd i_add me_int)))) (ms_one (ms_ret (me_callTy c_tuple Z.n_tuple rfl (na_cons (me_var 1) na_nil))))))
abbrev N_can_go : List Str := ["fulls", "one", "other", "thing", "rest", "later"]
theorem r_can_go (Z : Zf K mg base) : ∃ fd, FnR P w K mg base 2 "can_go" ["fulls", "one", "other", "thing"] F_can_go fd := by
  obtain ⟨fd, D⟩ := Z.d_can_go
  obtain ⟨fd_lot_of, G_lot_of⟩ := r_lot_of (P := P) (w := w) (base := base) Z
  have nd : (N_can_go).Nodup := by decide +kernel
  refine ⟨fd, fnR (k := 1) (N := N_can_go) D Z.g_can_go (by decide +kernel) (fun _ _ _ _ _ _ us hl => match us, hl with | [_, _, _, _], _ => rfl) fun cdv A outer s H E hr => ?_⟩
  exact (ms_cons (ms_set 4 nd (me_bin o_and (me_var 1) (me_un o_inv (me_bin o_shl me_int (me_var 3))))) (ms_one (ms_ret (me_gc (me_callB (c_any rfl) Z.n_any rfl (na_cons (me_lc (own := [("later", 5)]) rfl nd (ni_seq (me_fn G_lot_of hr (na_cons (me_bin o_and (me_var 2) (me_un o_inv (me_var 1))) na_nil))) (by kernel_rfl) (fun _ _ _ _ _ => (ng_nm 5 nd)) (fun _ _ _ _ _ => nt_nil) (fun _ _ _ _ _ => (me_cmp (o_in (room65 hr)) (me_bin o_or (me_var 4) (me_bin o_shl me_int (me_var 5))) (me_var 0)))) na_nil))))))
abbrev N_told_stuck : List Str := ["lots", "fulls", "one", "other", "lot", "first", "second", "thing"]
theorem r_told_stuck (Z : Zf K mg base) : ∃ fd, FnR P w K mg base 3 "told_stuck" ["lots"] F_told_stuck fd := by
  obtain ⟨fd, D⟩ := Z.d_told_stuck
  obtain ⟨fd_bits_of, G_bits_of⟩ := r_bits_of (P := P) (w := w) (base := base) Z
  obtain ⟨fd_lot_of, G_lot_of⟩ := r_lot_of (P := P) (w := w) (base := base) Z
  obtain ⟨fd_can_go, G_can_go⟩ := r_can_go (P := P) (w := w) (base := base) Z
  have nd : (N_told_stuck).Nodup := by decide +kernel
  refine ⟨fd, fnR (k := 2) (N := N_told_stuck) D Z.g_told_stuck (by decide +kernel) (fun _ _ _ _ _ _ us hl => match us, hl with | [_], _ => rfl) fun cdv A outer s H E hr => ?_⟩
  exact (ms_cons (by first | exact (ms_setL (ms_setDc (own := [("lot", 4)]) rfl nd (ni_seq (me_var 0)) (by kernel_rfl) (fun _ _ _ _ _ => (ng_nm 4 nd)) (fun _ _ _ _ _ => nt_nil) (fun _ _ _ _ _ => (me_fn G_bits_of hr (na_cons (me_var 4) na_nil))) (fun _ _ _ _ _ => me_bl) (sw_trueD rfl rfl rfl (by kernel_rfl)))) | exact ms_set 1 nd (me_dc (own := [("lot", 4)]) rfl nd (ni_seq (me_var 0)) (by kernel_rfl) (fun _ _ _ _ _ => (ng_nm 4 nd)) (fun _ _ _ _ _ => nt_nil) (fun _ _ _ _ _ => (me_fn G_bits_of hr (na_cons (me_var 4) na_nil))) (fun _ _ _ _ _ => me_bl))) (ms_cons (ms_for PassesOwn.never rfl (ni_seq (me_var 0)) (ng_nm 2 nd) (ms_one (ms_for PassesOwn.never rfl (ni_seq (me_var 0)) (ng_nm 3 nd) (ms_cons (by first | exact ms_par 5 6 rfl nd (na_cons (me_fn G_bits_of hr (na_cons (me_var 2) na_nil)) (na_cons (me_fn G_bits_of hr (na_cons (me_var 3) na_nil)) na_nil)) | exact ms_parT (na_cons (me_fn G_bits_of hr (na_cons (me_var 2) na_nil)) (na_cons (me_fn G_bits_of hr (na_cons (me_var 3) na_nil)) na_nil)) (ng_tup rfl (ngs_cons 5 nd (ngs_cons 6 nd ngs_nil)))) (ms_one (ms_for PassesOwn.never rfl (ni_seq (me_fn G_lot_of hr (na_cons (me_bin o_and (me_var 5) (me_un o_inv (me_var 6))) na_nil))) (ng_nm 7 nd) (ms_one (ms_if (mt_not (mt_tru (me_fn G_can_go hr (na_cons (me_var 1) (na_cons (me_var 5) (na_cons (me_var 6) (na_cons (me_var 7) na_nil))))))) (ms_one (ms_ret (me_tup (na_cons (me_var 2) (na_cons (me_var 3) (na_cons (me_var 7) na_nil)))))) ms_nil)))))))) (ms_one (ms_ret me_non))))
abbrev N_is_choice : List Str := ["value"]
theorem r_is_choice (Z : Zf K mg base) : ∃ fd, FnR P w K mg base 4 "is_choice" ["value"] F_is_choice fd := by
  obtain ⟨fd, D⟩ := Z.d_is_choice
  obtain ⟨fd_is_int, G_is_int⟩ := r_is_int (P := P) (w := w) (base := base) Z
  obtain ⟨fd_are_lots, G_are_lots⟩ := r_are_lots (P := P) (w := w) (base := base) Z
  obtain ⟨fd_told_stuck, G_told_stuck⟩ := r_told_stuck (P := P) (w := w) (base := base) Z
  have nd : (N_is_choice).Nodup := by decide +kernel
  refine ⟨fd, fnR (k := 3) (N := N_is_choice) D Z.g_is_choice (by decide +kernel) (fun _ _ _ _ _ _ us hl => match us, hl with | [_], _ => rfl) fun cdv A outer s H E hr => ?_⟩
  exact (ms_cons (ms_if (mw_or (mt_not (mt_tru (me_isi Z.n_isinstance Z.n_tuple rfl (me_var 0)))) (mw_or (mt_cmp (o_ne hr.units) (me_callB c_len Z.n_len rfl (na_cons (me_var 0) na_nil)) me_int) (mw_or1 (mt_not (mt_tru (me_fn G_is_int hr (na_cons (me_ix (x_ix (hu_of hr)) (me_var 0) me_int) (na_cons me_int (na_cons (me_gint Z.c_MOST_THINGS) na_nil))))))))).pt (ms_one (ms_ret me_bl)) ms_nil) (ms_one (ms_ret (me_and (me_fn G_are_lots hr (na_cons (me_ix (x_ix (hu_of hr)) (me_var 0) me_int) (na_cons (me_ix (x_ix (hu_of hr)) (me_var 0) me_int) na_nil))) (me_and (me_cmp (o_ne hr.units) (me_ix (x_ix (hu_of hr)) (me_var 0) me_int) (me_tup na_nil)) (me_one (me_cmp o_isN (me_fn G_told_stuck hr (na_cons (me_ix (x_ix (hu_of hr)) (me_var 0) me_int) na_nil)) me_non)))))))
abbrev N_is_heap : List Str := ["value", "tops", "at", "one", "top", "other"]
theorem r_is_heap (Z : Zf K mg base) : ∃ fd, FnR P w K mg base 4 "is_heap" ["value"] F_is_heap fd := by
  obtain ⟨fd, D⟩ := Z.d_is_heap
  obtain ⟨fd_is_int, G_is_int⟩ := r_is_int (P := P) (w := w) (base := base) Z
  obtain ⟨fd_are_lots, G_are_lots⟩ := r_are_lots (P := P) (w := w) (base := base) Z
  obtain ⟨fd_bits_of, G_bits_of⟩ := r_bits_of (P := P) (w := w) (base := base) Z
  have nd : (N_is_heap).Nodup := by decide +kernel
  refine ⟨fd, fnR (k := 3) (N := N_is_heap) D Z.g_is_heap (by decide +kernel) (fun _ _ _ _ _ _ us hl => match us, hl with | [_], _ => rfl) fun cdv A outer s H E hr => ?_⟩
  exact (ms_cons (ms_if (mw_or (mt_not (mt_tru (me_isi Z.n_isinstance Z.n_tuple rfl (me_var 0)))) (mw_or (mt_cmp (o_ne hr.units) (me_callB c_len Z.n_len rfl (na_cons (me_var 0) na_nil)) me_int) (mw_or1 (mt_not (mt_tru (me_fn G_is_int hr (na_cons (me_ix (x_ix (hu_of hr)) (me_var 0) me_int) (na_cons me_int (na_cons (me_gint Z.c_MOST_THINGS) na_nil))))))))).pt (ms_one (ms_ret me_bl)) ms_nil) (ms_cons (ms_if (mw_or (mt_not (mt_tru (me_fn G_are_lots hr (na_cons (me_ix (x_ix (hu_of hr)) (me_var 0) me_int) (na_cons (me_ix (x_ix (hu_of hr)) (me_var 0) me_int) na_nil))))) (mw_or1 (mt_cmp (o_eq hr.units) (me_ix (x_ix (hu_of hr)) (me_var 0) me_int) (me_tup na_nil)))).pt (ms_one (ms_ret me_bl)) ms_nil) (ms_cons (by first | exact (ms_setL (ms_setLc (own := [("top", 4)]) rfl nd (ni_seq (me_ix (x_ix (hu_of hr)) (me_var 0) me_int)) (by kernel_rfl) (fun _ _ _ _ _ => (ng_nm 4 nd)) (fun _ _ _ _ _ => nt_nil) (fun _ _ _ _ _ => (me_fn G_bits_of hr (na_cons (me_var 4) na_nil))) (sw_true rfl rfl rfl (by kernel_rfl)))) | exact ms_set 1 nd (me_lc (own := [("top", 4)]) rfl nd (ni_seq (me_ix (x_ix (hu_of hr)) (me_var 0) me_int)) (by kernel_rfl) (fun _ _ _ _ _ => (ng_nm 4 nd)) (fun _ _ _ _ _ => nt_nil) (fun _ _ _ _ _ => (me_fn G_bits_of hr (na_cons (me_var 4) na_nil))))) (ms_cons (ms_for PassesOwn.never rfl (ni_enumL Z.n_enumerate (na_cons (me_var 1) na_nil)) (ng_tup rfl (ngs_cons 2 nd (ngs_cons 3 nd ngs_nil))) (ms_one (ms_if (mt_tru (me_gc (me_callB (c_any rfl) Z.n_any rfl (na_cons (me_gc (me_lc (own := [("other", 5)]) rfl nd (ni_seq (me_gc (me_bin o_add (me_sl (me_var 1) no_none (no_some (me_var 2))) (me_sl (me_var 1) (no_some (me_bin o_add (me_var 2) me_int)) no_none)))) (by kernel_rfl) (fun _ _ _ _ _ => (ng_nm 5 nd)) (fun _ _ _ _ _ => nt_nil) (fun _ _ _ _ _ => (me_cmp (o_eq hr.units) (me_bin o_and (me_var 3) (me_un o_inv (me_var 5))) me_int)))) na_nil)))) (ms_one (ms_ret me_bl)) ms_nil))) (ms_one (ms_ret me_bl))))))
abbrev N_look_at_heap : List Str := ["heap"]
theorem r_look_at_heap (Z : Zf K mg base) : ∃ fd, FnR P w K mg base 5 "look_at_heap" ["heap"] F_look_at_heap fd := by
  obtain ⟨fd, D⟩ := Z.d_look_at_heap
  obtain ⟨fd_is_heap, G_is_heap⟩ := r_is_heap (P := P) (w := w) (base := base) Z
  have nd : (N_look_at_heap).Nodup := by decide +kernel
  refine ⟨fd, fnR (k := 4) (N := N_look_at_heap) D Z.g_look_at_heap (by decide +kernel) (fun _ _ _ _ _ _ us hl => match us, hl with | [_], _ => rfl) fun cdv A outer s H E hr => ?_⟩
  exact (ms_one (ms_if (mt_not (mt_tru (me_fn G_is_heap hr (na_cons (me_var 0) na_nil)))) (ms_one ms_never) ms_nil))
abbrev N_look_at_weights : List Str := ["many", "weights", "weight"]
theorem r_look_at_weights (Z : Zf K mg base) : ∃ fd, FnR P w K mg base 2 "look_at_weights" ["many", "weights"] F_look_at_weights fd := by
  obtain ⟨fd, D⟩ := Z.d_look_at_weights
  obtain ⟨fd_is_int, G_is_int⟩ := r_is_int (P := P) (w := w) (base := base) Z
  have nd : (N_look_at_weights).Nodup := by decide +kernel
  refine ⟨fd, fnR (k := 1) (N := N_look_at_weights) D Z.g_look_at_weights (by decide +kernel) (fun _ _ _ _ _ _ us hl => match us, hl with | [_, _], _ => rfl) fun cdv A outer s H E hr => ?_⟩
  exact (ms_cons (ms_if (mw_or (mt_not (mt_tru (me_isi Z.n_isinstance Z.n_tuple rfl (me_var 1)))) (mw_or1 (mt_cmp (o_ne hr.units) (me_callB c_len Z.n_len rfl (na_cons (me_var 1) na_nil)) (me_var 0)))).pt (ms_one ms_never) ms_nil) (ms_one (ms_if (mt_not (mt_tru (me_gc (me_callB (c_all rfl) Z.n_all rfl (na_cons (me_lc (own := [("weight", 2)]) rfl nd (ni_seq (me_var 1)) (by kernel_rfl) (fun _ _ _ _ _ => (ng_nm 2 nd)) (fun _ _ _ _ _ => nt_nil) (fun _ _ _ _ _ => (me_fn G_is_int hr (na_cons (me_var 2) (na_cons me_int (na_cons (me_gint Z.c_MOST_WEIGHT) na_nil)))))) na_nil))))) (ms_one ms_never) ms_nil)))
abbrev N_weight_of : List Str := ["weights", "lot", "thing"]
theorem r_weight_of (Z : Zf K mg base) : ∃ fd, FnR P w K mg base 1 "weight_of" ["weights", "lot"] F_weight_of fd := by
  obtain ⟨fd, D⟩ := Z.d_weight_of
  have nd : (N_weight_of).Nodup := by decide +kernel
  refine ⟨fd, fnR (k := 0) (N := N_weight_of) D Z.g_weight_of (by decide +kernel) (fun _ _ _ _ _ _ us hl => match us, hl with | [_, _], _ => rfl) fun cdv A outer s H E hr => ?_⟩
  exact (ms_one (ms_ret (me_gc (me_callB (c_sum rfl) Z.n_sum rfl (na_cons (me_lc (own := [("thing", 2)]) rfl nd (ni_seq (me_var 1)) (by kernel_rfl) (fun _ _ _ _ _ => (ng_nm 2 nd)) (fun _ _ _ _ _ => nt_nil) (fun _ _ _ _ _ => (me_ix (x_ix (hu_of hr)) (me_var 0) (me_var 2)))) na_nil)))))
abbrev N_told_next : List Str := ["heap", "weights", "tops", "found", "thing", "more", "top"]
theorem r_told_next (Z : Zf K mg base) : ∃ fd, FnR P w K mg base 4 "told_next" ["heap", "weights"] F_told_next fd := by
  obtain ⟨fd, D⟩ := Z.d_told_next
  obtain ⟨fd_bits_of, G_bits_of⟩ := r_bits_of (P := P) (w := w) (base := base) Z
  obtain ⟨fd_lot_of, G_lot_of⟩ := r_lot_of (P := P) (w := w) (base := base) Z
  have nd : (N_told_next).Nodup := by decide +kernel
  refine ⟨fd, fnRC (k := 3) (N := N_told_next) D Z.g_told_next (by decide +kernel) (fun _ _ _ _ _ _ us hl => match us, hl with | [_, _], _ => rfl) fun A outer s H E hr => ?_⟩
  exact (ms_cons (by first | exact ms_par 2 3 rfl nd (na_cons (me_lc (own := [("top", 6)]) rfl nd (ni_seq (me_ix (x_ix (hu_of hr)) (me_var 0) me_int)) (by kernel_rfl) (fun _ _ _ _ _ => (ng_nm 6 nd)) (fun _ _ _ _ _ => nt_nil) (fun _ _ _ _ _ => (me_fn G_bits_of hr (na_cons (me_var 6) na_nil)))) (na_cons me_int na_nil)) | exact ms_parT (na_cons (me_lc (own := [("top", 6)]) rfl nd (ni_seq (me_ix (x_ix (hu_of hr)) (me_var 0) me_int)) (by kernel_rfl) (fun _ _ _ _ _ => (ng_nm 6 nd)) (fun _ _ _ _ _ => nt_nil) (fun _ _ _ _ _ => (me_fn G_bits_of hr (na_cons (me_var 6) na_nil)))) (na_cons me_int na_nil)) (ng_tup rfl (ngs_cons 2 nd (ngs_cons 3 nd ngs_nil)))) (ms_cons (ms_for PassesOwn.never rfl (ni_seq (me_sortkey (px := "one") (N := ["one", "weights"]) (fr := ["weights"]) (js := [1]) (k := 0) (n := 0) rfl Z.n_sorted Z.n_range (me_ix (x_ix (hu_of hr)) (me_var 0) me_int) Z.tb_told_next rfl (show ((He.cT K ("told_next", none)).2, ("told_next" : Str) ++ ".<locals>." ++ "<lambda>") ∈ tabsOf K from by rw [Z.tabs]; exact List.mem_singleton.mpr rfl) (show ∀ p ∈ tabsOf K, p.1 = (He.cT K ("told_next", none)).2 → p.2 = ("told_next" : Str) ++ ".<locals>." ++ "<lambda>" from by rw [Z.tabs]; intro p hp _; rw [List.mem_singleton.mp hp]) (NdefX.nscope_by (by kernel_rfl)) (by kernel_rfl) rfl (hr.mono (by decide)) rfl (fun _ _ _ _ _ _ => rfl) rfl (fun f c1 A outer s H E hr => by
    have nd : (["one", "weights"] : List Str).Nodup := by decide +kernel
    exact (me_tup (na_cons (me_un o_neg (me_ix (x_ix (hu_of hr)) (me_var 1) (me_var 0))) (na_cons (me_var 0) na_nil)))))) (ng_nm 4 nd) (ms_cons (ms_set 5 nd (me_bin o_or (me_var 3) (me_bin o_shl me_int (me_var 4)))) (ms_one (ms_if (mt_tru (me_gc (me_callB (c_any rfl) Z.n_any rfl (na_cons (me_lc (own := [("top", 6)]) rfl nd (ni_seq (me_var 2)) (by kernel_rfl) (fun _ _ _ _ _ => (ng_nm 6 nd)) (fun _ _ _ _ _ => nt_nil) (fun _ _ _ _ _ => (me_cmp (o_eq hr.units) (me_bin o_and (me_var 5) (me_un o_inv (me_var 6))) me_int))) na_nil)))) (ms_one (ms_set 3 nd (me_var 5))) ms_nil)))) (ms_one (ms_ret (me_fn G_lot_of hr (na_cons (me_var 3) na_nil))))))
abbrev N_next_best : List Str := ["heap", "weights"]
theorem r_next_best (Z : Zf K mg base) : ∃ fd, FnR P w K mg base 6 "next_best" ["heap", "weights"] F_next_best fd := by
  obtain ⟨fd, D⟩ := Z.d_next_best
  obtain ⟨fd_look_at_heap, G_look_at_heap⟩ := r_look_at_heap (P := P) (w := w) (base := base) Z
  obtain ⟨fd_look_at_weights, G_look_at_weights⟩ := r_look_at_weights (P := P) (w := w) (base := base) Z
  obtain ⟨fd_told_next, G_told_next⟩ := r_told_next (P := P) (w := w) (base := base) Z
  have nd : (N_next_best).Nodup := by decide +kernel
  refine ⟨fd, fnR (k := 5) (N := N_next_best) D Z.g_next_best (by decide +kernel) (fun _ _ _ _ _ _ us hl => match us, hl with | [_, _], _ => rfl) fun cdv A outer s H E hr => ?_⟩
  exact (ms_cons (ms_expr (me_fn G_look_at_heap hr (na_cons (me_var 0) na_nil))) (ms_cons (ms_expr (me_fn G_look_at_weights hr (na_cons (me_ix (x_ix (hu_of hr)) (me_var 0) me_int) (na_cons (me_var 1) na_nil)))) (ms_one (ms_ret (me_fn G_told_next hr (na_cons (me_var 0) (na_cons (me_var 1) na_nil)))))))
abbrev N_told_best : List Str := ["heap", "weights", "most", "top"]
theorem r_told_best (Z : Zf K mg base) : ∃ fd, FnR P w K mg base 2 "told_best" ["heap", "weights"] F_told_best fd := by
  obtain ⟨fd, D⟩ := Z.d_told_best
  obtain ⟨fd_weight_of, G_weight_of⟩ := r_weight_of (P := P) (w := w) (base := base) Z
  have nd : (N_told_best).Nodup := by decide +kernel
  refine ⟨fd, fnR (k := 1) (N := N_told_best) D Z.g_told_best (by decide +kernel) (fun _ _ _ _ _ _ us hl => match us, hl with | [_, _], _ => rfl) fun cdv A outer s H E hr => ?_⟩
  exact (ms_cons (ms_set 2 nd (me_gc (me_callB (c_max1X rfl hr.units) Z.n_max rfl (na_cons (me_lc (own := [("top", 3)]) rfl nd (ni_seq (me_ix (x_ix (hu_of hr)) (me_var 0) me_int)) (by kernel_rfl) (fun _ _ _ _ _ => (ng_nm 3 nd)) (fun _ _ _ _ _ => nt_nil) (fun _ _ _ _ _ => (me_fn G_weight_of hr (na_cons (me_var 1) (na_cons (me_var 3) na_nil))))) na_nil)))) (ms_one (ms_ret (me_tup (na_cons (me_var 2) (na_cons (me_gc (me_ix (x_ix (hu_of hr)) (me_lc (own := [("top", 3)]) rfl nd (ni_seq (me_ix (x_ix (hu_of hr)) (me_var 0) me_int)) (by kernel_rfl) (fun _ _ _ _ _ => (ng_nm 3 nd)) (fun _ _ _ _ _ => (nt_one (mt_cmp (o_eq hr.units) (me_fn G_weight_of hr (na_cons (me_var 1) (na_cons (me_var 3) na_nil))) (me_var 2)))) (fun _ _ _ _ _ => (me_var 3))) me_int)) na_nil))))))
abbrev N_best : List Str := ["heap", "weights"]
theorem r_best (Z : Zf K mg base) : ∃ fd, FnR P w K mg base 6 "best" ["heap", "weights"] F_best fd := by
  obtain ⟨fd, D⟩ := Z.d_best
  obtain ⟨fd_look_at_heap, G_look_at_heap⟩ := r_look_at_heap (P := P) (w := w) (base := base) Z
  obtain ⟨fd_look_at_weights, G_look_at_weights⟩ := r_look_at_weights (P := P) (w := w) (base := base) Z
  obtain ⟨fd_told_best, G_told_best⟩ := r_told_best (P := P) (w := w) (base := base) Z
  have nd : (N_best).Nodup := by decide +kernel
  refine ⟨fd, fnR (k := 5) (N := N_best) D Z.g_best (by decide +kernel) (fun _ _ _ _ _ _ us hl => match us, hl with | [_, _], _ => rfl) fun cdv A outer s H E hr => ?_⟩
  exact (ms_cons (ms_expr (me_fn G_look_at_heap hr (na_cons (me_var 0) na_nil))) (ms_cons (ms_expr (me_fn G_look_at_weights hr (na_cons (me_ix (x_ix (hu_of hr)) (me_var 0) me_int) (na_cons (me_var 1) na_nil)))) (ms_one (ms_ret (me_fn G_told_best hr (na_cons (me_var 0) (na_cons (me_var 1) na_nil)))))))
abbrev N_few_and_many : List Str := ["heap", "one", "stuck", "other", "thing"]
theorem r_few_and_many (Z : Zf K mg base) : ∃ fd, FnR P w K mg base 4 "few_and_many" ["heap"] F_few_and_many fd := by
  obtain ⟨fd, D⟩ := Z.d_few_and_many
  obtain ⟨fd_told_stuck, G_told_stuck⟩ := r_told_stuck (P := P) (w := w) (base := base) Z
  have nd : (N_few_and_many).Nodup := by decide +kernel
  refine ⟨fd, fnR (k := 3) (N := N_few_and_many) D Z.g_few_and_many (by decide +kernel) (fun _ _ _ _ _ _ us hl => match us, hl with | [_], _ => rfl) fun cdv A outer s H E hr => ?_⟩
  exact (ms_cons (ms_for PassesOwn.never rfl (ni_seq (me_ix (x_ix (hu_of hr)) (me_var 0) me_int)) (ng_nm 1 nd) (ms_one (ms_for PassesOwn.never rfl (ni_seq (me_ix (x_ix (hu_of hr)) (me_var 0) me_int)) (ng_nm 3 nd) (ms_one (ms_if (mt_cmp (o_lt hr.units0) (me_callB c_len Z.n_len rfl (na_cons (me_var 1) na_nil)) (me_callB c_len Z.n_len rfl (na_cons (me_var 3) na_nil))) (ms_one (ms_ret (me_tup (na_cons (me_var 1) (na_cons (me_var 3) na_nil))))) ms_nil))))) (ms_cons (ms_set 2 nd (me_fn G_told_stuck hr (na_cons (me_ix (x_ix (hu_of hr)) (me_var 0) me_int) na_nil))) (ms_cons (ms_if (mt_cmp o_isN (me_var 2) me_non) (ms_one (ms_ret me_non)) ms_nil) (ms_one (ms_ret (me_tup (na_cons (me_gc (me_callTy c_tuple Z.n_tuple rfl (na_cons (me_lc (own := [("thing", 4)]) rfl nd (ni_seq (me_ix (x_ix (hu_of hr)) (me_var 2) me_int)) (by kernel_rfl) (fun _ _ _ _ _ => (ng_nm 4 nd)) (fun _ _ _ _ _ => (nt_one (mt_cmp (o_ne hr.units) (me_var 4) (me_ix (x_ix (hu_of hr)) (me_var 2) me_int)))) (fun _ _ _ _ _ => (me_var 4))) na_nil))) (na_cons (me_ix (x_ix (hu_of hr)) (me_var 2) me_int) na_nil))))))))
abbrev N_always_best : List Str := ["heap", "found", "lot", "top", "weights", "thing"]
theorem r_always_best (Z : Zf K mg base) : ∃ fd, FnR P w K mg base 6 "always_best" ["heap"] F_always_best fd := by
  obtain ⟨fd, D⟩ := Z.d_always_best
  obtain ⟨fd_look_at_heap, G_look_at_heap⟩ := r_look_at_heap (P := P) (w := w) (base := base) Z
  obtain ⟨fd_few_and_many, G_few_and_many⟩ := r_few_and_many (P := P) (w := w) (base := base) Z
  have nd : (N_always_best).Nodup := by decide +kernel
  refine ⟨fd, fnR (k := 5) (N := N_always_best) D Z.g_always_best (by decide +kernel) (fun _ _ _ _ _ _ us hl => match us, hl with | [_], _ => rfl) fun cdv A outer s H E hr => ?_⟩
  exact (ms_cons (ms_expr (me_fn G_look_at_heap hr (na_cons (me_var 0) na_nil))) (ms_cons (ms_set 1 nd (me_fn G_few_and_many hr (na_cons (me_var 0) na_nil))) (ms_cons (ms_if (mt_cmp o_isN (me_var 1) me_non) (ms_one (ms_ret (me_tup (na_cons (me_gstr Z.c_CHOICE) na_nil)))) ms_nil) (ms_cons (ms_asg (me_var 1) (ng_tup rfl (ngs_cons 2 nd (ngs_cons 3 nd ngs_nil)))) (ms_cons (ms_set 4 nd (me_lst na_nil)) (ms_cons (ms_for PassesOwn.never rfl (ni_rng1 Z.n_range (na_cons (me_ix (x_ix (hu_of hr)) (me_var 0) me_int) na_nil)) (ng_nm 5 nd) (ms_one (ms_expr (me_append (me_var 4) (na_cons (me_if (mt_cmp (o_in (room65 hr)) (me_var 5) (me_var 2)) (me_bin o_add (me_callB c_len Z.n_len rfl (na_cons (me_var 2) na_nil)) me_int) (me_if (mt_cmp (o_in (room65 hr)) (me_var 5) (me_var 3)) (me_bin o_add (me_callB c_len Z.n_len rfl (na_cons (me_var 2) na_nil)) me_int) me_int)) na_nil))))) (ms_one (ms_ret (me_tup (na_cons (me_gstr Z.c_WEIGHTS) (na_cons (me_callTy c_tuple Z.n_tuple rfl (na_cons (me_var 4) na_nil)) (na_cons (me_var 3) na_nil))))))))))))
abbrev N_are_weights : List Str := ["many", "value", "weight"]
theorem r_are_weights (Z : Zf K mg base) : ∃ fd, FnR P w K mg base 2 "are_weights" ["many", "value"] F_are_weights fd := by
  obtain ⟨fd, D⟩ := Z.d_are_weights
  obtain ⟨fd_is_int, G_is_int⟩ := r_is_int (P := P) (w := w) (base := base) Z
  have nd : (N_are_weights).Nodup := by decide +kernel
  refine ⟨fd, fnR (k := 1) (N := N_are_weights) D Z.g_are_weights (by decide +kernel) (fun _ _ _ _ _ _ us hl => match us, hl with | [_, _], _ => rfl) fun cdv A outer s H E hr => ?_⟩
  exact (ms_cons (ms_if (mw_or (mt_not (mt_tru (me_isi Z.n_isinstance Z.n_tuple rfl (me_var 1)))) (mw_or1 (mt_cmp (o_ne hr.units) (me_callB c_len Z.n_len rfl (na_cons (me_var 1) na_nil)) (me_var 0)))).pt (ms_one (ms_ret me_bl)) ms_nil) (ms_one (ms_ret (me_gc (me_callB (c_all rfl) Z.n_all rfl (na_cons (me_lc (own := [("weight", 2)]) rfl nd (ni_seq (me_var 1)) (by kernel_rfl) (fun _ _ _ _ _ => (ng_nm 2 nd)) (fun _ _ _ _ _ => nt_nil) (fun _ _ _ _ _ => (me_fn G_is_int hr (na_cons (me_var 2) (na_cons me_int (na_cons (me_gint Z.c_MOST_WEIGHT) na_nil)))))) na_nil))))))
abbrev N_is_allowed : List Str := ["heap", "value", "top"]
theorem r_is_allowed (Z : Zf K mg base) : ∃ fd, FnR P w K mg base 3 "is_allowed" ["heap", "value"] F_is_allowed fd := by
  obtain ⟨fd, D⟩ := Z.d_is_allowed
  obtain ⟨fd_is_lot, G_is_lot⟩ := r_is_lot (P := P) (w := w) (base := base) Z
  obtain ⟨fd_bits_of, G_bits_of⟩ := r_bits_of (P := P) (w := w) (base := base) Z
  have nd : (N_is_allowed).Nodup := by decide +kernel
  refine ⟨fd, fnR (k := 2) (N := N_is_allowed) D Z.g_is_allowed (by decide +kernel) (fun _ _ _ _ _ _ us hl => match us, hl with | [_, _], _ => rfl) fun cdv A outer s H E hr => ?_⟩
  exact (ms_cons (ms_if (mt_not (mt_tru (me_fn G_is_lot hr (na_cons (me_ix (x_ix (hu_of hr)) (me_var 0) me_int) (na_cons (me_var 1) na_nil))))) (ms_one (ms_ret me_bl)) ms_nil) (ms_one (ms_ret (me_gc (me_callB (c_any rfl) Z.n_any rfl (na_cons (me_lc (own := [("top", 2)]) rfl nd (ni_seq (me_ix (x_ix (hu_of hr)) (me_var 0) me_int)) (by kernel_rfl) (fun _ _ _ _ _ => (ng_nm 2 nd)) (fun _ _ _ _ _ => nt_nil) (fun _ _ _ _ _ => (me_cmp (o_eq hr.units) (me_bin o_and (me_fn G_bits_of hr (na_cons (me_var 1) na_nil)) (me_un o_inv (me_fn G_bits_of hr (na_cons (me_var 2) na_nil)))) me_int))) na_nil))))))
abbrev N_shows_always_best : List Str := ["heap", "value"]
theorem r_shows_always_best (Z : Zf K mg base) : ∃ fd, FnR P w K mg base 6 "shows_always_best" ["heap", "value"] F_shows_always_best fd := by
  obtain ⟨fd, D⟩ := Z.d_shows_always_best
  obtain ⟨fd_look_at_heap, G_look_at_heap⟩ := r_look_at_heap (P := P) (w := w) (base := base) Z
  obtain ⟨fd_few_and_many, G_few_and_many⟩ := r_few_and_many (P := P) (w := w) (base := base) Z
  obtain ⟨fd_are_weights, G_are_weights⟩ := r_are_weights (P := P) (w := w) (base := base) Z
  obtain ⟨fd_is_allowed, G_is_allowed⟩ := r_is_allowed (P := P) (w := w) (base := base) Z
  obtain ⟨fd_weight_of, G_weight_of⟩ := r_weight_of (P := P) (w := w) (base := base) Z
  obtain ⟨fd_told_next, G_told_next⟩ := r_told_next (P := P) (w := w) (base := base) Z
  have nd : (N_shows_always_best).Nodup := by decide +kernel
  refine ⟨fd, fnR (k := 5) (N := N_shows_always_best) D Z.g_shows_always_best (by decide +kernel) (fun _ _ _ _ _ _ us hl => match us, hl with | [_, _], _ => rfl) fun cdv A outer s H E hr => ?_⟩
  exact (ms_cons (ms_expr (me_fn G_look_at_heap hr (na_cons (me_var 0) na_nil))) (ms_cons (ms_if (mw_or (mt_not (mt_tru (me_isi Z.n_isinstance Z.n_tuple rfl (me_var 1)))) (mw_or (mt_cmp (o_notin (room65 hr)) (me_callB c_len Z.n_len rfl (na_cons (me_var 1) na_nil)) (me_tup (na_cons me_int (na_cons (me_bin o_add me_int me_int) na_nil)))) (mw_or1 (mt_not (mt_tru (me_isi Z.n_isinstance Z.n_str rfl (me_ix (x_ix (hu_of hr)) (me_var 1) me_int))))))).pt (ms_one (ms_ret me_bl)) ms_nil) (ms_cons (ms_if (mt_cmp (o_eq hr.units) (me_callB c_len Z.n_len rfl (na_cons (me_var 1) na_nil)) me_int) (ms_one (ms_ret (me_and (me_cmp (o_eq hr.units) (me_ix (x_ix (hu_of hr)) (me_var 1) me_int) (me_gstr Z.c_CHOICE)) (me_one (me_cmp o_isN (me_fn G_few_and_many hr (na_cons (me_var 0) na_nil)) me_non))))) ms_nil) (ms_cons (ms_if (mw_or (mt_cmp (o_ne hr.units) (me_ix (x_ix (hu_of hr)) (me_var 1) me_int) (me_gstr Z.c_WEIGHTS)) (mw_or (mt_not (mt_tru (me_fn G_are_weights hr (na_cons (me_ix (x_ix (hu_of hr)) (me_var 0) me_int) (na_cons (me_ix (x_ix (hu_of hr)) (me_var 1) me_int) na_nil))))) (mw_or1 (mt_not (mt_tru (me_fn G_is_allowed hr (na_cons (me_var 0) (na_cons (me_ix (x_ix (hu_of hr)) (me_var 1) me_int) na_nil)))))))).pt (ms_one (ms_ret me_bl)) ms_nil) (ms_one (ms_ret (me_cmp (o_lt hr.units0) (me_fn G_weight_of hr (na_cons (me_ix (x_ix (hu_of hr)) (me_var 1) me_int) (na_cons (me_fn G_told_next hr (na_cons (me_var 0) (na_cons (me_ix (x_ix (hu_of hr)) (me_var 1) me_int) na_nil))) na_nil))) (me_fn G_weight_of hr (na_cons (me_ix (x_ix (hu_of hr)) (me_var 1) me_int) (na_cons (me_ix (x_ix (hu_of hr)) (me_var 1) me_int) na_nil))))))))))
abbrev N__law_pot : List Str := ["script", "place", "cell", "own", "mixed"]
theorem r__law_pot (Z : Zf K mg base) : ∃ fd, FnR P w K mg base 1 "_law_pot" ["script", "place"] F__law_pot fd := by
  obtain ⟨fd, D⟩ := Z.d__law_pot
  have nd : (N__law_pot).Nodup := by decide +kernel
  refine ⟨fd, fnR (k := 0) (N := N__law_pot) D Z.g__law_pot (by decide +kernel) (fun _ _ _ _ _ _ us hl => match us, hl with | [_, _], _ => rfl) fun cdv A outer s H E hr => ?_⟩
  exact (ms_cons (ms_set 2 nd (me_if (mt_cmp (o_lt hr.units0) (me_var 1) (me_callB c_len Z.n_len rfl (na_cons (me_var 0) na_nil))) (me_ix (x_ix (hu_of hr)) (me_var 0) (me_var 1)) (me_bin o_add (me_bin o_mul me_int (me_var 1)) me_int))) (ms_cons (ms_set 3 nd (me_bin o_mul (me_bin o_mod (me_callTy c_int Z.n_int rfl (na_cons (me_callB c_abs Z.n_abs rfl (na_cons (me_var 2) na_nil)) na_nil)) (me_bin o_pow (me_bin o_pow me_int me_int) me_int)) (me_callTy c_int Z.n_int rfl (na_cons (me_cmp o_ge (me_callB c_abs Z.n_abs rfl (na_cons (me_var 2) na_nil)) (me_bin o_pow me_int me_int)) na_nil)))) (ms_cons (ms_set 4 nd (me_bin o_add (me_bin o_add (me_bin o_mul (me_bin o_mod (me_callTy c_int Z.n_int rfl (na_cons (me_var 2) na_nil)) me_int) me_int) (me_bin o_mul (me_bin o_mul me_int (me_var 1)) (me_var 1))) me_int)) (ms_one (ms_ret (me_lst (na_cons (me_var 3) (na_cons (me_bin o_mod (me_callTy c_int Z.n_int rfl (na_cons (me_var 4) na_nil)) me_int) (na_cons me_int na_nil)))))))))
abbrev N__law_take : List Str := ["pot", "upto", "prime", "blend", "digit"]
theorem r__law_take (Z : Zf K mg base) : ∃ fd, FnR P w K mg base 1 "_law_take" ["pot", "upto"] F__law_take fd := by
  obtain ⟨fd, D⟩ := Z.d__law_take
  have nd : (N__law_take).Nodup := by decide +kernel
  refine ⟨fd, fnR (k := 0) (N := N__law_take) D Z.g__law_take (by decide +kernel) (fun _ _ _ _ _ _ us hl => match us, hl with | [_, _], _ => rfl) fun cdv A outer s H E hr => ?_⟩
  exact (ms_cons (ms_if (mt_cmp o_gt (me_ix (x_ix (hu_of hr)) (me_var 0) me_int) me_int) (ms_cons (ms_set 4 nd (me_bin o_mod (me_callTy c_int Z.n_int rfl (na_cons (me_ix (x_ix (hu_of hr)) (me_var 0) me_int) na_nil)) (me_var 1))) (ms_cons (ms_sub (hu_of hr) (me_var 0) me_int (me_bin o_div (me_ix (x_ix (hu_of hr)) (me_var 0) me_int) (me_var 1))) (ms_one (ms_ret (me_var 4))))) ms_nil) (ms_cons (ms_sub (hu_of hr) (me_var 0) me_int (me_bin o_add (me_ix (x_ix (hu_of hr)) (me_var 0) me_int) me_int)) (ms_cons (ms_set 2 nd (me_gc (me_ix (x_ix (hu_of hr)) (me_lst (na_cons me_int (na_cons me_int (na_cons me_int (na_cons me_int (na_cons me_int (na_cons me_int na_nil))))))) (me_bin o_mod (me_callTy c_int Z.n_int rfl (na_cons (me_ix (x_ix (hu_of hr)) (me_var 0) me_int) na_nil)) me_int)))) (ms_cons (ms_set 3 nd (me_bin o_mod (me_callTy c_int Z.n_int rfl (na_cons (me_bin o_pow (me_callTy c_int Z.n_int rfl (na_cons (me_bin o_add (me_bin o_add (me_ix (x_ix (hu_of hr)) (me_var 0) me_int) (me_bin o_mul (me_bin o_mul me_int (me_ix (x_ix (hu_of hr)) (me_var 0) me_int)) (me_ix (x_ix (hu_of hr)) (me_var 0) me_int))) me_int) na_nil)) me_int) na_nil)) (me_var 2))) (ms_cons (ms_set 3 nd (me_bin o_mod (me_callTy c_int Z.n_int rfl (na_cons (me_bin o_mul (me_var 3) (me_bin o_add (me_bin o_mod (me_callTy c_int Z.n_int rfl (na_cons (me_var 3) na_nil)) me_int) (me_bin o_mul me_int (me_ix (x_ix (hu_of hr)) (me_var 0) me_int)))) na_nil)) me_int)) (ms_one (ms_ret (me_bin o_mod (me_callTy c_int Z.n_int rfl (na_cons (me_bin o_div (me_var 3) me_int) na_nil)) (me_var 1)))))))))
abbrev N__law_of : List Str := ["pot", "some"]
theorem r__law_of (Z : Zf K mg base) : ∃ fd, FnR P w K mg base 2 "_law_of" ["pot", "some"] F__law_of fd := by
  obtain ⟨fd, D⟩ := Z.d__law_of
  obtain ⟨fd__law_take, G__law_take⟩ := r__law_take (P := P) (w := w) (base := base) Z
  have nd : (N__law_of).Nodup := by decide +kernel
  refine ⟨fd, fnR (k := 1) (N := N__law_of) D Z.g__law_of (by decide +kernel) (fun _ _ _ _ _ _ us hl => match us, hl with | [_, _], _ => rfl) fun cdv A outer s H E hr => ?_⟩
  exact (ms_one (ms_ret (me_ix (x_ix (hu_of hr)) (me_var 1) (me_fn G__law_take hr (na_cons (me_var 0) (na_cons (me_callB c_len Z.n_len rfl (na_cons (me_var 1) na_nil)) na_nil))))))
abbrev N__law_places : List Str := ["script", "most"]
theorem r__law_places (Z : Zf K mg base) : ∃ fd, FnR P w K mg base 1 "_law_places" ["script", "most"] F__law_places fd := by
  obtain ⟨fd, D⟩ := Z.d__law_places
  have nd : (N__law_places).Nodup := by decide +kernel
  refine ⟨fd, fnR (k := 0) (N := N__law_places) D Z.g__law_places (by decide +kernel) (fun _ _ _ _ _ _ us hl => match us, hl with | [_, _], _ => rfl) fun cdv A outer s H E hr => ?_⟩
  exact (ms_one (ms_ret (me_lr1 rfl Z.n_list Z.n_range (me_callB (c_max2 rfl) Z.n_max rfl (na_cons me_int (na_cons (me_callB (c_min2 rfl) Z.n_min rfl (na_cons (me_var 1) (na_cons (me_callB c_len Z.n_len rfl (na_cons (me_var 0) na_nil)) na_nil))) na_nil))))))
abbrev N__law_lots : List Str := ["things", "found", "thing", "lot"]
theorem r__law_lots (Z : Zf K mg base) : ∃ fd, FnR P w K mg base 1 "_law_lots" ["things"] F__law_lots fd := by
  obtain ⟨fd, D⟩ := Z.d__law_lots
  have nd : (N__law_lots).Nodup := by decide +kernel
  refine ⟨fd, fnR (k := 0) (N := N__law_lots) D Z.g__law_lots (by decide +kernel) (fun _ _ _ _ _ _ us hl => match us, hl with | [_], _ => rfl) fun cdv A outer s H E hr => ?_⟩
  exact (ms_cons (ms_set 1 nd (me_lst (na_cons (me_tup na_nil) na_nil))) (ms_cons (ms_for PassesOwn.never rfl (ni_seq (me_var 0)) (ng_nm 2 nd) (ms_one (ms_expr (me_gc (me_extend (me_var 1) (na_cons (me_gc (me_lc (own := [("lot", 3)]) rfl nd (ni_seq (me_callTy c_list Z.n_list rfl (na_cons (me_var 1) na_nil))) (by kernel_rfl) (fun _ _ _ _ _ => (ng_nm 3 nd)) (fun _ _ _ _ _ => nt_nil) (fun _ _ _ _ _ => (me_bin o_add (me_var 3) (me_tup (na_cons (me_var 2) na_nil)))))) na_nil)))))) (ms_one (ms_ret (me_var 1)))))
abbrev N__law_rank : List Str := ["choice", "lot", "full", "thing"]
theorem r__law_rank (Z : Zf K mg base) : ∃ fd, FnR P w K mg base 1 "_law_rank" ["choice", "lot"] F__law_rank fd := by
  obtain ⟨fd, D⟩ := Z.d__law_rank
  have nd : (N__law_rank).Nodup := by decide +kernel
  refine ⟨fd, fnR (k := 0) (N := N__law_rank) D Z.g__law_rank (by decide +kernel) (fun _ _ _ _ _ _ us hl => match us, hl with | [_, _], _ => rfl) fun cdv A outer s H E hr => ?_⟩
  exact (ms_one (ms_ret (me_gc (me_callB (c_max1X rfl hr.units) Z.n_max rfl (na_cons (me_lc (own := [("full", 2)]) rfl nd (ni_seq (me_ix (x_ix (hu_of hr)) (me_var 0) me_int)) (by kernel_rfl) (fun _ _ _ _ _ => (ng_nm 2 nd)) (fun _ _ _ _ _ => nt_nil) (fun _ _ _ _ _ => (me_gc (me_callB c_len Z.n_len rfl (na_cons (me_lc (own := [("thing", 3)]) rfl nd (ni_seq (me_var 2)) (by kernel_rfl) (fun _ _ _ _ _ => (ng_nm 3 nd)) (fun _ _ _ _ _ => (nt_one (mt_cmp (o_in (room65 hr)) (me_var 3) (me_var 1)))) (fun _ _ _ _ _ => (me_var 3))) na_nil))))) na_nil)))))
abbrev N__law_is_free : List Str := ["choice", "lot"]
theorem r__law_is_free (Z : Zf K mg base) : ∃ fd, FnR P w K mg base 2 "_law_is_free" ["choice", "lot"] F__law_is_free fd := by
  obtain ⟨fd, D⟩ := Z.d__law_is_free
  obtain ⟨fd__law_rank, G__law_rank⟩ := r__law_rank (P := P) (w := w) (base := base) Z
  have nd : (N__law_is_free).Nodup := by decide +kernel
  refine ⟨fd, fnR (k := 1) (N := N__law_is_free) D Z.g__law_is_free (by decide +kernel) (fun _ _ _ _ _ _ us hl => match us, hl with | [_, _], _ => rfl) fun cdv A outer s H E hr => ?_⟩
  exact (ms_one (ms_ret (me_cmp (o_eq hr.units) (me_fn G__law_rank hr (na_cons (me_var 0) (na_cons (me_var 1) na_nil))) (me_callB c_len Z.n_len rfl (na_cons (me_var 1) na_nil)))))
abbrev N__law_best_of : List Str := ["many", "lots", "most", "lot"]
theorem r__law_best_of (Z : Zf K mg base) : ∃ fd, FnR P w K mg base 1 "_law_best_of" ["many", "lots"] F__law_best_of fd := by
  obtain ⟨fd, D⟩ := Z.d__law_best_of
  have nd : (N__law_best_of).Nodup := by decide +kernel
  refine ⟨fd, fnR (k := 0) (N := N__law_best_of) D Z.g__law_best_of (by decide +kernel) (fun _ _ _ _ _ _ us hl => match us, hl with | [_, _], _ => rfl) fun cdv A outer s H E hr => ?_⟩
  exact (ms_cons (ms_set 2 nd (me_gc (me_callB (c_max1X rfl hr.units) Z.n_max rfl (na_cons (me_lc (own := [("lot", 3)]) rfl nd (ni_seq (me_var 1)) (by kernel_rfl) (fun _ _ _ _ _ => (ng_nm 3 nd)) (fun _ _ _ _ _ => nt_nil) (fun _ _ _ _ _ => (me_callB c_len Z.n_len rfl (na_cons (me_var 3) na_nil)))) na_nil)))) (ms_one (ms_ret (me_tup (na_cons (me_var 0) (na_cons (me_gc (me_callTy c_tuple Z.n_tuple rfl (na_cons (me_sortset rfl hr.units Z.n_sorted Z.n_set (me_lc (own := [("lot", 3)]) rfl nd (ni_seq (me_var 1)) (by kernel_rfl) (fun _ _ _ _ _ => (ng_nm 3 nd)) (fun _ _ _ _ _ => (nt_one (mt_cmp (o_eq hr.units) (me_callB c_len Z.n_len rfl (na_cons (me_var 3) na_nil)) (me_var 2)))) (fun _ _ _ _ _ => (me_var 3)))) na_nil))) na_nil))))))
abbrev N__law_loose_by : List Str := ["columns", "prime", "rows", "at_row", "place", "some", "back", "at", "column", "times", "number", "one", "its"]
theorem r__law_loose_by (Z : Zf K mg base) : ∃ fd, FnR P w K mg base 1 "_law_loose_by" ["columns", "prime"] F__law_loose_by fd := by
  obtain ⟨fd, D⟩ := Z.d__law_loose_by
  have nd : (N__law_loose_by).Nodup := by decide +kernel
  refine ⟨fd, fnR (k := 0) (N := N__law_loose_by) D Z.g__law_loose_by (by decide +kernel) (fun _ _ _ _ _ _ us hl => match us, hl with | [_, _], _ => rfl) fun cdv A outer s H E hr => ?_⟩
  exact (ms_cons (by first | exact ms_par 2 3 rfl nd (na_cons (me_lc (own := [("column", 8)]) rfl nd (ni_seq (me_var 0)) (by kernel_rfl) (fun _ _ _ _ _ => (ng_nm 8 nd)) (fun _ _ _ _ _ => nt_nil) (fun _ _ _ _ _ => (me_lc (own := [("number", 10)]) rfl nd (ni_seq (me_var 8)) (by kernel_rfl) (fun _ _ _ _ _ => (ng_nm 10 nd)) (fun _ _ _ _ _ => nt_nil) (fun _ _ _ _ _ => (me_bin o_mod (me_callTy c_int Z.n_int rfl (na_cons (me_var 10) na_nil)) (me_var 1)))))) (na_cons me_int na_nil)) | exact ms_parT (na_cons (me_lc (own := [("column", 8)]) rfl nd (ni_seq (me_var 0)) (by kernel_rfl) (fun _ _ _ _ _ => (ng_nm 8 nd)) (fun _ _ _ _ _ => nt_nil) (fun _ _ _ _ _ => (me_lc (own := [("number", 10)]) rfl nd (ni_seq (me_var 8)) (by kernel_rfl) (fun _ _ _ _ _ => (ng_nm 10 nd)) (fun _ _ _ _ _ => nt_nil) (fun _ _ _ _ _ => (me_bin o_mod (me_callTy c_int Z.n_int rfl (na_cons (me_var 10) na_nil)) (me_var 1)))))) (na_cons me_int na_nil)) (ng_tup rfl (ngs_cons 2 nd (ngs_cons 3 nd ngs_nil)))) (ms_cons (ms_for PassesOwn.never rfl (ni_rng1 Z.n_range (na_cons (me_if (mt_gc (mt_cmp (o_ne hr.units) (me_var 2) (me_lst na_nil))) (me_callB c_len Z.n_len rfl (na_cons (me_ix (x_ix (hu_of hr)) (me_var 2) me_int) na_nil)) me_int) na_nil)) (ng_nm 4 nd) (ms_cons (by first | exact (ms_setL (ms_setLc (own := [("at", 7)]) rfl nd (ni_rng2 Z.n_range (na_cons (me_var 3) (na_cons (me_callB c_len Z.n_len rfl (na_cons (me_var 2) na_nil)) na_nil))) (by kernel_rfl) (fun _ _ _ _ _ => (ng_nm 7 nd)) (fun _ _ _ _ _ => (nt_one (mt_cmp (o_ne hr.units) (me_ix (x_ix (hu_of hr)) (me_ix (x_ix (hu_of hr)) (me_var 2) (me_var 7)) (me_var 4)) me_int))) (fun _ _ _ _ _ => (me_var 7)) (sw_true rfl rfl rfl (by kernel_rfl)))) | exact ms_set 5 nd (me_lc (own := [("at", 7)]) rfl nd (ni_rng2 Z.n_range (na_cons (me_var 3) (na_cons (me_callB c_len Z.n_len rfl (na_cons (me_var 2) na_nil)) na_nil))) (by kernel_rfl) (fun _ _ _ _ _ => (ng_nm 7 nd)) (fun _ _ _ _ _ => (nt_one (mt_cmp (o_ne hr.units) (me_ix (x_ix (hu_of hr)) (me_ix (x_ix (hu_of hr)) (me_var 2) (me_var 7)) (me_var 4)) me_int))) (fun _ _ _ _ _ => (me_var 7)))) (ms_one (ms_if (mt_gc (mt_cmp (o_ne hr.units) (me_var 5) (me_lst na_nil))) (ms_cons (ms_swap rfl (hu_of hr) (na_cons (me_ix (x_ix (hu_of hr)) (me_var 2) (me_ix (x_ix (hu_of hr)) (me_var 5) me_int)) (na_cons (me_ix (x_ix (hu_of hr)) (me_var 2) (me_var 3)) na_nil)) (me_var 2) (me_var 3) (me_var 2) (me_ix (x_ix (hu_of hr)) (me_var 5) me_int)) (ms_cons (ms_set 6 nd (me_gc (me_ix (x_ix (hu_of hr)) (me_lc (own := [("one", 11)]) rfl nd (ni_rng2 Z.n_range (na_cons me_int (na_cons (me_var 1) na_nil))) (by kernel_rfl) (fun _ _ _ _ _ => (ng_nm 11 nd)) (fun _ _ _ _ _ => (nt_one (mt_cmp (o_eq hr.units) (me_bin o_mod (me_callTy c_int Z.n_int rfl (na_cons (me_bin o_mul (me_var 11) (me_ix (x_ix (hu_of hr)) (me_ix (x_ix (hu_of hr)) (me_var 2) (me_var 3)) (me_var 4))) na_nil)) (me_var 1)) me_int))) (fun _ _ _ _ _ => (me_var 11))) me_int))) (ms_cons (ms_for PassesOwn.never rfl (ni_rng2 Z.n_range (na_cons (me_bin o_add (me_var 3) me_int) (na_cons (me_callB c_len Z.n_len rfl (na_cons (me_var 2) na_nil)) na_nil))) (ng_nm 7 nd) (ms_cons (ms_set 9 nd (me_bin o_mod (me_callTy c_int Z.n_int rfl (na_cons (me_bin o_mul (me_ix (x_ix (hu_of hr)) (me_ix (x_ix (hu_of hr)) (me_var 2) (me_var 7)) (me_var 4)) (me_var 6)) na_nil)) (me_var 1))) (ms_one (ms_sub (hu_of hr) (me_var 2) (me_var 7) (me_lc (own := [("one", 11), ("its", 12)]) rfl nd (ni_zip Z.n_zip (na_cons (me_ix (x_ix (hu_of hr)) (me_var 2) (me_var 7)) (na_cons (me_ix (x_ix (hu_of hr)) (me_var 2) (me_var 3)) na_nil))) (by kernel_rfl) (fun _ _ _ _ _ => (ng_tup rfl (ngs_cons 11 nd (ngs_cons 12 nd ngs_nil)))) (fun _ _ _ _ _ => nt_nil) (fun _ _ _ _ _ => (me_bin o_mod (me_callTy c_int Z.n_int rfl (na_cons (me_bin o_sub (me_var 11) (me_bin o_mul (me_var 9) (me_var 12))) na_nil)) (me_var 1)))))))) (ms_one (ms_set 3 nd (me_bin o_add (me_var 3) me_int)))))) ms_nil)))) (ms_one (ms_ret (me_cmp (o_eq hr.units) (me_var 3) (me_callB c_len Z.n_len rfl (na_cons (me_var 2) na_nil)))))))
abbrev N__law_made : List Str := ["columns", "prime", "lots", "lot", "at"]
theorem r__law_made (Z : Zf K mg base) : ∃ fd, FnR P w K mg base 2 "_law_made" ["columns", "prime"] F__law_made fd := by
  obtain ⟨fd, D⟩ := Z.d__law_made
  obtain ⟨fd__law_lots, G__law_lots⟩ := r__law_lots (P := P) (w := w) (base := base) Z
  obtain ⟨fd__law_loose_by, G__law_loose_by⟩ := r__law_loose_by (P := P) (w := w) (base := base) Z
  obtain ⟨fd__law_best_of, G__law_best_of⟩ := r__law_best_of (P := P) (w := w) (base := base) Z
  have nd : (N__law_made).Nodup := by decide +kernel
  refine ⟨fd, fnR (k := 1) (N := N__law_made) D Z.g__law_made (by decide +kernel) (fun _ _ _ _ _ _ us hl => match us, hl with | [_, _], _ => rfl) fun cdv A outer s H E hr => ?_⟩
  exact (ms_cons (by first | exact (ms_setL (ms_setLc (own := [("lot", 3)]) rfl nd (ni_seq (me_gc (me_fn G__law_lots hr (na_cons (me_lr1 rfl Z.n_list Z.n_range (me_callB c_len Z.n_len rfl (na_cons (me_var 0) na_nil))) na_nil)))) (by kernel_rfl) (fun _ _ _ _ _ => (ng_nm 3 nd)) (fun _ _ _ _ _ => (nt_one (mt_tru (me_gc (me_fn G__law_loose_by hr (na_cons (me_lc (own := [("at", 4)]) rfl nd (ni_seq (me_var 3)) (by kernel_rfl) (fun _ _ _ _ _ => (ng_nm 4 nd)) (fun _ _ _ _ _ => nt_nil) (fun _ _ _ _ _ => (me_ix (x_ix (hu_of hr)) (me_var 0) (me_var 4)))) (na_cons (me_var 1) na_nil))))))) (fun _ _ _ _ _ => (me_var 3)) (sw_true rfl rfl rfl (by kernel_rfl)))) | exact ms_set 2 nd (me_lc (own := [("lot", 3)]) rfl nd (ni_seq (me_gc (me_fn G__law_lots hr (na_cons (me_lr1 rfl Z.n_list Z.n_range (me_callB c_len Z.n_len rfl (na_cons (me_var 0) na_nil))) na_nil)))) (by kernel_rfl) (fun _ _ _ _ _ => (ng_nm 3 nd)) (fun _ _ _ _ _ => (nt_one (mt_tru (me_gc (me_fn G__law_loose_by hr (na_cons (me_lc (own := [("at", 4)]) rfl nd (ni_seq (me_var 3)) (by kernel_rfl) (fun _ _ _ _ _ => (ng_nm 4 nd)) (fun _ _ _ _ _ => nt_nil) (fun _ _ _ _ _ => (me_ix (x_ix (hu_of hr)) (me_var 0) (me_var 4)))) (na_cons (me_var 1) na_nil))))))) (fun _ _ _ _ _ => (me_var 3)))) (ms_one (ms_ret (me_fn G__law_best_of hr (na_cons (me_callB c_len Z.n_len rfl (na_cons (me_var 0) na_nil)) (na_cons (me_var 2) na_nil))))))
abbrev N__law_drawn_plain : List Str := ["pot", "many", "prime", "rows", "columns", "thing", "row"]
theorem r__law_drawn_plain (Z : Zf K mg base) : ∃ fd, FnR P w K mg base 3 "_law_drawn_plain" ["pot", "many"] F__law_drawn_plain fd := by
  obtain ⟨fd, D⟩ := Z.d__law_drawn_plain
  obtain ⟨fd__law_take, G__law_take⟩ := r__law_take (P := P) (w := w) (base := base) Z
  obtain ⟨fd__law_of, G__law_of⟩ := r__law_of (P := P) (w := w) (base := base) Z
  obtain ⟨fd__law_made, G__law_made⟩ := r__law_made (P := P) (w := w) (base := base) Z
  have nd : (N__law_drawn_plain).Nodup := by decide +kernel
  refine ⟨fd, fnR (k := 2) (N := N__law_drawn_plain) D Z.g__law_drawn_plain (by decide +kernel) (fun _ _ _ _ _ _ us hl => match us, hl with | [_, _], _ => rfl) fun cdv A outer s H E hr => ?_⟩
  exact (ms_cons (by first | exact ms_par 2 3 rfl nd (na_cons (me_gc (me_fn G__law_of hr (na_cons (me_var 0) (na_cons (me_lst (na_cons me_int (na_cons me_int (na_cons me_int (na_cons me_int na_nil))))) na_nil)))) (na_cons (me_fn G__law_take hr (na_cons (me_var 0) (na_cons (me_bin o_add (me_callB (c_min2 rfl) Z.n_min rfl (na_cons me_int (na_cons (me_var 1) na_nil))) me_int) na_nil))) na_nil)) | exact ms_parT (na_cons (me_gc (me_fn G__law_of hr (na_cons (me_var 0) (na_cons (me_lst (na_cons me_int (na_cons me_int (na_cons me_int (na_cons me_int na_nil))))) na_nil)))) (na_cons (me_fn G__law_take hr (na_cons (me_var 0) (na_cons (me_bin o_add (me_callB (c_min2 rfl) Z.n_min rfl (na_cons me_int (na_cons (me_var 1) na_nil))) me_int) na_nil))) na_nil)) (ng_tup rfl (ngs_cons 2 nd (ngs_cons 3 nd ngs_nil)))) (ms_cons (by first | exact (ms_setL (ms_setLc (own := [("thing", 5)]) rfl nd (ni_rng1 Z.n_range (na_cons (me_var 1) na_nil)) (by kernel_rfl) (fun _ _ _ _ _ => (ng_nm 5 nd)) (fun _ _ _ _ _ => nt_nil) (fun _ _ _ _ _ => (me_gc (me_callTy c_tuple Z.n_tuple rfl (na_cons (me_lc (own := [("row", 6)]) rfl nd (ni_rng1 Z.n_range (na_cons (me_var 3) na_nil)) (by kernel_rfl) (fun _ _ _ _ _ => (ng_nm 6 nd)) (fun _ _ _ _ _ => nt_nil) (fun _ _ _ _ _ => (me_fn G__law_take hr (na_cons (me_var 0) (na_cons (me_var 2) na_nil))))) na_nil)))) (sw_true rfl rfl rfl (by kernel_rfl)))) | exact ms_set 4 nd (me_lc (own := [("thing", 5)]) rfl nd (ni_rng1 Z.n_range (na_cons (me_var 1) na_nil)) (by kernel_rfl) (fun _ _ _ _ _ => (ng_nm 5 nd)) (fun _ _ _ _ _ => nt_nil) (fun _ _ _ _ _ => (me_gc (me_callTy c_tuple Z.n_tuple rfl (na_cons (me_lc (own := [("row", 6)]) rfl nd (ni_rng1 Z.n_range (na_cons (me_var 3) na_nil)) (by kernel_rfl) (fun _ _ _ _ _ => (ng_nm 6 nd)) (fun _ _ _ _ _ => nt_nil) (fun _ _ _ _ _ => (me_fn G__law_take hr (na_cons (me_var 0) (na_cons (me_var 2) na_nil))))) na_nil)))))) (ms_one (ms_ret (me_fn G__law_made hr (na_cons (me_var 4) (na_cons (me_var 2) na_nil)))))))
abbrev N__law_weights : List Str := ["pot", "many", "most", "thing"]
theorem r__law_weights (Z : Zf K mg base) : ∃ fd, FnR P w K mg base 2 "_law_weights" ["pot", "many", "most"] F__law_weights fd := by
  obtain ⟨fd, D⟩ := Z.d__law_weights
  obtain ⟨fd__law_take, G__law_take⟩ := r__law_take (P := P) (w := w) (base := base) Z
  have nd : (N__law_weights).Nodup := by decide +kernel
  refine ⟨fd, fnR (k := 1) (N := N__law_weights) D Z.g__law_weights (by decide +kernel) (fun _ _ _ _ _ _ us hl => match us, hl with | [_, _, _], _ => rfl) fun cdv A outer s H E hr => ?_⟩
  exact (ms_one (ms_ret (me_gc (me_callTy c_tuple Z.n_tuple rfl (na_cons (me_lc (own := [("thing", 3)]) rfl nd (ni_rng1 Z.n_range (na_cons (me_var 1) na_nil)) (by kernel_rfl) (fun _ _ _ _ _ => (ng_nm 3 nd)) (fun _ _ _ _ _ => nt_nil) (fun _ _ _ _ _ => (me_fn G__law_take hr (na_cons (me_var 0) (na_cons (me_var 2) na_nil))))) na_nil)))))
abbrev N__law_weighs : List Str := ["weights", "lot", "thing"]
theorem r__law_weighs (Z : Zf K mg base) : ∃ fd, FnR P w K mg base 1 "_law_weighs" ["weights", "lot"] F__law_weighs fd := by
  obtain ⟨fd, D⟩ := Z.d__law_weighs
  have nd : (N__law_weighs).Nodup := by decide +kernel
  refine ⟨fd, fnR (k := 0) (N := N__law_weighs) D Z.g__law_weighs (by decide +kernel) (fun _ _ _ _ _ _ us hl => match us, hl with | [_, _], _ => rfl) fun cdv A outer s H E hr => ?_⟩
  exact (ms_one (ms_ret (me_gc (me_callB (c_sum rfl) Z.n_sum rfl (na_cons (me_lc (own := [("thing", 2)]) rfl nd (ni_seq (me_var 1)) (by kernel_rfl) (fun _ _ _ _ _ => (ng_nm 2 nd)) (fun _ _ _ _ _ => nt_nil) (fun _ _ _ _ _ => (me_ix (x_ix (hu_of hr)) (me_var 0) (me_var 2)))) na_nil)))))
abbrev N__law_tops : List Str := ["lots", "some", "found", "lot", "other", "thing"]
theorem r__law_tops (Z : Zf K mg base) : ∃ fd, FnR P w K mg base 1 "_law_tops" ["lots"] F__law_tops fd := by
  obtain ⟨fd, D⟩ := Z.d__law_tops
  have nd : (N__law_tops).Nodup := by decide +kernel
  refine ⟨fd, fnR (k := 0) (N := N__law_tops) D Z.g__law_tops (by decide +kernel) (fun _ _ _ _ _ _ us hl => match us, hl with | [_], _ => rfl) fun cdv A outer s H E hr => ?_⟩
  exact (ms_cons (ms_set 1 nd (me_sortset rfl hr.units Z.n_sorted Z.n_set (me_var 0))) (ms_cons (ms_set 2 nd (me_lst na_nil)) (ms_cons (ms_for PassesOwn.never rfl (ni_seq (me_var 1)) (ng_nm 3 nd) (ms_one (ms_if (mt_not (mt_tru (me_gc (me_callB (c_any rfl) Z.n_any rfl (na_cons (me_lc (own := [("other", 4)]) rfl nd (ni_seq (me_var 1)) (by kernel_rfl) (fun _ _ _ _ _ => (ng_nm 4 nd)) (fun _ _ _ _ _ => nt_nil) (fun _ _ _ _ _ => (me_and (me_cmp (o_ne hr.units) (me_var 3) (me_var 4)) (me_one (me_gc (me_callB (c_all rfl) Z.n_all rfl (na_cons (me_lc (own := [("thing", 5)]) rfl nd (ni_seq (me_var 3)) (by kernel_rfl) (fun _ _ _ _ _ => (ng_nm 5 nd)) (fun _ _ _ _ _ => nt_nil) (fun _ _ _ _ _ => (me_cmp (o_in (room65 hr)) (me_var 5) (me_var 4)))) na_nil))))))) na_nil))))) (ms_one (ms_expr (me_append (me_var 2) (na_cons (me_var 3) na_nil)))) ms_nil))) (ms_one (ms_ret (me_callTy c_tuple Z.n_tuple rfl (na_cons (me_var 2) na_nil)))))))
abbrev N__law_heap : List Str := ["pot", "many", "kind", "every", "lots", "some", "ends", "lot", "nodes", "at", "lap", "edge", "thing", "one"]
theorem r__law_heap (Z : Zf K mg base) : ∃ fd, FnR P w K mg base 4 "_law_heap" ["pot"] F__law_heap fd := by
  obtain ⟨fd, D⟩ := Z.d__law_heap
  obtain ⟨fd__law_take, G__law_take⟩ := r__law_take (P := P) (w := w) (base := base) Z
  obtain ⟨fd__law_lots, G__law_lots⟩ := r__law_lots (P := P) (w := w) (base := base) Z
  obtain ⟨fd__law_drawn_plain, G__law_drawn_plain⟩ := r__law_drawn_plain (P := P) (w := w) (base := base) Z
  obtain ⟨fd__law_tops, G__law_tops⟩ := r__law_tops (P := P) (w := w) (base := base) Z
  obtain ⟨fd__law_is_free, G__law_is_free⟩ := r__law_is_free (P := P) (w := w) (base := base) Z
  have nd : (N__law_heap).Nodup := by decide +kernel
  refine ⟨fd, fnR (k := 3) (N := N__law_heap) D Z.g__law_heap (by decide +kernel) (fun _ _ _ _ _ _ us hl => match us, hl with | [_], _ => rfl) fun cdv A outer s H E hr => ?_⟩
  exact (ms_cons (by first | exact ms_par 1 2 rfl nd (na_cons (me_bin o_add me_int (me_fn G__law_take hr (na_cons (me_var 0) (na_cons me_int na_nil)))) (na_cons (me_fn G__law_take hr (na_cons (me_var 0) (na_cons me_int na_nil))) na_nil)) | exact ms_parT (na_cons (me_bin o_add me_int (me_fn G__law_take hr (na_cons (me_var 0) (na_cons me_int na_nil)))) (na_cons (me_fn G__law_take hr (na_cons (me_var 0) (na_cons me_int na_nil))) na_nil)) (ng_tup rfl (ngs_cons 1 nd (ngs_cons 2 nd ngs_nil)))) (ms_cons (ms_set 3 nd (me_gc (me_fn G__law_lots hr (na_cons (me_lr1 rfl Z.n_list Z.n_range (me_var 1)) na_nil)))) (ms_cons (ms_if (mt_cmp (o_lt hr.units0) (me_var 2) me_int) (ms_cons (by first | exact (ms_setL (ms_setLc (own := [("lap", 10)]) rfl nd (ni_rng1 Z.n_range (na_cons (me_bin o_add me_int (me_var 2)) na_nil)) (by kernel_rfl) (fun _ _ _ _ _ => (ng_nm 10 nd)) (fun _ _ _ _ _ => nt_nil) (fun _ _ _ _ _ => (me_fn G__law_drawn_plain hr (na_cons (me_var 0) (na_cons (me_var 1) na_nil)))) (sw_true rfl rfl rfl (by kernel_rfl)))) | exact ms_set 5 nd (me_lc (own := [("lap", 10)]) rfl nd (ni_rng1 Z.n_range (na_cons (me_bin o_add me_int (me_var 2)) na_nil)) (by kernel_rfl) (fun _ _ _ _ _ => (ng_nm 10 nd)) (fun _ _ _ _ _ => nt_nil) (fun _ _ _ _ _ => (me_fn G__law_drawn_plain hr (na_cons (me_var 0) (na_cons (me_var 1) na_nil)))))) (ms_one (ms_ret (me_tup (na_cons (me_tup (na_cons (me_var 1) (na_cons (me_gc (me_fn G__law_tops hr (na_cons (me_lc (own := [("lot", 7)]) rfl nd (ni_seq (me_var 3)) (by kernel_rfl) (fun _ _ _ _ _ => (ng_nm 7 nd)) (fun _ _ _ _ _ => (nt_one (mt_tru (me_gc (me_callB (c_all rfl) Z.n_all rfl (na_cons (me_lc (own := [("one", 13)]) rfl nd (ni_seq (me_var 5)) (by kernel_rfl) (fun _ _ _ _ _ => (ng_nm 13 nd)) (fun _ _ _ _ _ => nt_nil) (fun _ _ _ _ _ => (me_fn G__law_is_free hr (na_cons (me_var 13) (na_cons (me_var 7) na_nil))))) na_nil)))))) (fun _ _ _ _ _ => (me_var 7))) na_nil))) na_nil))) (na_cons (me_bin o_add me_int (me_var 2)) na_nil)))))) ms_nil) (ms_cons (ms_if (mt_cmp (o_eq hr.units) (me_var 2) me_int) (ms_cons (by first | exact (ms_setL (ms_setLc (own := [("edge", 11)]) rfl nd (ni_rng1 Z.n_range (na_cons (me_var 1) na_nil)) (by kernel_rfl) (fun _ _ _ _ _ => (ng_nm 11 nd)) (fun _ _ _ _ _ => nt_nil) (fun _ _ _ _ _ => (me_tup (na_cons (me_fn G__law_take hr (na_cons (me_var 0) (na_cons me_int na_nil))) (na_cons (me_bin o_add me_int (me_fn G__law_take hr (na_cons (me_var 0) (na_cons me_int na_nil)))) na_nil)))) (sw_true rfl rfl rfl (by kernel_rfl)))) | exact ms_set 6 nd (me_lc (own := [("edge", 11)]) rfl nd (ni_rng1 Z.n_range (na_cons (me_var 1) na_nil)) (by kernel_rfl) (fun _ _ _ _ _ => (ng_nm 11 nd)) (fun _ _ _ _ _ => nt_nil) (fun _ _ _ _ _ => (me_tup (na_cons (me_fn G__law_take hr (na_cons (me_var 0) (na_cons me_int na_nil))) (na_cons (me_bin o_add me_int (me_fn G__law_take hr (na_cons (me_var 0) (na_cons me_int na_nil)))) na_nil)))))) (ms_cons (ms_set 4 nd (me_lst na_nil)) (ms_cons (ms_for PassesOwn.never rfl (ni_seq (me_var 3)) (ng_nm 7 nd) (ms_cons (ms_set 8 nd (me_lst na_nil)) (ms_cons (ms_for PassesOwn.never rfl (ni_seq (me_var 7)) (ng_nm 9 nd) (ms_one (ms_expr (me_gc (me_extend (me_var 8) (na_cons (me_callTy c_list Z.n_list rfl (na_cons (me_ix (x_ix (hu_of hr)) (me_var 6) (me_var 9)) na_nil)) na_nil)))))) (ms_one (ms_if (mt_cmp (o_eq hr.units) (me_callB c_len Z.n_len rfl (na_cons (me_var 8) na_nil)) (me_lenset rfl Z.n_len Z.n_set (me_var 8))) (ms_one (ms_expr (me_append (me_var 4) (na_cons (me_var 7) na_nil)))) ms_nil))))) (ms_one (ms_ret (me_tup (na_cons (me_tup (na_cons (me_var 1) (na_cons (me_fn G__law_tops hr (na_cons (me_var 4) na_nil)) na_nil))) (na_cons me_int na_nil)))))))) ms_nil) (ms_cons (by first | exact (ms_setL (ms_setLc (own := [("lap", 10)]) rfl nd (ni_rng1 Z.n_range (na_cons (me_bin o_add me_int (me_fn G__law_take hr (na_cons (me_var 0) (na_cons me_int na_nil)))) na_nil)) (by kernel_rfl) (fun _ _ _ _ _ => (ng_nm 10 nd)) (fun _ _ _ _ _ => nt_nil) (fun _ _ _ _ _ => (me_gc (me_callTy c_tuple Z.n_tuple rfl (na_cons (me_lc (own := [("thing", 12)]) rfl nd (ni_rng1 Z.n_range (na_cons (me_var 1) na_nil)) (by kernel_rfl) (fun _ _ _ _ _ => (ng_nm 12 nd)) (fun _ _ _ _ _ => (nt_one (mt_cmp (o_eq hr.units) (me_fn G__law_take hr (na_cons (me_var 0) (na_cons me_int na_nil))) me_int))) (fun _ _ _ _ _ => (me_var 12))) na_nil)))) (sw_true rfl rfl rfl (by kernel_rfl)))) | exact ms_set 4 nd (me_lc (own := [("lap", 10)]) rfl nd (ni_rng1 Z.n_range (na_cons (me_bin o_add me_int (me_fn G__law_take hr (na_cons (me_var 0) (na_cons me_int na_nil)))) na_nil)) (by kernel_rfl) (fun _ _ _ _ _ => (ng_nm 10 nd)) (fun _ _ _ _ _ => nt_nil) (fun _ _ _ _ _ => (me_gc (me_callTy c_tuple Z.n_tuple rfl (na_cons (me_lc (own := [("thing", 12)]) rfl nd (ni_rng1 Z.n_range (na_cons (me_var 1) na_nil)) (by kernel_rfl) (fun _ _ _ _ _ => (ng_nm 12 nd)) (fun _ _ _ _ _ => (nt_one (mt_cmp (o_eq hr.units) (me_fn G__law_take hr (na_cons (me_var 0) (na_cons me_int na_nil))) me_int))) (fun _ _ _ _ _ => (me_var 12))) na_nil)))))) (ms_one (ms_ret (me_tup (na_cons (me_tup (na_cons (me_var 1) (na_cons (me_fn G__law_tops hr (na_cons (me_var 4) na_nil)) na_nil))) (na_cons me_int na_nil))))))))))
abbrev N__law_grown : List Str := ["heap", "lot", "some", "top", "thing"]
theorem r__law_grown (Z : Zf K mg base) : ∃ fd, FnR P w K mg base 2 "_law_grown" ["heap", "lot"] F__law_grown fd := by
  obtain ⟨fd, D⟩ := Z.d__law_grown
  obtain ⟨fd__law_tops, G__law_tops⟩ := r__law_tops (P := P) (w := w) (base := base) Z
  have nd : (N__law_grown).Nodup := by decide +kernel
  refine ⟨fd, fnR (k := 1) (N := N__law_grown) D Z.g__law_grown (by decide +kernel) (fun _ _ _ _ _ _ us hl => match us, hl with | [_, _], _ => rfl) fun cdv A outer s H E hr => ?_⟩
  exact (ms_cons (ms_set 2 nd (me_lst na_nil)) (ms_cons (ms_for PassesOwn.never rfl (ni_seq (me_ix (x_ix (hu_of hr)) (me_var 0) me_int)) (ng_nm 3 nd) (ms_one (ms_expr (me_append (me_var 2) (na_cons (me_gc (me_callTy c_tuple Z.n_tuple rfl (na_cons (me_lc (own := [("thing", 4)]) rfl nd (ni_seq (me_var 3)) (by kernel_rfl) (fun _ _ _ _ _ => (ng_nm 4 nd)) (fun _ _ _ _ _ => (nt_one (mt_cmp (o_in (room65 hr)) (me_var 4) (me_var 1)))) (fun _ _ _ _ _ => (me_var 4))) na_nil))) na_nil))))) (ms_one (ms_ret (me_fn G__law_tops hr (na_cons (me_var 2) na_nil))))))
abbrev N__law_share : List Str := ["heap", "best_one", "lot", "some", "few", "most", "one"]
theorem r__law_share (Z : Zf K mg base) : ∃ fd, FnR P w K mg base 3 "_law_share" ["heap"] F__law_share fd := by
  obtain ⟨fd, D⟩ := Z.d__law_share
  obtain ⟨fd__law_lots, G__law_lots⟩ := r__law_lots (P := P) (w := w) (base := base) Z
  obtain ⟨fd__law_grown, G__law_grown⟩ := r__law_grown (P := P) (w := w) (base := base) Z
  have nd : (N__law_share).Nodup := by decide +kernel
  refine ⟨fd, fnR (k := 2) (N := N__law_share) D Z.g__law_share (by decide +kernel) (fun _ _ _ _ _ _ us hl => match us, hl with | [_], _ => rfl) fun cdv A outer s H E hr => ?_⟩
  exact (ms_cons (ms_set 1 nd (me_tup (na_cons me_int (na_cons me_int (na_cons (me_tup na_nil) (na_cons (me_tup na_nil) na_nil)))))) (ms_cons (ms_for PassesOwn.never rfl (ni_seq (me_gc (me_fn G__law_lots hr (na_cons (me_lr1 rfl Z.n_list Z.n_range (me_ix (x_ix (hu_of hr)) (me_var 0) me_int)) na_nil)))) (ng_nm 2 nd) (ms_cons (ms_set 3 nd (me_fn G__law_grown hr (na_cons (me_var 0) (na_cons (me_var 2) na_nil)))) (ms_cons (by first | exact ms_par 4 5 rfl nd (na_cons (me_gc (me_callB (c_min1X rfl hr.units) Z.n_min rfl (na_cons (me_lc (own := [("one", 6)]) rfl nd (ni_seq (me_var 3)) (by kernel_rfl) (fun _ _ _ _ _ => (ng_nm 6 nd)) (fun _ _ _ _ _ => nt_nil) (fun _ _ _ _ _ => (me_tup (na_cons (me_callB c_len Z.n_len rfl (na_cons (me_var 6) na_nil)) (na_cons (me_var 6) na_nil))))) na_nil))) (na_cons (me_gc (me_callB (c_max1X rfl hr.units) Z.n_max rfl (na_cons (me_lc (own := [("one", 6)]) rfl nd (ni_seq (me_var 3)) (by kernel_rfl) (fun _ _ _ _ _ => (ng_nm 6 nd)) (fun _ _ _ _ _ => nt_nil) (fun _ _ _ _ _ => (me_callB c_len Z.n_len rfl (na_cons (me_var 6) na_nil)))) na_nil))) na_nil)) | exact ms_parT (na_cons (me_gc (me_callB (c_min1X rfl hr.units) Z.n_min rfl (na_cons (me_lc (own := [("one", 6)]) rfl nd (ni_seq (me_var 3)) (by kernel_rfl) (fun _ _ _ _ _ => (ng_nm 6 nd)) (fun _ _ _ _ _ => nt_nil) (fun _ _ _ _ _ => (me_tup (na_cons (me_callB c_len Z.n_len rfl (na_cons (me_var 6) na_nil)) (na_cons (me_var 6) na_nil))))) na_nil))) (na_cons (me_gc (me_callB (c_max1X rfl hr.units) Z.n_max rfl (na_cons (me_lc (own := [("one", 6)]) rfl nd (ni_seq (me_var 3)) (by kernel_rfl) (fun _ _ _ _ _ => (ng_nm 6 nd)) (fun _ _ _ _ _ => nt_nil) (fun _ _ _ _ _ => (me_callB c_len Z.n_len rfl (na_cons (me_var 6) na_nil)))) na_nil))) na_nil)) (ng_tup rfl (ngs_cons 4 nd (ngs_cons 5 nd ngs_nil)))) (ms_one (ms_if (mt_cmp (o_lt hr.units0) (me_bin o_mul (me_ix (x_ix (hu_of hr)) (me_var 4) me_int) (me_ix (x_ix (hu_of hr)) (me_var 1) me_int)) (me_bin o_mul (me_ix (x_ix (hu_of hr)) (me_var 1) me_int) (me_var 5))) (ms_one (ms_set 1 nd (me_tup (na_cons (me_ix (x_ix (hu_of hr)) (me_var 4) me_int) (na_cons (me_var 5) (na_cons (me_ix (x_ix (hu_of hr)) (me_var 4) me_int) (na_cons (me_var 2) na_nil))))))) ms_nil))))) (ms_one (ms_ret (me_var 1)))))
abbrev N__law_right : List Str := ["pot", "heap", "choices", "many", "few", "most", "small", "lot", "lap", "weights", "got", "can", "thing"]
theorem r__law_right (Z : Zf K mg base) : ∃ fd, FnR P w K mg base 7 "_law_right" ["pot"] F__law_right fd := by
  obtain ⟨fd, D⟩ := Z.d__law_right
  obtain ⟨fd__law_heap, G__law_heap⟩ := r__law_heap (P := P) (w := w) (base := base) Z
  obtain ⟨fd__law_share, G__law_share⟩ := r__law_share (P := P) (w := w) (base := base) Z
  obtain ⟨fd_is_heap, G_is_heap⟩ := r_is_heap (P := P) (w := w) (base := base) Z
  obtain ⟨fd_always_best, G_always_best⟩ := r_always_best (P := P) (w := w) (base := base) Z
  obtain ⟨fd_is_choice, G_is_choice⟩ := r_is_choice (P := P) (w := w) (base := base) Z
  obtain ⟨fd__law_weights, G__law_weights⟩ := r__law_weights (P := P) (w := w) (base := base) Z
  obtain ⟨fd__law_of, G__law_of⟩ := r__law_of (P := P) (w := w) (base := base) Z
  obtain ⟨fd_best, G_best⟩ := r_best (P := P) (w := w) (base := base) Z
  obtain ⟨fd__law_weighs, G__law_weighs⟩ := r__law_weighs (P := P) (w := w) (base := base) Z
  obtain ⟨fd_next_best, G_next_best⟩ := r_next_best (P := P) (w := w) (base := base) Z
  obtain ⟨fd_shows_always_best, G_shows_always_best⟩ := r_shows_always_best (P := P) (w := w) (base := base) Z
  have nd : (N__law_right).Nodup := by decide +kernel
  refine ⟨fd, fnR (k := 6) (N := N__law_right) D Z.g__law_right (by decide +kernel) (fun _ _ _ _ _ _ us hl => match us, hl with | [_], _ => rfl) fun cdv A outer s H E hr => ?_⟩
  exact (ms_cons (ms_asg (me_fn G__law_heap hr (na_cons (me_var 0) na_nil)) (ng_tup rfl (ngs_cons 1 nd (ngs_cons 2 nd ngs_nil)))) (ms_cons (ms_set 3 nd (me_ix (x_ix (hu_of hr)) (me_var 1) me_int)) (ms_cons (ms_asg (me_fn G__law_share hr (na_cons (me_var 1) na_nil)) (ng_tup rfl (ngs_cons 4 nd (ngs_cons 5 nd (ngs_cons 6 nd (ngs_cons 7 nd ngs_nil)))))) (ms_cons (ms_if (mw_or (mt_cmp o_notN (me_fn G_is_heap hr (na_cons (me_var 1) na_nil)) me_bl) (mw_or1 (mt_cmp (o_ne hr.units) (me_cmp (o_eq hr.units) (me_fn G_always_best hr (na_cons (me_var 1) na_nil)) (me_tup (na_cons me_str na_nil))) (me_cmp (o_eq hr.units) (me_var 4) (me_var 5))))).pt (ms_one (ms_ret me_bl)) ms_nil) (ms_cons (ms_if (mw_or (mt_cmp (o_ne hr.units) (me_fn G_is_choice hr (na_cons (me_var 1) na_nil)) (me_cmp (o_eq hr.units) (me_var 4) (me_var 5))) (mw_or1 (mw_and (mt_cmp o_gt (me_var 2) me_int) (mw_and1 (mt_cmp (o_lt hr.units0) (me_bin o_mul (me_var 4) (me_var 2)) (me_var 5)))).pt)).pt (ms_one (ms_ret me_bl)) ms_nil) (ms_cons (ms_for PassesOwn.never rfl (ni_rng1 Z.n_range (na_cons me_int na_nil)) (ng_nm 8 nd) (ms_cons (ms_set 9 nd (me_fn G__law_weights hr (na_cons (me_var 0) (na_cons (me_var 3) (na_cons (me_gc (me_fn G__law_of hr (na_cons (me_var 0) (na_cons (me_lst (na_cons me_int (na_cons me_int (na_cons me_int na_nil)))) na_nil)))) na_nil))))) (ms_cons (by first | exact ms_par 10 11 rfl nd (na_cons (me_fn G__law_weighs hr (na_cons (me_var 9) (na_cons (me_fn G_next_best hr (na_cons (me_var 1) (na_cons (me_var 9) na_nil))) na_nil))) (na_cons (me_ix (x_ix (hu_of hr)) (me_fn G_best hr (na_cons (me_var 1) (na_cons (me_var 9) na_nil))) me_int) na_nil)) | exact ms_parT (na_cons (me_fn G__law_weighs hr (na_cons (me_var 9) (na_cons (me_fn G_next_best hr (na_cons (me_var 1) (na_cons (me_var 9) na_nil))) na_nil))) (na_cons (me_ix (x_ix (hu_of hr)) (me_fn G_best hr (na_cons (me_var 1) (na_cons (me_var 9) na_nil))) me_int) na_nil)) (ng_tup rfl (ngs_cons 10 nd (ngs_cons 11 nd ngs_nil)))) (ms_one (ms_if (mw_or (mt_cmp (o_lt hr.units0) (me_bin o_mul (me_var 10) (me_var 5)) (me_bin o_mul (me_var 4) (me_var 11))) (mw_or1 (mt_cmp o_gt (me_var 10) (me_var 11)))).pt (ms_one (ms_ret me_bl)) ms_nil))))) (ms_cons (ms_if (mt_cmp (o_eq hr.units) (me_var 4) (me_var 5)) (ms_one (ms_ret me_bl)) ms_nil) (ms_cons (ms_set 9 nd (me_gc (me_callTy c_tuple Z.n_tuple rfl (na_cons (me_lc (own := [("thing", 12)]) rfl nd (ni_rng1 Z.n_range (na_cons (me_var 3) na_nil)) (by kernel_rfl) (fun _ _ _ _ _ => (ng_nm 12 nd)) (fun _ _ _ _ _ => nt_nil) (fun _ _ _ _ _ => (me_if (mt_cmp (o_in (room65 hr)) (me_var 12) (me_var 7)) (me_if (mt_cmp (o_in (room65 hr)) (me_var 12) (me_var 6)) me_int me_int) me_int))) na_nil)))) (ms_cons (by first | exact ms_par 10 11 rfl nd (na_cons (me_fn G__law_weighs hr (na_cons (me_var 9) (na_cons (me_fn G_next_best hr (na_cons (me_var 1) (na_cons (me_var 9) na_nil))) na_nil))) (na_cons (me_ix (x_ix (hu_of hr)) (me_fn G_best hr (na_cons (me_var 1) (na_cons (me_var 9) na_nil))) me_int) na_nil)) | exact ms_parT (na_cons (me_fn G__law_weighs hr (na_cons (me_var 9) (na_cons (me_fn G_next_best hr (na_cons (me_var 1) (na_cons (me_var 9) na_nil))) na_nil))) (na_cons (me_ix (x_ix (hu_of hr)) (me_fn G_best hr (na_cons (me_var 1) (na_cons (me_var 9) na_nil))) me_int) na_nil)) (ng_tup rfl (ngs_cons 10 nd (ngs_cons 11 nd ngs_nil)))) (ms_cons (ms_if (mw_or (mt_cmp (o_ne hr.units) (me_var 10) (me_bin o_mul me_int (me_var 4))) (mw_or1 (mt_cmp (o_lt hr.units0) (me_var 11) (me_bin o_mul me_int (me_var 5))))).pt (ms_one (ms_ret me_bl)) ms_nil) (ms_one (ms_ret (me_cmp o_isN (me_fn G_shows_always_best hr (na_cons (me_var 1) (na_cons (me_tup (na_cons me_str (na_cons (me_var 9) (na_cons (me_ix (x_ix (hu_of hr)) (me_fn G_best hr (na_cons (me_var 1) (na_cons (me_var 9) na_nil))) me_int) na_nil)))) na_nil))) me_bl)))))))))))))
abbrev N_law : List Str := ["script", "number", "heap", "place", "pot", "lap"]
theorem r_law (Z : Zf K mg base) : ∃ fd, FnR P w K mg base 8 "law" ["script"] F_law fd := by
  obtain ⟨fd, D⟩ := Z.d_law
  obtain ⟨fd_next_best, G_next_best⟩ := r_next_best (P := P) (w := w) (base := base) Z
  obtain ⟨fd_best, G_best⟩ := r_best (P := P) (w := w) (base := base) Z
  obtain ⟨fd__law_places, G__law_places⟩ := r__law_places (P := P) (w := w) (base := base) Z
  obtain ⟨fd__law_pot, G__law_pot⟩ := r__law_pot (P := P) (w := w) (base := base) Z
  obtain ⟨fd__law_right, G__law_right⟩ := r__law_right (P := P) (w := w) (base := base) Z
  have nd : (N_law).Nodup := by decide +kernel
  refine ⟨fd, fnR (k := 7) (N := N_law) D Z.g_law (by decide +kernel) (fun _ _ _ _ _ _ us hl => match us, hl with | [_], _ => rfl) fun cdv A outer s H E hr => ?_⟩
  exact (ms_cons (ms_set 1 nd (me_bin o_add me_int (me_bin o_mod (me_callTy c_int Z.n_int rfl (na_cons (me_gc (me_callB (c_sum rfl) Z.n_sum rfl (na_cons (me_sl (me_var 0) no_none (no_some me_int)) na_nil))) na_nil)) me_int))) (ms_cons (ms_set 2 nd (me_tup (na_cons me_int (na_cons (me_tup (na_cons (me_tup (na_cons me_int (na_cons me_int na_nil))) (na_cons (me_tup (na_cons me_int na_nil)) na_nil))) na_nil)))) (ms_cons (ms_if (mw_or (mt_cmp (o_ne hr.units) (me_fn G_next_best hr (na_cons (me_var 2) (na_cons (me_tup (na_cons (me_var 1) (na_cons (me_bin o_add (me_var 1) me_int) (na_cons (me_var 1) na_nil)))) na_nil))) (me_tup (na_cons me_int na_nil))) (mw_or1 (mt_cmp (o_ne hr.units) (me_ix (x_ix (hu_of hr)) (me_fn G_best hr (na_cons (me_var 2) (na_cons (me_tup (na_cons (me_var 1) (na_cons (me_bin o_add (me_var 1) me_int) (na_cons (me_var 1) na_nil)))) na_nil))) me_int) (me_callB (c_max2 rfl) Z.n_max rfl (na_cons (me_bin o_mul me_int (me_var 1)) (na_cons (me_bin o_add (me_var 1) me_int) na_nil)))))).pt (ms_one (ms_ret me_bl)) ms_nil) (ms_cons (ms_for PassesOwn.never rfl (ni_seq (me_fn G__law_places hr (na_cons (me_var 0) (na_cons me_int na_nil)))) (ng_nm 3 nd) (ms_cons (ms_set 4 nd (me_fn G__law_pot hr (na_cons (me_var 0) (na_cons (me_var 3) na_nil)))) (ms_one (ms_if (mt_not (mt_tru (me_gc (me_callB (c_all rfl) Z.n_all rfl (na_cons (me_lc (own := [("lap", 5)]) rfl nd (ni_rng1 Z.n_range (na_cons me_int na_nil)) (by kernel_rfl) (fun _ _ _ _ _ => (ng_nm 5 nd)) (fun _ _ _ _ _ => nt_nil) (fun _ _ _ _ _ => (me_fn G__law_right hr (na_cons (me_var 4) na_nil)))) na_nil))))) (ms_one (ms_ret me_bl)) ms_nil)))) (ms_one (ms_ret me_bl))))))
end
end Wk
set_option Elab.async false
set_option linter.all false
set_option maxRecDepth 100000
set_option maxHeartbeats 0
set_option autoImplicit false
namespace Hd
open PySem PySem.Spec PyProof.Rows L2 LamX MX Wk
def fn0 : List He.DefD := [⟨("is_int", none), "is_int", "is_int", defArgs (top 6), defBody (top 6), defScope (top 6), [], []⟩,
  ⟨("is_rising", none), "is_rising", "is_rising", defArgs (top 7), defBody (top 7), defScope (top 7), [], []⟩,
  ⟨("is_lot", none), "is_lot", "is_lot", defArgs (top 8), defBody (top 8), defScope (top 8), [], []⟩,
  ⟨("are_lots", none), "are_lots", "are_lots", defArgs (top 9), defBody (top 9), defScope (top 9), [], []⟩,
  ⟨("bits_of", none), "bits_of", "bits_of", defArgs (top 10), defBody (top 10), defScope (top 10), [], []⟩,
  ⟨("lot_of", none), "lot_of", "lot_of", defArgs (top 11), defBody (top 11), defScope (top 11), [], []⟩,
  ⟨("can_go", none), "can_go", "can_go", defArgs (top 13), defBody (top 13), defScope (top 13), [], []⟩,
  ⟨("told_stuck", none), "told_stuck", "told_stuck", defArgs (top 14), defBody (top 14), defScope (top 14), [], []⟩,
  ⟨("is_choice", none), "is_choice", "is_choice", defArgs (top 15), defBody (top 15), defScope (top 15), [], []⟩,
  ⟨("is_heap", none), "is_heap", "is_heap", defArgs (top 20), defBody (top 20), defScope (top 20), [], []⟩,
  ⟨("look_at_heap", none), "look_at_heap", "look_at_heap", defArgs (top 21), defBody (top 21), defScope (top 21), [], []⟩,
  ⟨("look_at_weights", none), "look_at_weights", "look_at_weights", defArgs (top 22), defBody (top 22), defScope (top 22), [], []⟩,
  ⟨("weight_of", none), "weight_of", "weight_of", defArgs (top 23), defBody (top 23), defScope (top 23), [], []⟩,
  ⟨("told_next", none), "told_next", "told_next", defArgs (top 24), defBody (top 24), defScope (top 24), [], []⟩,
  ⟨("next_best", none), "next_best", "next_best", defArgs (top 25), defBody (top 25), defScope (top 25), [], []⟩,
  ⟨("told_best", none), "told_best", "told_best", defArgs (top 26), defBody (top 26), defScope (top 26), [], []⟩,
  ⟨("best", none), "best", "best", defArgs (top 27), defBody (top 27), defScope (top 27), [], []⟩,
  ⟨("few_and_many", none), "few_and_many", "few_and_many", defArgs (top 28), defBody (top 28), defScope (top 28), [], []⟩,
  ⟨("always_best", none), "always_best", "always_best", defArgs (top 29), defBody (top 29), defScope (top 29), [], []⟩,
  ⟨("are_weights", none), "are_weights", "are_weights", defArgs (top 30), defBody (top 30), defScope (top 30), [], []⟩]
def fn1 : List He.DefD := [⟨("is_allowed", none), "is_allowed", "is_allowed", defArgs (top 31), defBody (top 31), defScope (top 31), [], []⟩,
  ⟨("shows_always_best", none), "shows_always_best", "shows_always_best", defArgs (top 32), defBody (top 32), defScope (top 32), [], []⟩,
  ⟨("_law_pot", none), "_law_pot", "_law_pot", defArgs (top 34), defBody (top 34), defScope (top 34), [], []⟩,
  ⟨("_law_take", none), "_law_take", "_law_take", defArgs (top 35), defBody (top 35), defScope (top 35), [], []⟩,
  ⟨("_law_of", none), "_law_of", "_law_of", defArgs (top 36), defBody (top 36), defScope (top 36), [], []⟩,
  ⟨("_law_places", none), "_law_places", "_law_places", defArgs (top 37), defBody (top 37), defScope (top 37), [], []⟩,
  ⟨("_law_lots", none), "_law_lots", "_law_lots", defArgs (top 38), defBody (top 38), defScope (top 38), [], []⟩,
  ⟨("_law_rank", none), "_law_rank", "_law_rank", defArgs (top 39), defBody (top 39), defScope (top 39), [], []⟩,
  ⟨("_law_is_free", none), "_law_is_free", "_law_is_free", defArgs (top 40), defBody (top 40), defScope (top 40), [], []⟩,
  ⟨("_law_best_of", none), "_law_best_of", "_law_best_of", defArgs (top 41), defBody (top 41), defScope (top 41), [], []⟩,
  ⟨("_law_loose_by", none), "_law_loose_by", "_law_loose_by", defArgs (top 42), defBody (top 42), defScope (top 42), [], []⟩,
  ⟨("_law_made", none), "_law_made", "_law_made", defArgs (top 43), defBody (top 43), defScope (top 43), [], []⟩,
  ⟨("_law_drawn_plain", none), "_law_drawn_plain", "_law_drawn_plain", defArgs (top 44), defBody (top 44), defScope (top 44), [], []⟩,
  ⟨("_law_weights", none), "_law_weights", "_law_weights", defArgs (top 45), defBody (top 45), defScope (top 45), [], []⟩,
  ⟨("_law_weighs", none), "_law_weighs", "_law_weighs", defArgs (top 46), defBody (top 46), defScope (top 46), [], []⟩,
  ⟨("_law_tops", none), "_law_tops", "_law_tops", defArgs (top 47), defBody (top 47), defScope (top 47), [], []⟩,
  ⟨("_law_heap", none), "_law_heap", "_law_heap", defArgs (top 48), defBody (top 48), defScope (top 48), [], []⟩,
  ⟨("_law_grown", none), "_law_grown", "_law_grown", defArgs (top 49), defBody (top 49), defScope (top 49), [], []⟩,
  ⟨("_law_share", none), "_law_share", "_law_share", defArgs (top 50), defBody (top 50), defScope (top 50), [], []⟩,
  ⟨("_law_right", none), "_law_right", "_law_right", defArgs (top 51), defBody (top 51), defScope (top 51), [], []⟩]
def fn2 : List He.DefD := [⟨("law", none), "law", "law", defArgs (top 52), defBody (top 52), defScope (top 52), [], []⟩]
def fn : List He.DefD := fn0 ++ fn1 ++ fn2
def fa0 : List He.Fa := [.glo "is_int", .glo "is_rising", .glo "is_lot", .glo "are_lots", .glo "bits_of", .glo "lot_of", .glo "can_go", .glo "told_stuck", .glo "is_choice", .glo "is_heap", .glo "look_at_heap", .glo "look_at_weights", .glo "weight_of", .glo "told_next", .glo "next_best", .glo "told_best", .glo "best", .glo "few_and_many", .glo "always_best", .glo "are_weights", .glo "is_allowed", .glo "shows_always_best", .glo "_law_pot", .glo "_law_take", .glo "_law_of", .glo "_law_places", .glo "_law_lots", .glo "_law_rank", .glo "_law_is_free", .glo "_law_best_of"]
def fa1 : List He.Fa := [.glo "_law_loose_by", .glo "_law_made", .glo "_law_drawn_plain", .glo "_law_weights", .glo "_law_weighs", .glo "_law_tops", .glo "_law_heap", .glo "_law_grown", .glo "_law_share", .glo "_law_right", .glo "law", .int "MOST_THINGS" 9, .int "MOST_WEIGHT" 1000, .str "CHOICE" "choice", .str "WEIGHTS" "weights", .free "abs", .free "all", .free "any", .free "bool", .free "enumerate", .free "int", .free "isinstance", .free "len", .free "list", .free "max", .free "min", .free "range", .free "set", .free "sorted", .free "str"]
def fa2 : List He.Fa := [.free "sum", .free "tuple", .free "zip"]
def fa : List He.Fa := fa0 ++ fa1 ++ fa2
def lo0 : List PySem.Str := ["BestError", "BadHeap", "BadWeights", "MOST_THINGS", "is_int", "is_rising", "is_lot", "are_lots", "bits_of", "lot_of", "can_go", "told_stuck", "is_choice", "MOST_WEIGHT", "CHOICE", "WEIGHTS", "is_heap", "look_at_heap", "look_at_weights", "weight_of", "told_next", "next_best", "told_best", "best", "few_and_many", "always_best", "are_weights", "is_allowed", "shows_always_best", "_law_pot"]
def lo1 : List PySem.Str := ["_law_take", "_law_of", "_law_places", "_law_lots", "_law_rank", "_law_is_free", "_law_best_of", "_law_loose_by", "_law_made", "_law_drawn_plain", "_law_weights", "_law_weighs", "_law_tops", "_law_heap", "_law_grown", "_law_share", "_law_right"]
def lo : List PySem.Str := lo0 ++ lo1
def tf : List He.Defn := [("told_next", none)]
def ex (K : PySem.W.Frag) : Bool := decide (tabsOf K = [((He.cT K ("told_next", none)).2, ("told_next" : Str) ++ ".<locals>." ++ "<lambda>")])
abbrev R : PySem.W.OpenRow := PySem.W.OpenLaw.row PySem.Challenge.rw_nextbest_k30_whole_how_far_the_next_best
abbrev hk : PySem.W.Hook := He.hookX 5 fa fn [] tf ex
def ob (s : PySem.W.SharedT) : He.AlX := He.obsX 5 fa fn [] tf ex (HandSHeadRun.getT s)
theorem ob_eq (s : PySem.W.SharedT) : ob s = hk.obs s.abs := He.obsX_eq (HandSHeadRun.getT_eq s)
theorem run (w : World) : HandSHeadRun.RunEq R (PySem.W.view R.prog [52]) hk ob 3000 lo w := by
  intro os
  kernel_rfl
theorem zf {K : PySem.W.Frag} {h base : Heap} {mg : Str → Option Value} {w : World} (X : K.In h) (G : h.Ns mainGlobals mg) (c : He.SaysX fa fn [] tf ex w h K) (TB : ∀ p ∈ tf.map (He.cT K), TabB base mg p.1 p.2) : Zf K mg base where
  d_is_int := c.t.d.def_ 0 rfl
  d_is_rising := c.t.d.def_ 1 rfl
  d_is_lot := c.t.d.def_ 2 rfl
  d_are_lots := c.t.d.def_ 3 rfl
  d_bits_of := c.t.d.def_ 4 rfl
  d_lot_of := c.t.d.def_ 5 rfl
  d_can_go := c.t.d.def_ 6 rfl
  d_told_stuck := c.t.d.def_ 7 rfl
  d_is_choice := c.t.d.def_ 8 rfl
  d_is_heap := c.t.d.def_ 9 rfl
  d_look_at_heap := c.t.d.def_ 10 rfl
  d_look_at_weights := c.t.d.def_ 11 rfl
  d_weight_of := c.t.d.def_ 12 rfl
  d_told_next := c.t.d.def_ 13 rfl
  d_next_best := c.t.d.def_ 14 rfl
  d_told_best := c.t.d.def_ 15 rfl
  d_best := c.t.d.def_ 16 rfl
  d_few_and_many := c.t.d.def_ 17 rfl
  d_always_best := c.t.d.def_ 18 rfl
  d_are_weights := c.t.d.def_ 19 rfl
  d_is_allowed := c.t.d.def_ 20 rfl
  d_shows_always_best := c.t.d.def_ 21 rfl
  d__law_pot := c.t.d.def_ 22 rfl
  d__law_take := c.t.d.def_ 23 rfl
  d__law_of := c.t.d.def_ 24 rfl
  d__law_places := c.t.d.def_ 25 rfl
  d__law_lots := c.t.d.def_ 26 rfl
  d__law_rank := c.t.d.def_ 27 rfl
  d__law_is_free := c.t.d.def_ 28 rfl
  d__law_best_of := c.t.d.def_ 29 rfl
  d__law_loose_by := c.t.d.def_ 30 rfl
  d__law_made := c.t.d.def_ 31 rfl
  d__law_drawn_plain := c.t.d.def_ 32 rfl
  d__law_weights := c.t.d.def_ 33 rfl
  d__law_weighs := c.t.d.def_ 34 rfl
  d__law_tops := c.t.d.def_ 35 rfl
  d__law_heap := c.t.d.def_ 36 rfl
  d__law_grown := c.t.d.def_ 37 rfl
  d__law_share := c.t.d.def_ 38 rfl
  d__law_right := c.t.d.def_ 39 rfl
  d_law := c.t.d.def_ 40 rfl
  g_is_int := He.glo_ok X G (c.t.d.fact 0 rfl)
  g_is_rising := He.glo_ok X G (c.t.d.fact 1 rfl)
  g_is_lot := He.glo_ok X G (c.t.d.fact 2 rfl)
  g_are_lots := He.glo_ok X G (c.t.d.fact 3 rfl)
  g_bits_of := He.glo_ok X G (c.t.d.fact 4 rfl)
  g_lot_of := He.glo_ok X G (c.t.d.fact 5 rfl)
  g_can_go := He.glo_ok X G (c.t.d.fact 6 rfl)
  g_told_stuck := He.glo_ok X G (c.t.d.fact 7 rfl)
  g_is_choice := He.glo_ok X G (c.t.d.fact 8 rfl)
  g_is_heap := He.glo_ok X G (c.t.d.fact 9 rfl)
  g_look_at_heap := He.glo_ok X G (c.t.d.fact 10 rfl)
  g_look_at_weights := He.glo_ok X G (c.t.d.fact 11 rfl)
  g_weight_of := He.glo_ok X G (c.t.d.fact 12 rfl)
  g_told_next := He.glo_ok X G (c.t.d.fact 13 rfl)
  g_next_best := He.glo_ok X G (c.t.d.fact 14 rfl)
  g_told_best := He.glo_ok X G (c.t.d.fact 15 rfl)
  g_best := He.glo_ok X G (c.t.d.fact 16 rfl)
  g_few_and_many := He.glo_ok X G (c.t.d.fact 17 rfl)
  g_always_best := He.glo_ok X G (c.t.d.fact 18 rfl)
  g_are_weights := He.glo_ok X G (c.t.d.fact 19 rfl)
  g_is_allowed := He.glo_ok X G (c.t.d.fact 20 rfl)
  g_shows_always_best := He.glo_ok X G (c.t.d.fact 21 rfl)
  g__law_pot := He.glo_ok X G (c.t.d.fact 22 rfl)
  g__law_take := He.glo_ok X G (c.t.d.fact 23 rfl)
  g__law_of := He.glo_ok X G (c.t.d.fact 24 rfl)
  g__law_places := He.glo_ok X G (c.t.d.fact 25 rfl)
  g__law_lots := He.glo_ok X G (c.t.d.fact 26 rfl)
  g__law_rank := He.glo_ok X G (c.t.d.fact 27 rfl)
  g__law_is_free := He.glo_ok X G (c.t.d.fact 28 rfl)
  g__law_best_of := He.glo_ok X G (c.t.d.fact 29 rfl)
  g__law_loose_by := He.glo_ok X G (c.t.d.fact 30 rfl)
  g__law_made := He.glo_ok X G (c.t.d.fact 31 rfl)
  g__law_drawn_plain := He.glo_ok X G (c.t.d.fact 32 rfl)
  g__law_weights := He.glo_ok X G (c.t.d.fact 33 rfl)
  g__law_weighs := He.glo_ok X G (c.t.d.fact 34 rfl)
  g__law_tops := He.glo_ok X G (c.t.d.fact 35 rfl)
  g__law_heap := He.glo_ok X G (c.t.d.fact 36 rfl)
  g__law_grown := He.glo_ok X G (c.t.d.fact 37 rfl)
  g__law_share := He.glo_ok X G (c.t.d.fact 38 rfl)
  g__law_right := He.glo_ok X G (c.t.d.fact 39 rfl)
  g_law := He.glo_ok X G (c.t.d.fact 40 rfl)
  n_abs := He.free_ok X G (c.t.d.fact 45 rfl)
  n_all := He.free_ok X G (c.t.d.fact 46 rfl)
  n_any := He.free_ok X G (c.t.d.fact 47 rfl)
  n_bool := He.free_ok X G (c.t.d.fact 48 rfl)
  n_enumerate := He.free_ok X G (c.t.d.fact 49 rfl)
  n_int := He.free_ok X G (c.t.d.fact 50 rfl)
  n_isinstance := He.free_ok X G (c.t.d.fact 51 rfl)
  n_len := He.free_ok X G (c.t.d.fact 52 rfl)
  n_list := He.free_ok X G (c.t.d.fact 53 rfl)
  n_max := He.free_ok X G (c.t.d.fact 54 rfl)
  n_min := He.free_ok X G (c.t.d.fact 55 rfl)
  n_range := He.free_ok X G (c.t.d.fact 56 rfl)
  n_set := He.free_ok X G (c.t.d.fact 57 rfl)
  n_sorted := He.free_ok X G (c.t.d.fact 58 rfl)
  n_str := He.free_ok X G (c.t.d.fact 59 rfl)
  n_sum := He.free_ok X G (c.t.d.fact 60 rfl)
  n_tuple := He.free_ok X G (c.t.d.fact 61 rfl)
  n_zip := He.free_ok X G (c.t.d.fact 62 rfl)
  c_MOST_THINGS := He.int_ok X G (c.t.d.fact 41 rfl)
  c_MOST_WEIGHT := He.int_ok X G (c.t.d.fact 42 rfl)
  c_CHOICE := He.str_ok X G (c.t.d.fact 43 rfl)
  c_WEIGHTS := He.str_ok X G (c.t.d.fact 44 rfl)
  tb_told_next := TB _ (List.mem_map.mpr ⟨("told_next", none), by simp [tf], rfl⟩)
  tabs := of_decide_eq_true c.more
end Hd
open PySem PySem.W PySem.Calls PyProof.Rows
theorem Hd.end_ (LT : ∀ (ns : List Int), ns.length ≤ 63 → (∀ z ∈ ns, Builtin.Int.intBits z ≤ 1048576) → ∀ d h, MX.ScrAt ns d h → ∃ h', Wk.F_law [d] h = some (.p (.bool true), h')) : PySem.Challenge.rw_nextbest_k30_whole_how_far_the_next_best.Holds := by
  w_on; o_law
  refine HandSHeadRun.head_any (r := OpenLaw.row PySem.Challenge.rw_nextbest_k30_whole_how_far_the_next_best) (q := view (OpenLaw.row PySem.Challenge.rw_nextbest_k30_whole_how_far_the_next_best).prog [52]) (H := Hd.hk) (ob := Hd.ob) (M := 3000) (loose := Hd.lo) (d := HandSHeadRun.topDef (OpenLaw.row PySem.Challenge.rw_nextbest_k30_whole_how_far_the_next_best).prog 52) (kwd := []) Hd.ob_eq
    (by kernel_rfl) (fun s => by kernel_rfl) Hd.run (by kernel_rfl) (by kernel_rfl) (by kernel_rfl) (by rfl) (by first | assumption | decide +kernel) (by decide +kernel) ⟨rfl, rfl, rfl, rfl, rfl, by decide +kernel⟩ ?hw ?hc
  case hw => w_witness2
  case hc =>
    refine LamX.walk_ofTsE (l := PySem.Challenge.rw_nextbest_k30_whole_how_far_the_next_best) (n := 63) (k := 8) (x := "script") (CX := fun _ => L2.CX0) rfl (by decide) (by kernel_rfl) ⟨rfl, by decide, by decide⟩ ?F (fun _ _ _ _ _ z => z)
    intro w mg fa h Y G hmg0
    obtain ⟨K, KX, c⟩ := Y
    have hmg : mg ("law" : PySem.Str) = some (.ref fa) := by
      have e : (HandSHeadRun.topDef (OpenLaw.row PySem.Challenge.rw_nextbest_k30_whole_how_far_the_next_best).prog 52).name = ("law" : PySem.Str) := by kernel_rfl
      rw [← e]
      exact hmg0
    obtain ⟨fd, D⟩ := c.t.d.def_ 40 rfl
    have ea := hmg.symm.trans (He.glo_ok KX G (c.t.d.fact 40 (f := .glo "law") rfl))
    cases ea
    have b := L2.FunD.bindsA (ps := ["script"]) D fun _ _ _ _ _ _ us hl => match us, hl with | [_], _ => rfl
    have hcs : ∀ p ∈ Hd.tf.map (He.cT K), ∃ q ∈ Hd.tf, He.cT K q = p := fun p hp => let ⟨q, h1, h2⟩ := List.mem_map.mp hp; ⟨q, h1, h2⟩
    refine ⟨K, KX, fd, Hd.tf.map (He.cT K), MX.spF K Wk.F_law, fun p hp => ?_, fun p hp => ?_, fun p hp => ?_, fun s v => b s [v] rfl, fun H a ns hl hb hT hS => ?_, fun base hK hG hTB => ?_⟩
    · obtain ⟨q, h1, h2⟩ := hcs p hp
      rw [← h2]
      exact c.empty q h1
    · obtain ⟨q, h1, h2⟩ := hcs p hp
      rw [← h2]
      exact c.out q h1
    · obtain ⟨q, h1, h2⟩ := hcs p hp
      rw [← h2]
      exact PySem.W.codeHd_of_K KX (c.hd q h1)
    · refine MX.law_sp (MX.tabs_nil fun p hp => ?_) hS (LT ns hl hb)
      have et : MX.tabsOf K = _ := of_decide_eq_true c.more
      rw [et] at hp
      have := hT
      simp only [Hd.tf, List.map_cons, List.map_nil, List.mem_cons, List.not_mem_nil, or_false, forall_eq, List.mem_singleton] at this hp
      first | (subst hp; exact this) | (exact absurd hp (by simp)) | (rcases hp with hp | hp <;> subst hp <;> simp_all)
    · obtain ⟨fd2, r⟩ := Wk.r_law (P := (PySem.Challenge.rw_nextbest_k30_whole_how_far_the_next_best).prog) (w := w) (Hd.zf KX G c hTB)
      rw [MX.lk_uniq (MX.funD_lk D) r.lk]
      exact r.ok
set_option maxHeartbeats 0 in
theorem PySem.Challenge.cw_nextbest_k30_whole_how_far_the_next_best_holds : PySem.Challenge.rw_nextbest_k30_whole_how_far_the_next_best.Holds := by
  exact Hd.end_ fun ns hz _ d h sc => Wk.e_law ns hz d h sc
