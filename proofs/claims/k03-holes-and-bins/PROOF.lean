import PyProof.Rows.All
import HandS.ForMost
import HandS.Exc
import HandS.Lambda
import HandS.HeadNt
import HandS.WordsExc
import HandS.Style
import HandS.TupAny
import HandS.TupMul
import HandS.Deep
import HandS.IsInst
import HandS.Conv
import HandS.SortInts
import HandS.SortRule
import HandS.Zip
import HandS.Walk
import HandS.Text
import HandS.SetFor
import HandS.Set
import PyProof.Rows.SetFrom
import KE.KExcSuper
import KE.KSuper
import HandS.ExcField
import HandS.Head0
import HandS.Head1
import HandS.Head2
import HandS.HeadEnd
import HandS.HeadHook1
import HandS.HeadHook2
import HandS.HeadHook3
import HandS.HeadHook4
import HandS.HeadWalk
import PySem.Challenge.RW_surebag_k03_whole_holes_and_bins
section
set_option Elab.async false
set_option linter.all false
set_option maxRecDepth 100000
set_option maxHeartbeats 4000000
/-! DLcore: data over the hand layer. -/
namespace DL
open PySem PySem.Spec PyProof.Rows L2

abbrev Sl := List (Option V)
/-! ### data -/
inductive D where
  | non | bl (b : Bool) | int (i : Int) | str (s : Str) | tup (ds : List D) | lst (ds : List D) | dct (ks : List (List Int)) | scr (ns : List Int)
deriving Inhabited

def dtOf (ks : List (List Int)) : List (List Key × V) := ks.map fun k => (k.map Sum.inl, V.bl true)

mutual
inductive Den (K : PySem.W.Frag) (F : Hp) : V → D → Prop
  | non : Den K F .non .non
  | bl (b : Bool) : Den K F (.bl b) (.bl b)
  | int (i : Int) : Den K F (.int i) (.int i)
  | str (s : Str) : Den K F (.str s) (.str s)
  | tup {a : Addr} {xs : List V} {ds : List D} : SqT K F a xs → DenL K F xs ds → Den K F (.ref a) (.tup ds)
  | lst {a : Addr} {xs : List V} {ds : List D} : F a = some (.lst xs) → DenL K F xs ds → Den K F (.ref a) (.lst ds)
  | scr {a : Addr} {ns : List Int} : SqL K F a (ns.map V.int) → Den K F (.ref a) (.scr ns)
  | dct {a : Addr} {ks : List (List Int)} : F a = some (.dT (dtOf ks)) → Den K F (.ref a) (.dct ks)
inductive DenL (K : PySem.W.Frag) (F : Hp) : List V → List D → Prop
  | nil : DenL K F [] []
  | cons {v : V} {vs : List V} {d : D} {ds : List D} : Den K F v d → DenL K F vs ds → DenL K F (v :: vs) (d :: ds)
end

/-- sub-heap -/
abbrev Le (F F' : Hp) : Prop := ∀ a o, F a = some o → F' a = some o
theorem Le.seqT {K : PySem.W.Frag} {F F' : Hp} (e : Le F F') {a : Addr} {xs : List V} (h : SqT K F a xs) : SqT K F' a xs := by
  rcases h with (h | ⟨o, h⟩) | h
  · exact .inl (.inl (e _ _ h))
  · exact .inl (.inr ⟨o, e _ _ h⟩)
  · exact .inr h
theorem Le.seqL {K : PySem.W.Frag} {F F' : Hp} (e : Le F F') {a : Addr} {xs : List V} (h : SqL K F a xs) : SqL K F' a xs := by
  rcases h with (h | ⟨o, h⟩) | h
  · exact .inl (.inl (e _ _ h))
  · exact .inl (.inr ⟨o, e _ _ h⟩)
  · exact .inr h
mutual
theorem Den.mono {K : PySem.W.Frag} {F F' : Hp} (e : Le F F') : ∀ {v : V} {d : D}, Den K F v d → Den K F' v d
  | _, _, .non => .non
  | _, _, .bl b => .bl b
  | _, _, .int i => .int i
  | _, _, .str s => .str s
  | _, _, .tup h l => .tup (e.seqT h) (DenL.mono e l)
  | _, _, .lst h l => .lst (e _ _ h) (DenL.mono e l)
  | _, _, .scr h => .scr (e.seqL h)
  | _, _, .dct h => .dct (e _ _ h)
theorem DenL.mono {K : PySem.W.Frag} {F F' : Hp} (e : Le F F') : ∀ {vs : List V} {ds : List D}, DenL K F vs ds → DenL K F' vs ds
  | _, _, .nil => .nil
  | _, _, .cons h l => .cons (Den.mono e h) (DenL.mono e l)
end
section
variable {K : PySem.W.Frag} {F : Hp}
theorem DenL.length : ∀ {vs : List V} {ds : List D}, DenL K F vs ds → vs.length = ds.length
  | _, _, .nil => rfl
  | _, _, .cons _ l => by simp [DenL.length l]
theorem DenL.get : ∀ {vs : List V} {ds : List D} {i : Nat} {d : D}, DenL K F vs ds → ds[i]? = some d → ∃ v, vs[i]? = some v ∧ Den K F v d
  | _, _, _, _, .nil, e => by simp at e
  | _, _, 0, _, .cons h _, e => by simp at e; subst e; exact ⟨_, rfl, h⟩
  | _, _, i + 1, d, .cons _ l, e => by
    obtain ⟨v, h1, h2⟩ := DenL.get (i := i) (d := d) l (by simpa using e)
    exact ⟨v, by simpa using h1, h2⟩
theorem DenL.getV : ∀ {vs : List V} {ds : List D} {i : Nat} {v : V}, DenL K F vs ds → vs[i]? = some v → ∃ d, ds[i]? = some d ∧ Den K F v d
  | _, _, _, _, .nil, e => by simp at e
  | _, _, 0, _, .cons h _, e => by simp at e; subst e; exact ⟨_, rfl, h⟩
  | _, _, i + 1, d, .cons _ l, e => by
    obtain ⟨v, h1, h2⟩ := DenL.getV (i := i) (v := d) l (by simpa using e)
    exact ⟨v, by simpa using h1, h2⟩
theorem DenL.append : ∀ {vs us : List V} {ds es : List D}, DenL K F vs ds → DenL K F us es → DenL K F (vs ++ us) (ds ++ es)
  | _, _, _, _, .nil, r => r
  | _, _, _, _, .cons h l, r => .cons h (DenL.append l r)
theorem DenL.set {v : V} {d : D} (h : Den K F v d) : ∀ {vs : List V} {ds : List D} (i : Nat), DenL K F vs ds → DenL K F (vs.set i v) (ds.set i d)
  | _, _, _, .nil => .nil
  | _, _, 0, .cons _ l => .cons h l
  | _, _, i + 1, .cons q l => .cons q (DenL.set h i l)
theorem DenL.take : ∀ {vs : List V} {ds : List D} (n : Nat), DenL K F vs ds → DenL K F (vs.take n) (ds.take n)
  | _, _, 0, _ => .nil
  | _, _, _ + 1, .nil => .nil
  | _, _, n + 1, .cons h l => .cons h (DenL.take n l)
theorem DenL.drop : ∀ {vs : List V} {ds : List D} (n : Nat), DenL K F vs ds → DenL K F (vs.drop n) (ds.drop n)
  | _, _, 0, r => r
  | _, _, _ + 1, .nil => .nil
  | _, _, n + 1, .cons _ l => DenL.drop n l
theorem DenL.reverse : ∀ {vs : List V} {ds : List D}, DenL K F vs ds → DenL K F vs.reverse ds.reverse
  | _, _, .nil => .nil
  | _, _, .cons h l => by
    rw [List.reverse_cons, List.reverse_cons]
    exact DenL.append (DenL.reverse l) (.cons h .nil)
theorem DenL.rep {vs : List V} {ds : List D} (h : DenL K F vs ds) : ∀ k : Nat, DenL K F (List.replicate k vs).flatten (List.replicate k ds).flatten
  | 0 => .nil
  | k + 1 => by
    rw [List.replicate_succ, List.replicate_succ, List.flatten_cons, List.flatten_cons]
    exact DenL.append h (DenL.rep h k)
theorem DenL.ints : ∀ {vs : List V} {ns : List Int}, DenL K F vs (ns.map D.int) → vs = ns.map V.int
  | _, [], .nil => rfl
  | _, n :: ns, .cons h l => by
    cases h
    rw [DenL.ints l]; rfl
theorem DenL.of_ints : ∀ (ns : List Int), DenL K F (ns.map V.int) (ns.map D.int)
  | [] => .nil
  | n :: ns => .cons (.int n) (DenL.of_ints ns)
theorem DenL.bls : ∀ {vs : List V} {ns : List Bool}, DenL K F vs (ns.map D.bl) → vs = ns.map V.bl
  | _, [], .nil => rfl
  | _, n :: ns, .cons h l => by
    cases h
    rw [DenL.bls l]; rfl
theorem DenL.strs : ∀ {vs : List V} {ns : List Str}, DenL K F vs (ns.map D.str) → vs = ns.map V.str
  | _, [], .nil => rfl
  | _, n :: ns, .cons h l => by
    cases h
    rw [DenL.strs l]; rfl
theorem DenL.of_strs : ∀ (ns : List Str), DenL K F (ns.map V.str) (ns.map D.str)
  | [] => .nil
  | n :: ns => .cons (.str n) (DenL.of_strs ns)
end

/-! ### slots, mutable objects -/
inductive S where
  | un | d (x : D) | m (i : Nat)
deriving Inhabited
inductive MO where
  | ml (ds : List D) | md (ks : List (List Int))
deriving Inhabited
/-- errors: BadArgument(name), BadText(place) -/
inductive Ex where
  | arg (x : D) | txt (x : D)
inductive ER where
  | ok (s : S) (μ : List MO) | ex (x : Ex) (μ : List MO)
inductive AR where
  | ok (ss : List S) (μ : List MO) | ex (x : Ex) (μ : List MO)
inductive BR where
  | ok (b : Bool) (μ : List MO) | ex (x : Ex) (μ : List MO)
inductive IR where
  | ok (items : List D) (μ : List MO) | ex (x : Ex) (μ : List MO)
inductive SR where
  | nx (ρ : List S) (μ : List MO) | ret (s : S) (μ : List MO) | bk (ρ : List S) (μ : List MO) | ct (ρ : List S) (μ : List MO) | ex (x : Ex) (μ : List MO)
abbrev EF := List S → List MO → Option ER
abbrev AF := List S → List MO → Option AR
abbrev BF := List S → List MO → Option BR
abbrev IF := List S → List MO → Option IR
abbrev SF := List S → List MO → Option SR
abbrev GF := List S → List MO → Option ER
abbrev TF := D → List S → Option (List S)

/-- the tables of code objects; the classes of the errors -/
structure Wd where
  T : List (Addr × Str)
  CA : Addr
  CT : Addr
def Ex.cls (W : Wd) : Ex → Addr
  | .arg _ => W.CA
  | .txt _ => W.CT
def Ex.fld : Ex → Str
  | .arg _ => "name"
  | .txt _ => "place"
def Ex.val : Ex → D
  | .arg x => x
  | .txt x => x

def MOk (K : PySem.W.Frag) (F H : Hp) (a : Addr) : MO → Prop
  | .ml ds => ∃ xs, H a = some (.lst xs) ∧ DenL K F xs ds
  | .md ks => H a = some (.dT (dtOf ks))
structure Rep (K : PySem.W.Frag) (W : Wd) (F : Hp) (L : List Addr) (μ : List MO) (H : Hp) : Prop where
  sub : Le F H
  ft : ∀ a ps, F a ≠ some (.tbl ps)
  tabs : LamX.Tabs W.T H
  nd : L.Nodup
  len : L.length = μ.length
  nf : ∀ a ∈ L, F a = none
  obj : ∀ (i : Nat) (a : Addr) (o : MO), L[i]? = some a → μ[i]? = some o → MOk K F H a o
def DenS (K : PySem.W.Frag) (F : Hp) (L : List Addr) (v : V) : S → Prop
  | .un => True
  | .d x => Den K F v x
  | .m i => ∃ a, L[i]? = some a ∧ v = .ref a
inductive DenSs (K : PySem.W.Frag) (F : Hp) (L : List Addr) : List V → List S → Prop
  | nil : DenSs K F L [] []
  | cons {v : V} {vs : List V} {s : S} {ss : List S} : DenS K F L v s → DenSs K F L vs ss → DenSs K F L (v :: vs) (s :: ss)
def SlotOk (K : PySem.W.Frag) (F : Hp) (L : List Addr) (o : Option V) : S → Prop
  | .un => True
  | s => ∃ v, o = some v ∧ DenS K F L v s
inductive SlotsOk (K : PySem.W.Frag) (F : Hp) (L : List Addr) : List S → Sl → Prop
  | nil : SlotsOk K F L [] []
  | cons {s : S} {ρ : List S} {o : Option V} {σ : Sl} : SlotOk K F L o s → SlotsOk K F L ρ σ → SlotsOk K F L (s :: ρ) (o :: σ)
/-- something stands there, no table -/
def Al (H : Hp) (b : Addr) : Prop := ∃ o, H b = some o ∧ ∀ ps, o ≠ .tbl ps
theorem Al.no {H : Hp} {b : Addr} (h : H b = none) : ¬ Al H b := fun ⟨o, e, _⟩ => by rw [h] at e; cases e
structure Ext (F H : Hp) (L : List Addr) (F' H' : Hp) (L' : List Addr) : Prop where
  ff : Le F F'
  hh : ∀ b o, H b = some o → b ∉ L → (∀ ps, o ≠ .tbl ps) → H' b = some o
  dom : ∀ b, Al H b → Al H' b
  fr : ∀ a, Al H a → F a = none → F' a = none
  lp : ∃ N, L' = L ++ N ∧ ∀ a ∈ N, ¬ Al H a

section
variable {K : PySem.W.Frag} {W : Wd} {F F1 F2 H H1 H2 : Hp} {L L1 L3 : List Addr}
theorem Ext.refl : Ext F H L F H L := ⟨fun _ _ h => h, fun _ _ h _ _ => h, fun _ h => h, fun _ _ h => h, ⟨[], by simp, by simp⟩⟩
theorem Ext.trans (a : Ext F H L F1 H1 L1) (b : Ext F1 H1 L1 F2 H2 L3) : Ext F H L F2 H2 L3 := by
  obtain ⟨N1, e1, n1⟩ := a.lp
  obtain ⟨N2, e2, n2⟩ := b.lp
  refine ⟨fun x o h => b.ff x o (a.ff x o h), fun c o h hc ht => ?_, fun c h => b.dom c (a.dom c h), fun c h hf => b.fr c (a.dom c h) (a.fr c h hf), ⟨N1 ++ N2, by rw [e2, e1, List.append_assoc], fun c hc => ?_⟩⟩
  · refine b.hh c o (a.hh c o h hc ht) (fun z => ?_) ht
    rw [e1] at z
    rcases List.mem_append.mp z with z | z
    · exact hc z
    · exact n1 c z ⟨o, h, ht⟩
  · rcases List.mem_append.mp hc with z | z
    · exact n1 c z
    · exact fun q => n2 c z (a.dom c q)
theorem DenS.mono (e : Ext F H L F1 H1 L1) {v : V} : ∀ {s : S}, DenS K F L v s → DenS K F1 L1 v s
  | .un, h => h
  | .d x, h => Den.mono e.ff h
  | .m i, ⟨a, h1, h2⟩ => by
    obtain ⟨N, e1, _⟩ := e.lp
    refine ⟨a, ?_, h2⟩
    rw [e1]
    obtain ⟨hlt, hv⟩ := List.getElem?_eq_some_iff.mp h1
    rw [List.getElem?_append_left hlt]; exact h1
theorem DenSs.mono (e : Ext F H L F1 H1 L1) : ∀ {vs : List V} {ss : List S}, DenSs K F L vs ss → DenSs K F1 L1 vs ss
  | _, _, .nil => .nil
  | _, _, .cons h l => .cons (h.mono e) (DenSs.mono e l)
theorem SlotOk.mono (e : Ext F H L F1 H1 L1) {o : Option V} : ∀ {s : S}, SlotOk K F L o s → SlotOk K F1 L1 o s
  | .un, _ => trivial
  | .d x, ⟨v, h1, h2⟩ => ⟨v, h1, h2.mono e⟩
  | .m i, ⟨v, h1, h2⟩ => ⟨v, h1, h2.mono e⟩
theorem SlotsOk.mono (e : Ext F H L F1 H1 L1) : ∀ {ρ : List S} {σ : Sl}, SlotsOk K F L ρ σ → SlotsOk K F1 L1 ρ σ
  | _, _, .nil => .nil
  | _, _, .cons h l => .cons (h.mono e) (SlotsOk.mono e l)
theorem SlotsOk.length : ∀ {ρ : List S} {σ : Sl}, SlotsOk K F L ρ σ → ρ.length = σ.length
  | _, _, .nil => rfl
  | _, _, .cons _ l => by simp [SlotsOk.length l]
theorem SlotsOk.get : ∀ {ρ : List S} {σ : Sl} {i : Nat} {s : S}, SlotsOk K F L ρ σ → ρ[i]? = some s → s ≠ .un → ∃ v, σ[i]? = some (some v) ∧ DenS K F L v s
  | _, _, _, _, .nil, e, _ => by simp at e
  | _, _, 0, s, .cons (s := s0) h _, e, hn => by
    have e : s0 = s := by simpa using e
    subst e
    cases s0 with
    | un => exact absurd rfl hn
    | d x => obtain ⟨v, rfl, h2⟩ := h; exact ⟨v, rfl, h2⟩
    | m i => obtain ⟨v, rfl, h2⟩ := h; exact ⟨v, rfl, h2⟩
  | _, _, i + 1, s, .cons _ l, e, hn => by
    obtain ⟨v, h1, h2⟩ := SlotsOk.get (i := i) (s := s) l (by simpa using e) hn
    exact ⟨v, by simpa using h1, h2⟩
theorem SlotOk.of {v : V} : ∀ {s : S}, DenS K F L v s → SlotOk K F L (some v) s
  | .un, _ => trivial
  | .d _, h => ⟨v, rfl, h⟩
  | .m _, h => ⟨v, rfl, h⟩
theorem SlotsOk.set {v : V} {s : S} (h : DenS K F L v s) : ∀ {ρ : List S} {σ : Sl} (i : Nat), SlotsOk K F L ρ σ → SlotsOk K F L (ρ.set i s) (σ.set i (some v))
  | _, _, _, .nil => .nil
  | _, _, 0, .cons _ l => .cons (SlotOk.of h) l
  | _, _, i + 1, .cons q l => .cons q (SlotsOk.set h i l)
theorem SlotsOk.setUn {o : Option V} : ∀ {ρ : List S} {σ : Sl} (i : Nat), SlotsOk K F L ρ σ → SlotsOk K F L (ρ.set i .un) (σ.set i o)
  | _, _, _, .nil => .nil
  | _, _, 0, .cons _ l => .cons trivial l
  | _, _, i + 1, .cons q l => .cons q (SlotsOk.setUn i l)
def startS (n : Nat) (ss : List S) : List S := ss ++ List.replicate (n - ss.length) .un
theorem DenSs.length : ∀ {vs : List V} {ss : List S}, DenSs K F L vs ss → vs.length = ss.length
  | _, _, .nil => rfl
  | _, _, .cons _ l => by simp [DenSs.length l]
theorem SlotsOk.args : ∀ {vs : List V} {ss : List S}, DenSs K F L vs ss → SlotsOk K F L ss (vs.map some)
  | _, _, .nil => .nil
  | _, _, .cons h l => .cons (SlotOk.of h) (SlotsOk.args l)
theorem SlotsOk.append : ∀ {ρ ρ' : List S} {σ σ' : Sl}, SlotsOk K F L ρ σ → SlotsOk K F L ρ' σ' → SlotsOk K F L (ρ ++ ρ') (σ ++ σ')
  | _, _, _, _, .nil, r => r
  | _, _, _, _, .cons h l, r => .cons h (SlotsOk.append l r)
theorem SlotsOk.uns : ∀ n : Nat, SlotsOk K F L (List.replicate n .un) (List.replicate n none)
  | 0 => .nil
  | n + 1 => .cons trivial (SlotsOk.uns n)
theorem SlotsOk.start {N : List Str} {vs : List V} {ss : List S} (h : DenSs K F L vs ss) : SlotsOk K F L (startS N.length ss) (_root_.L2.start N vs) := by
  unfold startS _root_.L2.start
  rw [h.length]
  exact SlotsOk.append (SlotsOk.args h) (SlotsOk.uns _)

/-! ### new objects, changes -/
theorem Rep.free (R : Rep K W F L μ H) {p : Addr} (hp : H p = none) : F p = none := by
  cases e : F p with
  | none => rfl
  | some o => rw [R.sub p o e] at hp; cases hp
theorem Rep.notL {μ : List MO} (R : Rep K W F L μ H) {p : Addr} (hp : H p = none) : p ∉ L := fun hm => by
  obtain ⟨i, hi, e⟩ := List.mem_iff_getElem.mp hm
  have h1 : L[i]? = some p := by rw [List.getElem?_eq_getElem hi, e]
  have hi2 : i < μ.length := by rw [← R.len]; exact hi
  have q := R.obj i p μ[i] h1 (by rw [List.getElem?_eq_getElem hi2])
  cases hm2 : μ[i] with
  | ml ds => rw [hm2] at q; obtain ⟨xs, q, _⟩ := q; rw [hp] at q; cases q
  | md ks => rw [hm2] at q; have q : H p = some _ := q; rw [hp] at q; cases q
theorem le_upd {p : Addr} {o : HO} (hp : F p = none) : Le F (upd F p o) := fun a u e => by rw [upd_ne (ne_of_none e hp)]; exact e
theorem MOk.mono {a : Addr} {F' H' : Hp} (e : Le F F') (h : ∀ u, H a = some u → H' a = some u) : ∀ {o : MO}, MOk K F H a o → MOk K F' H' a o
  | .ml ds, ⟨xs, q, l⟩ => ⟨xs, h _ q, DenL.mono e l⟩
  | .md ks, q => h _ q
/-- a new object, frozen -/
theorem Rep.newF {μ : List MO} (R : Rep K W F L μ H) {p : Addr} (hp : H p = none) {o : HO} (ho : ∀ ps, o ≠ .tbl ps) : Rep K W (upd F p o) L μ (upd H p o) where
  sub := fun a u e => by
    by_cases hb : a = p
    · subst hb; rw [upd_same] at e ⊢; exact e
    · rw [upd_ne hb] at e ⊢; exact R.sub a u e
  ft := fun a ps e => by
    by_cases hb : a = p
    · subst hb; rw [upd_same] at e; exact ho ps (Option.some.inj e)
    · rw [upd_ne hb] at e; exact R.ft a ps e
  tabs := R.tabs.ext (le_upd hp)
  nd := R.nd
  len := R.len
  nf := fun a ha => by
    rw [upd_ne (show a ≠ p from fun z => R.notL hp (by rw [← z]; exact ha))]
    exact R.nf a ha
  obj := fun i a u e1 e2 => (R.obj i a u e1 e2).mono (le_upd (R.free hp)) fun z hz => by rw [upd_ne (ne_of_none hz hp)]; exact hz
theorem Al.up {H : Hp} {b p : Addr} {o : HO} (h : Al H b) (hp : H p = none) : Al (upd H p o) b := by
  obtain ⟨u, e, n⟩ := h
  exact ⟨u, by rw [upd_ne (ne_of_none e hp)]; exact e, n⟩
theorem ext_newF {μ : List MO} (R : Rep K W F L μ H) {p : Addr} (hp : H p = none) {o : HO} : Ext F H L (upd F p o) (upd H p o) L :=
  ⟨le_upd (R.free hp), fun b u e _ _ => by rw [upd_ne (ne_of_none e hp)]; exact e, fun b hb => hb.up hp, fun a ha hf => by
      rw [upd_ne (show a ≠ p from fun z => by subst z; exact Al.no hp ha)]
      exact hf, ⟨[], by simp, by simp⟩⟩
/-- a new object, mutable -/
theorem Rep.newM {μ : List MO} (R : Rep K W F L μ H) {p : Addr} (hp : H p = none) {o : HO} {m : MO} (ho : ∀ ps, o ≠ .tbl ps) (hm : MOk K F (upd H p o) p m) : Rep K W F (L ++ [p]) (μ ++ [m]) (upd H p o) where
  sub := fun a u e => by rw [upd_ne (ne_of_none (R.sub a u e) hp)]; exact R.sub a u e
  ft := R.ft
  tabs := R.tabs.ext (le_upd hp)
  nd := by
    rw [List.nodup_append]
    refine ⟨R.nd, by simp, fun a ha b hb => ?_⟩
    have : b = p := by simpa using hb
    subst this
    exact fun z => R.notL hp (z ▸ ha)
  len := by simp [R.len]
  nf := fun a ha => by
    rcases List.mem_append.mp ha with z | z
    · exact R.nf a z
    · have : a = p := by simpa using z
      subst this; exact R.free hp
  obj := fun i a u e1 e2 => by
    by_cases hi : i < L.length
    · rw [List.getElem?_append_left hi] at e1
      rw [List.getElem?_append_left (by rw [← R.len]; exact hi)] at e2
      exact (R.obj i a u e1 e2).mono (fun _ _ h => h) fun z hz => by rw [upd_ne (ne_of_none hz hp)]; exact hz
    · rw [List.getElem?_append_right (by omega)] at e1
      rw [List.getElem?_append_right (by rw [← R.len]; omega)] at e2
      rw [← R.len] at e2
      generalize i - L.length = j at e1 e2
      cases j with
      | zero => simp at e1 e2; subst e1 e2; exact hm
      | succ j => simp at e1
theorem ext_newM {μ : List MO} (R : Rep K W F L μ H) {p : Addr} (hp : H p = none) {o : HO} : Ext F H L F (upd H p o) (L ++ [p]) :=
  ⟨fun _ _ h => h, fun b u e _ _ => by rw [upd_ne (ne_of_none e hp)]; exact e, fun b hb => hb.up hp, fun a ha hf => hf, ⟨[p], rfl, fun a ha => by
      have : a = p := by simpa using ha
      subst this; exact Al.no hp⟩⟩
/-- the tables stand under a change of a list or dict -/
theorem tabs_upd {T : List (Addr × Str)} {p : Addr} {u o : HO} (t : LamX.Tabs T H) (hp : H p = some u) (h1 : ∀ ps, u ≠ .tbl ps) (h2 : ∀ c q, u ≠ LamX.CodeO c q) : LamX.Tabs T (upd H p o) := fun x hx => by
  obtain ⟨ps, a1, a2, a3⟩ := t x hx
  refine ⟨ps, by rw [upd_ne (fun z => h1 ps (by rw [← z, a1] at hp; exact (Option.some.inj hp).symm))]; exact a1, a2, fun pos cv hc => ?_⟩
  obtain ⟨c, e1, e2⟩ := a3 pos cv hc
  exact ⟨c, e1, by rw [upd_ne (fun z => h2 c x.2 (by rw [← z, e2] at hp; exact (Option.some.inj hp).symm))]; exact e2⟩
theorem Rep.setM {μ : List MO} (R : Rep K W F L μ H) {i : Nat} {p : Addr} {u o : HO} {m : MO} (hi : L[i]? = some p) (hp : H p = some u) (h1 : ∀ ps, u ≠ .tbl ps) (h2 : ∀ c q, u ≠ LamX.CodeO c q) (hm : MOk K F (upd H p o) p m) : Rep K W F L (μ.set i m) (upd H p o) where
  sub := fun a v e => by
    have hpl : p ∈ L := List.mem_of_getElem? hi
    have : a ≠ p := fun z => by rw [z, R.nf p hpl] at e; cases e
    rw [upd_ne this]; exact R.sub a v e
  ft := R.ft
  tabs := tabs_upd R.tabs hp h1 h2
  nd := R.nd
  len := by simp [R.len]
  nf := R.nf
  obj := fun j a v e1 e2 => by
    by_cases hj : j = i
    · subst hj
      rw [hi] at e1; cases e1
      have hlt : j < μ.length := by
        rw [← R.len]; exact (List.getElem?_eq_some_iff.mp hi).1
      rw [List.getElem?_set_self hlt] at e2
      cases e2; exact hm
    · rw [List.getElem?_set_ne (Ne.symm hj)] at e2
      have : a ≠ p := fun z => by
        subst z
        obtain ⟨l1, v1⟩ := List.getElem?_eq_some_iff.mp e1
        obtain ⟨l2, v2⟩ := List.getElem?_eq_some_iff.mp hi
        exact hj ((List.getElem_inj R.nd).mp (v1.trans v2.symm))
      exact (R.obj j a v e1 e2).mono (fun _ _ h => h) fun z hz => by rw [upd_ne this]; exact hz
theorem ext_setM {μ : List MO} (R : Rep K W F L μ H) {i : Nat} {p : Addr} {o : HO} (hi : L[i]? = some p) (ho : ∀ ps, o ≠ .tbl ps) : Ext F H L F (upd H p o) L :=
  have hpl : p ∈ L := List.mem_of_getElem? hi
  ⟨fun _ _ h => h, fun b u e hb _ => by
    rw [upd_ne (show b ≠ p from fun z => hb (by rw [z]; exact hpl))]
    exact e, fun b hb => by
    by_cases h : b = p
    · subst h; exact ⟨o, upd_same, ho⟩
    · obtain ⟨u, e, n⟩ := hb
      exact ⟨u, by rw [upd_ne h]; exact e, n⟩, fun a ha hf => hf, ⟨[], by simp, by simp⟩⟩
end
end DL
end

section
set_option Elab.async false
set_option linter.all false
set_option maxRecDepth 100000
set_option maxHeartbeats 4000000
/-! DLexpr: expressions, tests, arguments, statements as functions on data. -/
namespace DL
open PySem PySem.Spec PyProof.Rows L2

/-! ### posts -/
def PostX (K : PySem.W.Frag) (W : Wd) (E : XK) (F : Hp) (L : List Addr) (H : Hp) (x : Ex) (μ' : List MO) : Prop :=
  ∀ v d F' H' L', Ext F H L F' H' L' → Rep K W F' L' μ' H' → H' d = some (.xd [(x.fld, v)]) → Den K F' v x.val → E (.ref (x.cls W)) (some d) H'
def PostE (K : PySem.W.Frag) (W : Wd) (E : XK) (F : Hp) (L : List Addr) (H : Hp) (r : ER) (Q : VK) : Prop := match r with
  | .ok s μ' => ∀ v F' H' L', Ext F H L F' H' L' → Rep K W F' L' μ' H' → DenS K F' L' v s → s ≠ .un → Q v H'
  | .ex x μ' => PostX K W E F L H x μ'
def PostA (K : PySem.W.Frag) (W : Wd) (E : XK) (F : Hp) (L : List Addr) (H : Hp) (r : AR) (Q : List V → Hp → Prop) : Prop := match r with
  | .ok ss μ' => ∀ vs F' H' L', Ext F H L F' H' L' → Rep K W F' L' μ' H' → DenSs K F' L' vs ss → Q vs H'
  | .ex x μ' => PostX K W E F L H x μ'
def PostB (K : PySem.W.Frag) (W : Wd) (E : XK) (F : Hp) (L : List Addr) (H : Hp) (r : BR) (Q : Bool → Hp → Prop) : Prop := match r with
  | .ok b μ' => ∀ F' H' L', Ext F H L F' H' L' → Rep K W F' L' μ' H' → Q b H'
  | .ex x μ' => PostX K W E F L H x μ'
def ItemAt (K : PySem.W.Frag) (F : Hp) (H : Hp) (x : V) (H' : Hp) (d : D) : Prop :=
  (H' = H ∧ Den K F x d) ∨ ∃ T ys ds, x = .ref T ∧ H T = none ∧ H' = upd H T (.tup ys) ∧ d = .tup ds ∧ DenL K F ys ds
def WalkD (K : PySem.W.Frag) (F : Hp) (J : It) (items : List D) : Prop :=
  ∀ H, Le F H → (∀ i, i < items.length → J.go i H) ∧ J.stop items.length H ∧ ∀ i x H' d, items[i]? = some d → J.yld i H x H' → ItemAt K F H x H' d
def PostI (K : PySem.W.Frag) (W : Wd) (E : XK) (F : Hp) (L : List Addr) (H : Hp) (r : IR) (R : It → Hp → Prop) : Prop := match r with
  | .ok items μ' => ∀ J F' H' L', Ext F H L F' H' L' → Rep K W F' L' μ' H' → WalkD K F' J items → R J H'
  | .ex x μ' => PostX K W E F L H x μ'
def PostS (K : PySem.W.Frag) (W : Wd) (E : XK) (F : Hp) (L : List Addr) (H : Hp) (r : SR) (D : Ends) : Prop := match r with
  | .nx ρ' μ' => ∀ σ' F' H' L', Ext F H L F' H' L' → Rep K W F' L' μ' H' → SlotsOk K F' L' ρ' σ' → D.nx σ' H'
  | .bk ρ' μ' => ∀ σ' F' H' L', Ext F H L F' H' L' → Rep K W F' L' μ' H' → SlotsOk K F' L' ρ' σ' → D.bk σ' H'
  | .ct ρ' μ' => ∀ σ' F' H' L', Ext F H L F' H' L' → Rep K W F' L' μ' H' → SlotsOk K F' L' ρ' σ' → D.ct σ' H'
  | .ret s μ' => ∀ v F' H' L', Ext F H L F' H' L' → Rep K W F' L' μ' H' → DenS K F' L' v s → s ≠ .un → D.rt v H'
  | .ex x μ' => PostX K W E F L H x μ'

section
variable {K : PySem.W.Frag} {W : Wd} {E : XK} {F F1 H H1 : Hp} {L L1 : List Addr}
theorem PostX.mono {x : Ex} {μ' : List MO} (e : Ext F H L F1 H1 L1) (h : PostX K W E F L H x μ') : PostX K W E F1 L1 H1 x μ' := fun v d F' H' L' e' => h v d F' H' L' (e.trans e')
theorem PostE.mono {r : ER} {Q : VK} (e : Ext F H L F1 H1 L1) (h : PostE K W E F L H r Q) : PostE K W E F1 L1 H1 r Q := by
  cases r with
  | ok s μ => exact fun v F' H' L' e' => h v F' H' L' (e.trans e')
  | ex x μ => exact PostX.mono e h
theorem PostA.mono {r : AR} {Q : List V → Hp → Prop} (e : Ext F H L F1 H1 L1) (h : PostA K W E F L H r Q) : PostA K W E F1 L1 H1 r Q := by
  cases r with
  | ok s μ => exact fun v F' H' L' e' => h v F' H' L' (e.trans e')
  | ex x μ => exact PostX.mono e h
theorem PostB.mono {r : BR} {Q : Bool → Hp → Prop} (e : Ext F H L F1 H1 L1) (h : PostB K W E F L H r Q) : PostB K W E F1 L1 H1 r Q := by
  cases r with
  | ok s μ => exact fun F' H' L' e' => h F' H' L' (e.trans e')
  | ex x μ => exact PostX.mono e h
theorem PostI.mono {r : IR} {R : It → Hp → Prop} (e : Ext F H L F1 H1 L1) (h : PostI K W E F L H r R) : PostI K W E F1 L1 H1 r R := by
  cases r with
  | ok s μ => exact fun J F' H' L' e' => h J F' H' L' (e.trans e')
  | ex x μ => exact PostX.mono e h
theorem PostS.mono {r : SR} {D : Ends} (e : Ext F H L F1 H1 L1) (h : PostS K W E F L H r D) : PostS K W E F1 L1 H1 r D := by
  cases r with
  | nx s μ => exact fun v F' H' L' e' => h v F' H' L' (e.trans e')
  | bk s μ => exact fun v F' H' L' e' => h v F' H' L' (e.trans e')
  | ct s μ => exact fun v F' H' L' e' => h v F' H' L' (e.trans e')
  | ret s μ => exact fun v F' H' L' e' => h v F' H' L' (e.trans e')
  | ex x μ => exact PostX.mono e h
theorem WalkD.mono {J : It} {items : List D} (e : Le F F1) (h : WalkD K F J items) : WalkD K F1 J items := fun H hl => by
  obtain ⟨h1, h2, h3⟩ := h H fun a o q => hl a o (e a o q)
  refine ⟨h1, h2, fun i x H' d hd y => ?_⟩
  rcases h3 i x H' d hd y with ⟨e1, e2⟩ | ⟨T, ys, ds, e1, e2, e3, e4, e5⟩
  · exact .inl ⟨e1, e2.mono e⟩
  · exact .inr ⟨T, ys, ds, e1, e2, e3, e4, e5.mono e⟩
end

/-! ### the readings made of functions -/
def tOf (K : PySem.W.Frag) (W : Wd) (E : XK) (f : EF) : TE := fun σ H Q => ∃ F L μ ρ r, Rep K W F L μ H ∧ SlotsOk K F L ρ σ ∧ f ρ μ = some r ∧ PostE K W E F L H r Q
def aOf (K : PySem.W.Frag) (W : Wd) (E : XK) (f : AF) : TA := fun σ H Q => ∃ F L μ ρ r, Rep K W F L μ H ∧ SlotsOk K F L ρ σ ∧ f ρ μ = some r ∧ PostA K W E F L H r Q
def bOf (K : PySem.W.Frag) (W : Wd) (E : XK) (f : BF) : TT := fun σ H Q => ∃ F L μ ρ r, Rep K W F L μ H ∧ SlotsOk K F L ρ σ ∧ f ρ μ = some r ∧ PostB K W E F L H r Q
def iOf (K : PySem.W.Frag) (W : Wd) (E : XK) (f : IF) : TI := fun σ H R => ∃ F L μ ρ r, Rep K W F L μ H ∧ SlotsOk K F L ρ σ ∧ f ρ μ = some r ∧ PostI K W E F L H r R
def sOf (K : PySem.W.Frag) (W : Wd) (E : XK) (f : SF) : TS := fun D σ H => ∃ F L μ ρ r, Rep K W F L μ H ∧ SlotsOk K F L ρ σ ∧ f ρ μ = some r ∧ PostS K W E F L H r D
def gOf (K : PySem.W.Frag) (W : Wd) (h : TF) : TG := fun v σ H Q => ∃ F L μ ρ d ρ', Rep K W F L μ H ∧ SlotsOk K F L ρ σ ∧ Den K F v d ∧ h d ρ = some ρ' ∧ ∀ σ', SlotsOk K F L ρ' σ' → Q σ' H
def gsOf (K : PySem.W.Frag) (W : Wd) (h : List D → List S → Option (List S)) : TGs := fun vs σ H Q => ∃ F L μ ρ ds ρ', Rep K W F L μ H ∧ SlotsOk K F L ρ σ ∧ DenL K F vs ds ∧ h ds ρ = some ρ' ∧ ∀ σ', SlotsOk K F L ρ' σ' → Q σ' H

section
variable {X : Cx} {W : Wd} {E : XK}
theorem PE.weak {e : Expr} {t t' : TE} (h : PE X e t) (w : ∀ σ H Q, t' σ H Q → t σ H Q) : PE X e t' := ⟨fun pins s σ H Q I q => h.run pins s σ H Q I (w σ H Q q)⟩
theorem PT.weak {e : Expr} {t t' : TT} (h : PT X e t) (w : ∀ σ H Q, t' σ H Q → t σ H Q) : PT X e t' := ⟨fun pins s σ H Q I q => h.run pins s σ H Q I (w σ H Q q)⟩
theorem PW.weak {e : Expr} {t t' : TT} (h : PW X e t) (w : ∀ σ H Q, t' σ H Q → t σ H Q) : PW X e t' := ⟨fun wh pins s σ H Q I q => h.run wh pins s σ H Q I (w σ H Q q)⟩
theorem PA.weak {es : List Expr} {t t' : TA} (h : PA X es t) (w : ∀ σ H Q, t' σ H Q → t σ H Q) : PA X es t' := ⟨fun pos pins s σ H Q I q => h.run pos pins s σ H Q I (w σ H Q q)⟩
theorem PI.weak {tg e : Expr} {t t' : TI} (h : PI X tg e t) (w : ∀ σ H Q, t' σ H Q → t σ H Q) : PI X tg e t' := ⟨fun pins s σ H Q I q => h.run pins s σ H Q I (w σ H Q q)⟩
theorem PS.weak {e : Stmt} {t t' : TS} (h : PS X e t) (w : ∀ D σ H, t' D σ H → t D σ H) : PS X e t' := ⟨fun pins s σ H D I q => h.run pins s σ H D I (w D σ H q)⟩
theorem PSs.weak {e : List Stmt} {t t' : TS} (h : PSs X e t) (w : ∀ D σ H, t' D σ H → t D σ H) : PSs X e t' := ⟨fun pins s σ H D I q => h.run pins s σ H D I (w D σ H q)⟩
theorem PG.weak {e : Expr} {t t' : TG} (h : PG X e t) (w : ∀ v σ H Q, t' v σ H Q → t v σ H Q) : PG X e t' := ⟨fun pins s σ H v u Q I r q => h.run pins s σ H v u Q I r (w v σ H Q q)⟩
theorem PGs.weak {e : List Expr} {t t' : TGs} (h : PGs X e t) (w : ∀ v σ H Q, t' v σ H Q → t v σ H Q) : PGs X e t' := ⟨fun pins s σ H v u Q I r q => h.run pins s σ H v u Q I r (w v σ H Q q)⟩

/-! ### sequencing -/
def bE (r : Option ER) (k : S → List MO → Option ER) : Option ER := match r with
  | some (.ok s μ) => k s μ
  | some (.ex x μ) => some (.ex x μ)
  | none => none
def bA (r : Option AR) (k : List S → List MO → Option ER) : Option ER := match r with
  | some (.ok s μ) => k s μ
  | some (.ex x μ) => some (.ex x μ)
  | none => none
variable {K : PySem.W.Frag} {σ : Sl} {H : Hp}
/-- run the first, then what follows -/
theorem tOf_then {α : Type} {fa : EF} {F : Hp} {L : List Addr} {μ : List MO} {ρ : List S} {Q1 : VK} (hr : Rep K W F L μ H) (hs : SlotsOk K F L ρ σ)
    {sel : Option ER} (hsel : fa ρ μ = sel) 
    (hok : ∀ s μ1, sel = some (.ok s μ1) → ∀ v F1 H1 L1, Ext F H L F1 H1 L1 → Rep K W F1 L1 μ1 H1 → DenS K F1 L1 v s → s ≠ .un → Q1 v H1)
    (hex : ∀ x μ1, sel = some (.ex x μ1) → PostX K W E F L H x μ1) (hn : sel ≠ none) : tOf K W E fa σ H Q1 := by
  subst hsel
  cases e : fa ρ μ with
  | none => exact absurd e hn
  | some r =>
    refine ⟨F, L, μ, ρ, r, hr, hs, e, ?_⟩
    cases r with
    | ok s μ1 => exact hok s μ1 e
    | ex x μ1 => exact hex x μ1 e
/-- an operator by values -/
abbrev G2 := S → S → List MO → Option ER
def Op2 (K : PySem.W.Frag) (W : Wd) (E : XK) (r : R2) (g : G2) : Prop :=
  ∀ F L μ H x y s u res Q, Rep K W F L μ H → DenS K F L x s → DenS K F L y u → g s u μ = some res → PostE K W E F L H res Q → r x y H Q
def e2 (g : G2) (fa fb : EF) : EF := fun ρ μ => bE (fa ρ μ) fun s μ1 => bE (fb ρ μ1) fun u μ2 => g s u μ2
theorem tOp_of {r : R2} {g : G2} {fa fb : EF} (ho : Op2 K W E r g) {σ : Sl} {H : Hp} {Q : VK} (h : tOf K W E (e2 g fa fb) σ H Q) : tOp r (tOf K W E fa) (tOf K W E fb) σ H Q := by
  obtain ⟨F, L, μ, ρ, res, hr, hs, hf, hp⟩ := h
  unfold e2 bE at hf
  show tOf K W E fa σ H fun x H1 => tOf K W E fb σ H1 fun y H2 => r x y H2 Q
  cases ea : fa ρ μ with
  | none => rw [ea] at hf; cases hf
  | some ra =>
    rw [ea] at hf
    refine ⟨F, L, μ, ρ, ra, hr, hs, ea, ?_⟩
    cases ra with
    | ex x μ1 => cases hf; exact hp
    | ok s μ1 =>
      intro x F1 H1 L1 e1 r1 d1 n1
      have hs1 := hs.mono e1
      simp only at hf
      cases eb : fb ρ μ1 with
      | none => rw [eb] at hf; cases hf
      | some rb =>
        rw [eb] at hf
        refine ⟨F1, L1, μ1, ρ, rb, r1, hs1, eb, ?_⟩
        cases rb with
        | ex x μ2 => cases hf; exact PostX.mono e1 hp
        | ok u μ2 =>
          intro y F2 H2 L2 e2 r2 d2 n2
          exact ho F2 L2 μ2 H2 x y s u res Q r2 (d1.mono e2) d2 hf (hp.mono (e1.trans e2))
theorem q_op {op : Operator} {r : R2} {g : G2} {a b : Expr} {fa fb : EF} {pos : Pos} (ho : OpR X (binaryOp op) r) (hg : Op2 X.K W E r g) (ha : PE X a (tOf X.K W E fa)) (hb : PE X b (tOf X.K W E fb)) : PE X (.BinOp a op b pos) (tOf X.K W E (e2 g fa fb)) :=
  PE.weak (pe_op ho ha hb) fun _ _ _ h => tOp_of hg h
theorem q_cmp {op : CmpOp} {r : R2} {g : G2} {a b : Expr} {fa fb : EF} {pos : Pos} (ho : OpR X (compareOp op) r) (hg : Op2 X.K W E r g) (ha : PE X a (tOf X.K W E fa)) (hb : PE X b (tOf X.K W E fb)) (hm : behindInMarks op b = false) : PE X (.Compare a [op] [b] pos) (tOf X.K W E (e2 g fa fb)) :=
  PE.weak (pe_cmpR ho ha hb hm) fun _ _ _ h => tOp_of hg h

/-! ### names, constants -/
def eV (i : Nat) : EF := fun ρ μ => match ρ[i]? with
  | some (.d x) => some (.ok (.d x) μ)
  | some (.m j) => some (.ok (.m j) μ)
  | _ => none
theorem q_v (i : Nat) {x : Str} {pos : Pos} (hN : X.N[i]? = some x := by rfl) (hv : Vis X.env.scope x := by first | exact Or.inl rfl | exact Or.inr (Or.inl rfl) | exact Or.inr (Or.inr rfl)) (hd : (x == ("__debug__" : Str)) = false := by decide)
    (hcd : (x == ("__classdict__" : Str)) = false := by decide) : PE X (.Name x pos) (tOf X.K W E (eV i)) := by
  refine PE.weak (pe_var hN hv hd hcd) fun σ H Q h => ?_
  obtain ⟨F, L, μ, ρ, r, hr, hs, hf, hp⟩ := h
  unfold eV at hf
  split at hf
  · rename_i z e
    cases hf
    obtain ⟨v, h1, h2⟩ := hs.get e (by simp)
    exact ⟨v, h1, hp v F H L .refl hr h2 (by simp)⟩
  · rename_i z e
    cases hf
    obtain ⟨v, h1, h2⟩ := hs.get e (by simp)
    exact ⟨v, h1, hp v F H L .refl hr h2 (by simp)⟩
  · cases hf
def eC (d : D) : EF := fun _ μ => some (.ok (.d d) μ)
theorem tC_of {v : V} {d : D} (hd : ∀ K F, Den K F v d) {σ : Sl} {H : Hp} {Q : VK} (h : tOf K W E (eC d) σ H Q) : tC v σ H Q := by
  obtain ⟨F, L, μ, ρ, r, hr, hs, hf, hp⟩ := h
  cases hf
  exact hp v F H L .refl hr (hd K F) (by simp)
theorem q_int {i : Int} {j pos} : PE X (.Constant (.int i) j pos) (tOf X.K W E (eC (.int i))) := PE.weak pe_int fun _ _ _ h => tC_of (fun _ _ => .int i) h
theorem q_bl {b : Bool} {j pos} : PE X (.Constant (.bool b) j pos) (tOf X.K W E (eC (.bl b))) := PE.weak pe_bl fun _ _ _ h => tC_of (fun _ _ => .bl b) h
theorem q_non {j pos} : PE X (.Constant .none j pos) (tOf X.K W E (eC .non)) := PE.weak pe_non fun _ _ _ h => tC_of (fun _ _ => .non) h
theorem q_str {x : Str} {j pos} : PE X (.Constant (.str x) j pos) (tOf X.K W E (eC (.str x))) := PE.weak pe_str fun _ _ _ h => tC_of (fun _ _ => .str x) h
theorem q_gint {x : Str} {i : Int} {pos : Pos} (hm : ∃ t, X.mg x = some (.int i t)) (hg : Gl X x := by rfl) (hd : (x == ("__debug__" : Str)) = false := by decide) : PE X (.Name x pos) (tOf X.K W E (eC (.int i))) := by
  obtain ⟨t, hm⟩ := hm
  exact PE.weak (pe_glob (v := .int i) hg hm ⟨t, rfl⟩ hd) fun _ _ _ h => tC_of (fun _ _ => .int i) h
theorem q_gstr {x : Str} {i : Str} {pos : Pos} (hm : ∃ t, X.mg x = some (.str i t)) (hg : Gl X x := by rfl) (hd : (x == ("__debug__" : Str)) = false := by decide) : PE X (.Name x pos) (tOf X.K W E (eC (.str i))) := by
  obtain ⟨t, hm⟩ := hm
  exact PE.weak (pe_glob (v := .str i) hg hm ⟨t, rfl⟩ hd) fun _ _ _ h => tC_of (fun _ _ => .str i) h

/-! ### tests -/
def bB (r : Option BR) (k : Bool → List MO → Option ER) : Option ER := match r with
  | some (.ok b μ) => k b μ
  | some (.ex x μ) => some (.ex x μ)
  | none => none
def bBB (r : Option BR) (k : Bool → List MO → Option BR) : Option BR := match r with
  | some (.ok b μ) => k b μ
  | some (.ex x μ) => some (.ex x μ)
  | none => none
def toB (r : Option ER) : Option BR := match r with
  | some (.ok (.d (.bl b)) μ) => some (.ok b μ)
  | some (.ex x μ) => some (.ex x μ)
  | _ => none
def tst (f : EF) : BF := fun ρ μ => toB (f ρ μ)
theorem tTest_of {t : TE} {f : EF} (ht : ∀ σ H Q, tOf K W E f σ H Q → t σ H Q) {σ : Sl} {H : Hp} {Q : Bool → Hp → Prop} (h : bOf K W E (tst f) σ H Q) : tTest t σ H Q := by
  obtain ⟨F, L, μ, ρ, res, hr, hs, hf, hp⟩ := h
  refine ht σ H _ ?_
  unfold tst toB at hf
  cases ea : f ρ μ with
  | none => rw [ea] at hf; cases hf
  | some ra =>
    rw [ea] at hf
    refine ⟨F, L, μ, ρ, ra, hr, hs, ea, ?_⟩
    cases ra with
    | ex x μ1 => cases hf; exact hp
    | ok s μ1 =>
      intro x F1 H1 L1 e1 r1 d1 n1
      cases s with
      | un => cases hf
      | m i => cases hf
      | d y =>
        cases y with
        | bl b =>
          cases hf
          cases d1
          exact ⟨b, rfl, hp F1 H1 L1 e1 r1⟩
        | _ => cases hf
theorem qt_cmp {op : CmpOp} {r : R2} {g : G2} {a b : Expr} {fa fb : EF} {pos : Pos} (ho : OpR X (compareOp op) r) (hg : Op2 X.K W E r g) (ha : PE X a (tOf X.K W E fa)) (hb : PE X b (tOf X.K W E fb)) (hm : behindInMarks op b = false) : PT X (.Compare a [op] [b] pos) (bOf X.K W E (tst (e2 g fa fb))) :=
  PT.weak (pt_cmpR ho ha hb hm) fun _ _ _ h => tTest_of (fun _ _ _ h => tOp_of hg h) h
theorem qt_val {e : Expr} {f : EF} (h : PE X e (tOf X.K W E f)) (he : ∀ whole, isTrue e X.env whole = (do let v ← whole; standAt e.pos; holding [v] (truthy v)) := by intro _; rfl) : PT X e (bOf X.K W E (tst f)) :=
  PT.weak (pt_val h he) fun _ _ _ h => tTest_of (fun _ _ _ h => h) h
theorem bOf_cases {f : BF} {σ : Sl} {H : Hp} {F : Hp} {L : List Addr} {μ : List MO} {ρ : List S} {Q : Bool → Hp → Prop} (hr : Rep K W F L μ H) (hs : SlotsOk K F L ρ σ)
    {r : BR} (hf : f ρ μ = some r) (hok : ∀ b μ1, r = .ok b μ1 → ∀ F1 H1 L1, Ext F H L F1 H1 L1 → Rep K W F1 L1 μ1 H1 → Q b H1) (hex : ∀ x μ1, r = .ex x μ1 → PostX K W E F L H x μ1) : bOf K W E f σ H Q := by
  refine ⟨F, L, μ, ρ, r, hr, hs, hf, ?_⟩
  cases r with
  | ok b μ1 => exact hok b μ1 rfl
  | ex x μ1 => exact hex x μ1 rfl
def bNot (f : BF) : BF := fun ρ μ => bBB (f ρ μ) fun b μ => some (.ok (!b) μ)
def bAnd (f g : BF) : BF := fun ρ μ => bBB (f ρ μ) fun b μ => match b with | true => g ρ μ | false => some (.ok false μ)
def bOr (f g : BF) : BF := fun ρ μ => bBB (f ρ μ) fun b μ => match b with | true => some (.ok true μ) | false => g ρ μ
theorem tNot_of {f : BF} {σ : Sl} {H : Hp} {Q : Bool → Hp → Prop} (h : bOf K W E (bNot f) σ H Q) : tNot (bOf K W E f) σ H Q := by
  obtain ⟨F, L, μ, ρ, res, hr, hs, hf, hp⟩ := h
  unfold bNot bBB at hf
  show bOf K W E f σ H _
  cases ea : f ρ μ with
  | none => rw [ea] at hf; cases hf
  | some ra =>
    rw [ea] at hf
    refine ⟨F, L, μ, ρ, ra, hr, hs, ea, ?_⟩
    cases ra with
    | ex x μ1 => cases hf; exact hp
    | ok b μ1 => cases hf; exact fun F1 H1 L1 e1 r1 => hp F1 H1 L1 e1 r1
theorem tAnd_of {f g : BF} {σ : Sl} {H : Hp} {Q : Bool → Hp → Prop} (h : bOf K W E (bAnd f g) σ H Q) : tAnd (bOf K W E f) (bOf K W E g) σ H Q := by
  obtain ⟨F, L, μ, ρ, res, hr, hs, hf, hp⟩ := h
  unfold bAnd bBB at hf
  show bOf K W E f σ H _
  cases ea : f ρ μ with
  | none => rw [ea] at hf; cases hf
  | some ra =>
    rw [ea] at hf
    refine ⟨F, L, μ, ρ, ra, hr, hs, ea, ?_⟩
    cases ra with
    | ex x μ1 => cases hf; exact hp
    | ok b μ1 =>
      intro F1 H1 L1 e1 r1
      cases b with
      | true => exact iteT ⟨F1, L1, μ1, ρ, res, r1, hs.mono e1, hf, hp.mono e1⟩
      | false => cases hf; exact iteF (hp F1 H1 L1 e1 r1)
theorem tOr_of {f g : BF} {σ : Sl} {H : Hp} {Q : Bool → Hp → Prop} (h : bOf K W E (bOr f g) σ H Q) : tOr (bOf K W E f) (bOf K W E g) σ H Q := by
  obtain ⟨F, L, μ, ρ, res, hr, hs, hf, hp⟩ := h
  unfold bOr bBB at hf
  show bOf K W E f σ H _
  cases ea : f ρ μ with
  | none => rw [ea] at hf; cases hf
  | some ra =>
    rw [ea] at hf
    refine ⟨F, L, μ, ρ, ra, hr, hs, ea, ?_⟩
    cases ra with
    | ex x μ1 => cases hf; exact hp
    | ok b μ1 =>
      intro F1 H1 L1 e1 r1
      cases b with
      | true => cases hf; exact iteT (hp F1 H1 L1 e1 r1)
      | false => exact iteF ⟨F1, L1, μ1, ρ, res, r1, hs.mono e1, hf, hp.mono e1⟩
theorem qt_not {a : Expr} {f : BF} {pos : Pos} (ha : PT X a (bOf X.K W E f)) : PT X (.UnaryOp .Not a pos) (bOf X.K W E (bNot f)) := PT.weak (pt_not ha) fun _ _ _ h => tNot_of h
theorem qw_and1 {a : Expr} {f : BF} {pos : Pos} (ha : PT X a (bOf X.K W E f)) : PW X (.BoolOp .And [a] pos) (bOf X.K W E f) := pw_and1 ha
theorem qw_or1 {a : Expr} {f : BF} {pos : Pos} (ha : PT X a (bOf X.K W E f)) : PW X (.BoolOp .Or [a] pos) (bOf X.K W E f) := pw_or1 ha
theorem qw_and {a b : Expr} {rest : List Expr} {f g : BF} {pos : Pos} (ha : PT X a (bOf X.K W E f)) (hb : PW X (.BoolOp .And (b :: rest) pos) (bOf X.K W E g)) : PW X (.BoolOp .And (a :: b :: rest) pos) (bOf X.K W E (bAnd f g)) := PW.weak (pw_and ha hb) fun _ _ _ h => tAnd_of h
theorem qw_or {a b : Expr} {rest : List Expr} {f g : BF} {pos : Pos} (ha : PT X a (bOf X.K W E f)) (hb : PW X (.BoolOp .Or (b :: rest) pos) (bOf X.K W E g)) : PW X (.BoolOp .Or (a :: b :: rest) pos) (bOf X.K W E (bOr f g)) := PW.weak (pw_or ha hb) fun _ _ _ h => tOr_of h
/-- as values (bools) -/
def asB (r : Option ER) (k : Bool → List MO → Option ER) : Option ER := match r with
  | some (.ok (.d (.bl b)) μ) => k b μ
  | some (.ex x μ) => some (.ex x μ)
  | _ => none
def eAnd (f g : EF) : EF := fun ρ μ => asB (f ρ μ) fun b μ => match b with | true => g ρ μ | false => some (.ok (.d (.bl false)) μ)
def eOr (f g : EF) : EF := fun ρ μ => asB (f ρ μ) fun b μ => match b with | true => some (.ok (.d (.bl true)) μ) | false => g ρ μ
def eNot (f : EF) : EF := fun ρ μ => asB (f ρ μ) fun b μ => some (.ok (.d (.bl (!b))) μ)
theorem asB_ok {f : EF} {σ : Sl} {H : Hp} {F : Hp} {L : List Addr} {μ : List MO} {ρ : List S} {Q : VK} {k : Bool → List MO → Option ER} {res : ER} (hr : Rep K W F L μ H) (hs : SlotsOk K F L ρ σ)
    (hf : asB (f ρ μ) k = some res) (hp : PostE K W E F L H res Q) {R : Bool → Hp → Prop}
    (hk : ∀ b μ1 F1 H1 L1, k b μ1 = some res → Ext F H L F1 H1 L1 → Rep K W F1 L1 μ1 H1 → PostE K W E F1 L1 H1 res Q → R b H1) : tOf K W E f σ H fun x H1 => ∃ c, x = .bl c ∧ R c H1 := by
  unfold asB at hf
  cases ea : f ρ μ with
  | none => rw [ea] at hf; cases hf
  | some ra =>
    rw [ea] at hf
    refine ⟨F, L, μ, ρ, ra, hr, hs, ea, ?_⟩
    cases ra with
    | ex x μ1 => cases hf; exact hp
    | ok s μ1 =>
      intro x F1 H1 L1 e1 r1 d1 n1
      cases s with
      | un => cases hf
      | m i => cases hf
      | d y =>
        cases y with
        | bl b => cases d1; exact ⟨b, rfl, hk b μ1 F1 H1 L1 hf e1 r1 (hp.mono e1)⟩
        | _ => cases hf
theorem q_one {op} {a : Expr} {f : EF} {pos : Pos} (h : PE X a (tOf X.K W E f)) : PE X (.BoolOp op [a] pos) (tOf X.K W E f) := pe_one h
theorem q_and {a b : Expr} {rest : List Expr} {f g : EF} {pos : Pos} (ha : PE X a (tOf X.K W E f)) (hb : PE X (.BoolOp .And (b :: rest) pos) (tOf X.K W E g)) : PE X (.BoolOp .And (a :: b :: rest) pos) (tOf X.K W E (eAnd f g)) := by
  refine PE.weak (pe_and ha hb) fun σ H Q h => ?_
  obtain ⟨F, L, μ, ρ, res, hr, hs, hf, hp⟩ := h
  refine asB_ok hr hs hf hp fun b μ1 F1 H1 L1 hk e1 r1 p1 => ?_
  cases b with
  | true => exact iteT ⟨F1, L1, μ1, ρ, res, r1, hs.mono e1, hk, p1⟩
  | false => cases hk; exact iteF (p1 _ F1 H1 L1 .refl r1 (.bl false) (by simp))
theorem q_or {a b : Expr} {rest : List Expr} {f g : EF} {pos : Pos} (ha : PE X a (tOf X.K W E f)) (hb : PE X (.BoolOp .Or (b :: rest) pos) (tOf X.K W E g)) : PE X (.BoolOp .Or (a :: b :: rest) pos) (tOf X.K W E (eOr f g)) := by
  refine PE.weak (pe_or ha hb) fun σ H Q h => ?_
  obtain ⟨F, L, μ, ρ, res, hr, hs, hf, hp⟩ := h
  refine asB_ok hr hs hf hp fun b μ1 F1 H1 L1 hk e1 r1 p1 => ?_
  cases b with
  | true => cases hk; exact iteT (p1 _ F1 H1 L1 .refl r1 (.bl true) (by simp))
  | false => exact iteF ⟨F1, L1, μ1, ρ, res, r1, hs.mono e1, hk, p1⟩
theorem q_not {a : Expr} {f : EF} {pos : Pos} (ha : PE X a (tOf X.K W E f)) : PE X (.UnaryOp .Not a pos) (tOf X.K W E (eNot f)) := by
  refine PE.weak (pe_not ha) fun σ H Q h => ?_
  obtain ⟨F, L, μ, ρ, res, hr, hs, hf, hp⟩ := h
  refine asB_ok hr hs hf hp fun b μ1 F1 H1 L1 hk e1 r1 p1 => ?_
  cases hk
  exact p1 _ F1 H1 L1 .refl r1 (.bl _) (by simp)
/-- a if t else b -/
def eIf (c : BF) (f g : EF) : EF := fun ρ μ => bB (c ρ μ) fun b μ => match b with | true => f ρ μ | false => g ρ μ
theorem q_if {c a b : Expr} {fc : BF} {f g : EF} {pos : Pos} (hc : PT X c (bOf X.K W E fc)) (ha : PE X a (tOf X.K W E f)) (hb : PE X b (tOf X.K W E g)) : PE X (.IfExp c a b pos) (tOf X.K W E (eIf fc f g)) := by
  refine PE.weak (pe_ifExp hc ha hb) fun σ H Q h => ?_
  obtain ⟨F, L, μ, ρ, res, hr, hs, hf, hp⟩ := h
  unfold eIf bB at hf
  show bOf X.K W E fc σ H _
  cases ea : fc ρ μ with
  | none => rw [ea] at hf; cases hf
  | some ra =>
    rw [ea] at hf
    refine ⟨F, L, μ, ρ, ra, hr, hs, ea, ?_⟩
    cases ra with
    | ex x μ1 => cases hf; exact hp
    | ok b μ1 =>
      intro F1 H1 L1 e1 r1
      cases b with
      | true => exact iteT ⟨F1, L1, μ1, ρ, res, r1, hs.mono e1, hf, hp.mono e1⟩
      | false => exact iteF ⟨F1, L1, μ1, ρ, res, r1, hs.mono e1, hf, hp.mono e1⟩

/-! ### arguments -/
def aNil : AF := fun _ μ => some (.ok [] μ)
def aCons (f : EF) (g : AF) : AF := fun ρ μ => match f ρ μ with
  | some (.ok s μ1) => (match g ρ μ1 with
    | some (.ok ss μ2) => some (.ok (s :: ss) μ2)
    | some (.ex x μ2) => some (.ex x μ2)
    | none => none)
  | some (.ex x μ1) => some (.ex x μ1)
  | none => none
theorem qa_nil : PA X [] (aOf X.K W E aNil) := PA.weak pa_nil fun σ H Q h => by
  obtain ⟨F, L, μ, ρ, res, hr, hs, hf, hp⟩ := h
  cases hf
  exact hp [] F H L .refl hr .nil
theorem tCons_of {f : EF} {g : AF} {σ : Sl} {H : Hp} {Q : List V → Hp → Prop} (h : aOf K W E (aCons f g) σ H Q) : tCons (tOf K W E f) (aOf K W E g) σ H Q := by
  obtain ⟨F, L, μ, ρ, res, hr, hs, hf, hp⟩ := h
  unfold aCons at hf
  show tOf K W E f σ H fun x H1 => aOf K W E g σ H1 fun xs H2 => Q (x :: xs) H2
  cases ea : f ρ μ with
  | none => rw [ea] at hf; cases hf
  | some ra =>
    rw [ea] at hf
    refine ⟨F, L, μ, ρ, ra, hr, hs, ea, ?_⟩
    cases ra with
    | ex x μ1 => cases hf; exact hp
    | ok s μ1 =>
      intro x F1 H1 L1 e1 r1 d1 n1
      simp only at hf
      cases eb : g ρ μ1 with
      | none => rw [eb] at hf; cases hf
      | some rb =>
        rw [eb] at hf
        refine ⟨F1, L1, μ1, ρ, rb, r1, hs.mono e1, eb, ?_⟩
        cases rb with
        | ex x μ2 => cases hf; exact PostX.mono e1 hp
        | ok ss μ2 =>
          cases hf
          intro xs F2 H2 L2 e2 r2 d2
          exact hp (x :: xs) F2 H2 L2 (e1.trans e2) r2 (.cons (d1.mono e2) d2)
theorem qa_cons {e : Expr} {es : List Expr} {f : EF} {g : AF} (ha : PE X e (tOf X.K W E f)) (hr : PA X es (aOf X.K W E g)) (hs : starEach (e :: es) X.env = (false, eval e X.env) :: starEach es X.env := by rfl) : PA X (e :: es) (aOf X.K W E (aCons f g)) :=
  PA.weak (pa_cons ha hr hs) fun _ _ _ h => tCons_of h
/-- keyword arguments' values -/
theorem qk_nil : PK X [] (aOf X.K W E aNil) := ⟨fun pos pins s σ H Q I h => pk_nil.run pos pins s σ H Q I (by
  obtain ⟨F, L, μ, ρ, res, hr, hs, hf, hp⟩ := h
  cases hf
  exact hp [] F H L .refl hr .nil)⟩
theorem qk_cons {e : Expr} {kws : List Keyword} {nm : Option Str} {kpos : Pos} {f : EF} {g : AF} (ha : PE X e (tOf X.K W E f)) (hr : PK X kws (aOf X.K W E g)) : PK X (⟨nm, e, kpos⟩ :: kws) (aOf X.K W E (aCons f g)) :=
  ⟨fun pos pins s σ H Q I h => (pk_cons ha hr).run pos pins s σ H Q I (tCons_of h)⟩
/-- the arguments, all data -/
def bAE (r : Option AR) (k : List S → List MO → Option ER) : Option ER := match r with
  | some (.ok ss μ) => k ss μ
  | some (.ex x μ) => some (.ex x μ)
  | none => none
theorem aOf_ok {f : AF} {σ : Sl} {H : Hp} {F : Hp} {L : List Addr} {μ : List MO} {ρ : List S} {Q : VK} {k : List S → List MO → Option ER} {res : ER} (hr : Rep K W F L μ H) (hs : SlotsOk K F L ρ σ)
    (hf : bAE (f ρ μ) k = some res) (hp : PostE K W E F L H res Q) {R : List V → Hp → Prop}
    (hk : ∀ ss vs μ1 F1 H1 L1, k ss μ1 = some res → Ext F H L F1 H1 L1 → Rep K W F1 L1 μ1 H1 → DenSs K F1 L1 vs ss → PostE K W E F1 L1 H1 res Q → R vs H1) : aOf K W E f σ H R := by
  unfold bAE at hf
  cases ea : f ρ μ with
  | none => rw [ea] at hf; cases hf
  | some ra =>
    rw [ea] at hf
    refine ⟨F, L, μ, ρ, ra, hr, hs, ea, ?_⟩
    cases ra with
    | ex x μ1 => cases hf; exact hp
    | ok ss μ1 => exact fun vs F1 H1 L1 e1 r1 d1 => hk ss vs μ1 F1 H1 L1 hf e1 r1 d1 (hp.mono e1)
theorem tOf_ok {f : EF} {σ : Sl} {H : Hp} {F : Hp} {L : List Addr} {μ : List MO} {ρ : List S} {Q : VK} {k : S → List MO → Option ER} {res : ER} (hr : Rep K W F L μ H) (hs : SlotsOk K F L ρ σ)
    (hf : bE (f ρ μ) k = some res) (hp : PostE K W E F L H res Q) {R : VK}
    (hk : ∀ s v μ1 F1 H1 L1, k s μ1 = some res → Ext F H L F1 H1 L1 → Rep K W F1 L1 μ1 H1 → DenS K F1 L1 v s → PostE K W E F1 L1 H1 res Q → R v H1) : tOf K W E f σ H R := by
  unfold bE at hf
  cases ea : f ρ μ with
  | none => rw [ea] at hf; cases hf
  | some ra =>
    rw [ea] at hf
    refine ⟨F, L, μ, ρ, ra, hr, hs, ea, ?_⟩
    cases ra with
    | ex x μ1 => cases hf; exact hp
    | ok ss μ1 => exact fun vs F1 H1 L1 e1 r1 d1 _ => hk ss vs μ1 F1 H1 L1 hf e1 r1 d1 (hp.mono e1)

/-! ### displays, new lists -/
def allD : List S → Option (List D)
  | [] => some []
  | .d x :: r => (allD r).map (x :: ·)
  | _ :: _ => none
theorem DenSs.data {F : Hp} {L : List Addr} : ∀ {ss : List S} {ds : List D} {vs : List V}, allD ss = some ds → DenSs K F L vs ss → DenL K F vs ds
  | [], ds, vs, h, l => by cases h; cases l; exact .nil
  | .d x :: r, ds, vs, h, l => by
    cases l with
    | cons h1 l1 =>
      unfold allD at h
      cases e : allD r with
      | none => rw [e] at h; cases h
      | some es => rw [e] at h; cases h; exact .cons h1 (DenSs.data e l1)
  | .un :: r, ds, vs, h, l => by cases h
  | .m _ :: r, ds, vs, h, l => by cases h
/-- a new list: mutable (mk) or not -/
def newL (mk : Bool) (ds : List D) (μ : List MO) : Option ER := match mk with
  | true => some (.ok (.m μ.length) (μ ++ [.ml ds]))
  | false => some (.ok (.d (.lst ds)) μ)
theorem post_newL {mk : Bool} {ds : List D} {μ : List MO} {F : Hp} {L : List Addr} {H : Hp} {res : ER} {Q : VK} (hr : Rep K W F L μ H) (hf : newL mk ds μ = some res) (hp : PostE K W E F L H res Q) {p : Addr} (np : H p = none) {xs : List V} (hd : DenL K F xs ds) :
    Q (.ref p) (upd H p (.lst xs)) := by
  cases mk with
  | true =>
    cases hf
    refine hp _ F _ (L ++ [p]) (ext_newM hr np) (hr.newM np (m := .ml ds) (by intro ps z; cases z) ⟨xs, upd_same, hd⟩) ⟨p, ?_, rfl⟩ (by simp)
    rw [List.getElem?_append_right (by rw [hr.len]; exact Nat.le_refl _), hr.len, Nat.sub_self]; rfl
  | false =>
    cases hf
    exact hp _ (upd F p (.lst xs)) _ L (ext_newF hr np) (hr.newF np (by intro ps z; cases z)) (.lst upd_same (hd.mono (le_upd (hr.free np)))) (by simp)
theorem post_newT {ds : List D} {μ : List MO} {F : Hp} {L : List Addr} {H : Hp} {Q : VK} (hr : Rep K W F L μ H) (hp : PostE K W E F L H (.ok (.d (.tup ds)) μ) Q) {p : Addr} (np : H p = none) {xs : List V} (hd : DenL K F xs ds) :
    Q (.ref p) (upd H p (.tup xs)) :=
  hp _ (upd F p (.tup xs)) _ L (ext_newF hr np) (hr.newF np (by intro ps z; cases z)) (.tup (SqT.of upd_same) (hd.mono (le_upd (hr.free np)))) (by simp)
def eTup (f : AF) : EF := fun ρ μ => bAE (f ρ μ) fun ss μ => match allD ss with
  | some ds => if ds.length ≤ 1000 then some (.ok (.d (.tup ds)) μ) else none
  | none => none
def eLst (mk : Bool) (f : AF) : EF := fun ρ μ => bAE (f ρ μ) fun ss μ => match allD ss with
  | some ds => if ds.length ≤ 1000 then newL mk ds μ else none
  | none => none
theorem line1000 {n : Nat} (h : n ≤ 1000) : n ≤ sizeLine := Nat.le_of_lt (small1000 h)
theorem q_tup {es : List Expr} {f : AF} {pos : Pos} {x1} (h : PA X es (aOf X.K W E f)) : PE X (.Tuple es x1 pos) (tOf X.K W E (eTup f)) := by
  refine PE.weak (pe_tup h) fun σ H Q h => ?_
  obtain ⟨F, L, μ, ρ, res, hr, hs, hf, hp⟩ := h
  refine aOf_ok hr hs hf hp fun ss vs μ1 F1 H1 L1 hk e1 r1 d1 p1 => ?_
  cases ea : allD ss with
  | none => simp only [ea] at hk; cases hk
  | some ds =>
    simp only [ea] at hk
    have hd := DenSs.data ea d1
    by_cases hl : ds.length ≤ 1000
    · rw [if_pos hl] at hk; cases hk
      exact ⟨by rw [hd.length]; exact line1000 hl, fun p np => post_newT r1 p1 np hd⟩
    · rw [if_neg hl] at hk; cases hk
theorem q_lst {mk : Bool} {es : List Expr} {f : AF} {pos : Pos} (h : PA X es (aOf X.K W E f)) : PE X (.List es pos) (tOf X.K W E (eLst mk f)) := by
  refine PE.weak (pe_lst h) fun σ H Q h => ?_
  obtain ⟨F, L, μ, ρ, res, hr, hs, hf, hp⟩ := h
  refine aOf_ok hr hs hf hp fun ss vs μ1 F1 H1 L1 hk e1 r1 d1 p1 => ?_
  cases ea : allD ss with
  | none => simp only [ea] at hk; cases hk
  | some ds =>
    simp only [ea] at hk
    have hd := DenSs.data ea d1
    by_cases hl : ds.length ≤ 1000
    · rw [if_pos hl] at hk
      exact ⟨by rw [hd.length]; exact line1000 hl, fun p np => post_newL r1 hk p1 np hd⟩
    · rw [if_neg hl] at hk; cases hk
end
end DL
end

section
set_option Elab.async false
set_option linter.all false
set_option maxRecDepth 100000
set_option maxHeartbeats 4000000
/-! DLstmt: statements, loops, comprehensions, contracts. -/
namespace DL
open PySem PySem.Spec PyProof.Rows L2

section
variable {K : PySem.W.Frag} {W : Wd} {E : XK} {F F1 H H1 : Hp} {L L1 : List Addr} {μ : List MO}
/-- an object that stands, frozen -/
theorem Rep.addF (R : Rep K W F L μ H) {p : Addr} {o : HO} (hp : H p = some o) (hf : F p = none) (hl : p ∉ L) (ho : ∀ ps, o ≠ .tbl ps) : Rep K W (upd F p o) L μ H where
  sub := fun a u e => by
    by_cases hb : a = p
    · subst hb; rw [upd_same] at e; cases e; exact hp
    · rw [upd_ne hb] at e; exact R.sub a u e
  ft := fun a ps e => by
    by_cases hb : a = p
    · subst hb; rw [upd_same] at e; exact ho ps (Option.some.inj e)
    · rw [upd_ne hb] at e; exact R.ft a ps e
  tabs := R.tabs
  nd := R.nd
  len := R.len
  nf := fun a ha => by
    rw [upd_ne (show a ≠ p from fun z => hl (by rw [← z]; exact ha))]
    exact R.nf a ha
  obj := fun i a u e1 e2 => (R.obj i a u e1 e2).mono (le_upd hf) fun z hz => hz
theorem Rep.addM (R : Rep K W F L μ H) {p : Addr} {m : MO} (hf : F p = none) (hl : p ∉ L) (hm : MOk K F H p m) : Rep K W F (L ++ [p]) (μ ++ [m]) H where
  sub := R.sub
  ft := R.ft
  tabs := R.tabs
  nd := by
    rw [List.nodup_append]
    refine ⟨R.nd, by simp, fun a ha b hb => ?_⟩
    have : b = p := by simpa using hb
    subst this
    exact fun z => hl (z ▸ ha)
  len := by simp [R.len]
  nf := fun a ha => by
    rcases List.mem_append.mp ha with z | z
    · exact R.nf a z
    · have : a = p := by simpa using z
      subst this; exact hf
  obj := fun i a u e1 e2 => by
    by_cases hi : i < L.length
    · rw [List.getElem?_append_left hi] at e1
      rw [List.getElem?_append_left (by rw [← R.len]; exact hi)] at e2
      exact R.obj i a u e1 e2
    · rw [List.getElem?_append_right (by omega)] at e1
      rw [List.getElem?_append_right (by rw [← R.len]; omega)] at e2
      rw [← R.len] at e2
      generalize i - L.length = j at e1 e2
      cases j with
      | zero => simp at e1 e2; subst e1 e2; exact hm
      | succ j => simp at e1
/-- a change at a thing that is neither frozen nor ours -/
theorem Rep.updD (R : Rep K W F L μ H) {p : Addr} {u o : HO} (hp : H p = some u) (hf : F p = none) (hl : p ∉ L) (h1 : ∀ ps, u ≠ .tbl ps) (h2 : ∀ c q, u ≠ LamX.CodeO c q) : Rep K W F L μ (upd H p o) where
  sub := fun a v e => by
    rw [upd_ne (show a ≠ p from fun z => by rw [z, hf] at e; cases e)]; exact R.sub a v e
  ft := R.ft
  tabs := tabs_upd R.tabs hp h1 h2
  nd := R.nd
  len := R.len
  nf := R.nf
  obj := fun i a v e1 e2 => by
    have hne : a ≠ p := fun z => hl (by rw [← z]; exact List.mem_of_getElem? e1)
    exact (R.obj i a v e1 e2).mono (fun _ _ h => h) fun z hz => by rw [upd_ne hne]; exact hz
theorem lst_nt {xs : List V} : ∀ ps : Array Value, HO.lst xs ≠ .tbl ps := fun ps z => by cases z
theorem lst_nc {xs : List V} : ∀ (c : Addr) (q : Str), HO.lst xs ≠ LamX.CodeO c q := fun c q z => by unfold LamX.CodeO at z; cases z
theorem dT_nt {xs : List (List Key × V)} : ∀ ps : Array Value, HO.dT xs ≠ .tbl ps := fun ps z => by cases z
theorem dT_nc {xs : List (List Key × V)} : ∀ (c : Addr) (q : Str), HO.dT xs ≠ LamX.CodeO c q := fun c q z => by unfold LamX.CodeO at z; cases z
theorem Ext.updD {F' H' : Hp} {L' : List Addr} (e : Ext F H L F' H' L') {p : Addr} {o : HO} (np : ¬ Al H p) : Ext F H L F' (upd H' p o) L' :=
  have ne : ∀ {b}, Al H b → b ≠ p := fun {b} hb z => np (by rw [← z]; exact hb)
  ⟨e.ff, fun b u hb hl ht => by rw [upd_ne (ne ⟨u, hb, ht⟩)]; exact e.hh b u hb hl ht, fun b hb => by
    obtain ⟨u, e1, n⟩ := e.dom b hb
    exact ⟨u, by rw [upd_ne (ne hb)]; exact e1, n⟩, e.fr, e.lp⟩
theorem Ext.addF {F' H' : Hp} {L' : List Addr} (e : Ext F H L F' H' L') {p : Addr} {o : HO} (np : ¬ Al H p) (hf : F' p = none) : Ext F H L (upd F' p o) H' L' :=
  ⟨fun a u h => le_upd hf a u (e.ff a u h), e.hh, e.dom, fun a ha hn => by
    rw [upd_ne (show a ≠ p from fun z => np (by rw [← z]; exact ha))]; exact e.fr a ha hn, e.lp⟩
theorem Ext.addM {F' H' : Hp} {L' : List Addr} (e : Ext F H L F' H' L') {p : Addr} (np : ¬ Al H p) : Ext F H L F' H' (L' ++ [p]) := by
  obtain ⟨N, e1, e2⟩ := e.lp
  refine ⟨e.ff, e.hh, e.dom, e.fr, ⟨N ++ [p], by rw [e1, List.append_assoc], fun a ha => ?_⟩⟩
  rcases List.mem_append.mp ha with z | z
  · exact e2 a z
  · have : a = p := by simpa using z
    subst this; exact np
end

/-! ### targets: is, the places that are written -/
def gI (K : PySem.W.Frag) (W : Wd) (is : List Nat) (h : TF) : TG := fun v σ H Q => ∃ F L μ ρ d ρ', Rep K W F L μ H ∧ SlotsOk K F L ρ σ ∧ Den K F v d ∧ h d ρ = some ρ' ∧ ∀ σ', SlotsOk K F L ρ' σ' → (σ'.length = σ.length ∧ ∀ j, j ∉ is → σ'[j]? = σ[j]?) → Q σ' H
def gsI (K : PySem.W.Frag) (W : Wd) (is : List Nat) (h : List D → List S → Option (List S)) : TGs := fun vs σ H Q => ∃ F L μ ρ ds ρ', Rep K W F L μ H ∧ SlotsOk K F L ρ σ ∧ DenL K F vs ds ∧ h ds ρ = some ρ' ∧ ∀ σ', SlotsOk K F L ρ' σ' → (σ'.length = σ.length ∧ ∀ j, j ∉ is → σ'[j]? = σ[j]?) → Q σ' H
def hName (i : Nat) : TF := fun d ρ => some (ρ.set i (.d d))
def hsNil : List D → List S → Option (List S) := fun ds ρ => match ds with | [] => some ρ | _ => none
def hsCons (h : TF) (hs : List D → List S → Option (List S)) : List D → List S → Option (List S) := fun ds ρ => match ds with
  | d :: r => (match h d ρ with | some ρ1 => hs r ρ1 | none => none)
  | [] => none
def hTup (n : Nat) (hs : List D → List S → Option (List S)) : TF := fun d ρ => match d with
  | .tup ds => if ds.length = n then hs ds ρ else none
  | _ => none
section
variable {X : Cx} {W : Wd} {E : XK}
theorem q_tname {i : Nat} {x : Str} {pos : Pos} (hN : X.N.Nodup) (hi : X.N[i]? = some x := by rfl) (hx : Loc X.env.scope x := by first | exact Or.inl rfl | exact Or.inr rfl) (hf : X.fn x = true ∨ X.env.scope.names.lookup x = some .local := by first | exact .inl rfl | exact .inr rfl | assumption) : PG X (.Name x pos) (gI X.K W [i] (hName i)) := by
  refine PG.weak (pg_name hN hi hx hf) fun v σ H Q h => ?_
  obtain ⟨F, L, μ, ρ, d, ρ', hr, hs, hd, hh, hq⟩ := h
  cases hh
  refine hq _ (SlotsOk.set (s := .d d) (show DenS X.K F L v (.d d) from hd) i hs) ⟨by simp, fun j hj => ?_⟩
  rw [List.getElem?_set_ne (by simpa using fun z => hj (by simp [z]))]
theorem q_tnil : PGs X [] (gsI X.K W [] hsNil) := PGs.weak pgs_nil fun v σ H Q h => by
  obtain ⟨F, L, μ, ρ, ds, ρ', hr, hs, hd, hh, hq⟩ := h
  cases hd with
  | nil => cases hh; exact ⟨rfl, hq σ hs ⟨rfl, fun _ _ => rfl⟩⟩
  | cons _ _ => cases hh
theorem q_tcons {e : Expr} {es : List Expr} {is js : List Nat} {h : TF} {hs : List D → List S → Option (List S)} (h1 : PG X e (gI X.K W is h)) (h2 : PGs X es (gsI X.K W js hs))
    (hs' : (assignEach (e :: es) X.env).map (·.2) = assign e X.env :: (assignEach es X.env).map (·.2) := by rfl) : PGs X (e :: es) (gsI X.K W (is ++ js) (hsCons h hs)) := by
  refine PGs.weak (pgs_cons h1 h2 hs') fun v σ H Q q => ?_
  obtain ⟨F, L, μ, ρ, ds, ρ', hr, hsl, hd, hh, hq⟩ := q
  cases hd with
  | nil => cases hh
  | cons hd1 hd2 =>
    rename_i v1 vs1 d1 ds1
    unfold hsCons at hh
    simp only at hh
    cases e1 : h d1 ρ with
    | none => rw [e1] at hh; cases hh
    | some ρ1 =>
      rw [e1] at hh
      refine ⟨v1, vs1, rfl, F, L, μ, ρ, d1, ρ1, hr, hsl, hd1, e1, fun σ1 hs1 k1 => ?_⟩
      refine ⟨F, L, μ, ρ1, ds1, ρ', hr, hs1, hd2, hh, fun σ2 hs2 k2 => hq σ2 hs2 ⟨k2.1.trans k1.1, fun j hj => ?_⟩⟩
      rw [k2.2 j (fun z => hj (List.mem_append_right _ z)), k1.2 j (fun z => hj (List.mem_append_left _ z))]
theorem q_ttup {es : List Expr} {k : Nat} {pos : Pos} {is : List Nat} {hs : List D → List S → Option (List S)} {n : Nat} (hc : X.calm = true) (h : PGs X es (gsI X.K W is hs))
    (hn : (assignEach es X.env).length = n := by rfl) (hst : (assignEach es X.env).findIdx? (·.1) = none := by rfl) : PG X (.Tuple es k pos) (gI X.K W is (hTup n hs)) := by
  refine PG.weak (pg_tup hc h hn hst) fun v σ H Q q => ?_
  obtain ⟨F, L, μ, ρ, d, ρ', hr, hsl, hd, hh, hq⟩ := q
  cases hd with
  | tup h1 h2 =>
    rename_i a xs ds
    unfold hTup at hh
    simp only at hh
    by_cases hl : ds.length = n
    · rw [if_pos hl] at hh
      exact ⟨a, xs, rfl, Le.seqT hr.sub h1, by rw [h2.length, hl], F, L, μ, ρ, ds, ρ', hr, hsl, h2, hh, hq⟩
    · rw [if_neg hl] at hh; cases hh
  | _ => cases hh

/-! ### blocks -/
def sNx : SF := fun ρ μ => some (.nx ρ μ)
def sSeq (f g : SF) : SF := fun ρ μ => match f ρ μ with
  | some (.nx ρ1 μ1) => g ρ1 μ1
  | r => r
variable {K : PySem.W.Frag}
theorem qs_nil : PSs X [] (sOf X.K W E sNx) := PSs.weak pss_nil fun D σ H h => by
  obtain ⟨F, L, μ, ρ, r, hr, hs, hf, hp⟩ := h
  cases hf
  exact hp σ F H L .refl hr hs
theorem tSeq_of {f g : SF} {D : Ends} {σ : Sl} {H : Hp} (h : sOf K W E (sSeq f g) D σ H) : tSeq (sOf K W E f) (sOf K W E g) D σ H := by
  obtain ⟨F, L, μ, ρ, r, hr, hs, hf, hp⟩ := h
  unfold sSeq at hf
  show sOf K W E f _ σ H
  cases ea : f ρ μ with
  | none => rw [ea] at hf; cases hf
  | some ra =>
    rw [ea] at hf
    refine ⟨F, L, μ, ρ, ra, hr, hs, ea, ?_⟩
    cases ra with
    | nx ρ1 μ1 =>
      intro σ' F' H' L' e1 r1 s1
      exact ⟨F', L', μ1, ρ1, r, r1, s1, hf, hp.mono e1⟩
    | ret s μ1 => cases hf; exact hp
    | bk ρ1 μ1 => cases hf; exact hp
    | ct ρ1 μ1 => cases hf; exact hp
    | ex x μ1 => cases hf; exact hp
theorem qs_cons {st : Stmt} {rest : List Stmt} {f g : SF} (h1 : PS X st (sOf X.K W E f)) (h2 : PSs X rest (sOf X.K W E g)) : PSs X (st :: rest) (sOf X.K W E (sSeq f g)) :=
  PSs.weak (pss_cons h1 h2) fun _ _ _ h => tSeq_of h
theorem qs_one {st : Stmt} {f : SF} (h1 : PS X st (sOf X.K W E f)) : PSs X [st] (sOf X.K W E f) := pss_one h1

/-! ### small statements -/
def sSet (i : Nat) (f : EF) : SF := fun ρ μ => match f ρ μ with
  | some (.ok s μ1) => some (.nx (ρ.set i s) μ1)
  | some (.ex x μ1) => some (.ex x μ1)
  | none => none
/-- an expression, then a statement's end -/
def bS (r : Option ER) (k : S → List MO → Option SR) : Option SR := match r with
  | some (.ok s μ) => k s μ
  | some (.ex x μ) => some (.ex x μ)
  | none => none
theorem tS_ok {f : EF} {σ : Sl} {H : Hp} {F : Hp} {L : List Addr} {μ : List MO} {ρ : List S} {D : Ends} {k : S → List MO → Option SR} {res : SR} (hr : Rep K W F L μ H) (hs : SlotsOk K F L ρ σ)
    (hf : bS (f ρ μ) k = some res) (hp : PostS K W E F L H res D) {R : VK}
    (hk : ∀ s v μ1 F1 H1 L1, k s μ1 = some res → Ext F H L F1 H1 L1 → Rep K W F1 L1 μ1 H1 → DenS K F1 L1 v s → s ≠ .un → PostS K W E F1 L1 H1 res D → R v H1) : tOf K W E f σ H R := by
  unfold bS at hf
  cases ea : f ρ μ with
  | none => rw [ea] at hf; cases hf
  | some ra =>
    rw [ea] at hf
    refine ⟨F, L, μ, ρ, ra, hr, hs, ea, ?_⟩
    cases ra with
    | ex x μ1 => cases hf; exact hp
    | ok ss μ1 => exact fun vs F1 H1 L1 e1 r1 d1 n1 => hk ss vs μ1 F1 H1 L1 hf e1 r1 d1 n1 (hp.mono e1)
theorem tSet_of {i : Nat} {f : EF} {D : Ends} {σ : Sl} {H : Hp} (h : sOf K W E (sSet i f) D σ H) : tAsg (tOf K W E f) (gName i) D σ H := by
  obtain ⟨F, L, μ, ρ, r, hr, hs, hf, hp⟩ := h
  have hf : bS (f ρ μ) (fun s μ1 => some (.nx (ρ.set i s) μ1)) = some r := hf
  refine tS_ok hr hs hf hp fun s v μ1 F1 H1 L1 hk e1 r1 d1 n1 p1 => ?_
  cases hk
  exact p1 _ F1 H1 L1 .refl r1 ((hs.mono e1).set d1 i)
theorem qs_set {i : Nat} {x : Str} {e : Expr} {f : EF} {pos pos' : Pos} (hN : X.N.Nodup) (he : PE X e (tOf X.K W E f)) (hi : X.N[i]? = some x := by rfl) (hx : Loc X.env.scope x := by first | exact Or.inl rfl | exact Or.inr rfl) (hs : swapsWith e (some (.Name x pos')) pos.line X.env = pure false := by rfl) (hf : X.fn x = true ∨ X.env.scope.names.lookup x = some .local := by first | exact .inl rfl | exact .inr rfl | assumption) :
    PS X (.Assign [.Name x pos'] e pos) (sOf X.K W E (sSet i f)) := PS.weak (ps_set hN hi hx he hs hf) fun _ _ _ h => tSet_of h
def sAsg (h : TF) (f : EF) : SF := fun ρ μ => match f ρ μ with
  | some (.ok (.d d) μ1) => (match h d ρ with | some ρ' => some (.nx ρ' μ1) | none => none)
  | some (.ex x μ1) => some (.ex x μ1)
  | _ => none
theorem qs_asg {tg e : Expr} {f : EF} {is : List Nat} {h : TF} {pos : Pos} (he : PE X e (tOf X.K W E f)) (hg : PG X tg (gI X.K W is h)) (hs : swapsWithSole [tg] e pos.line X.env = pure false := by rfl) (hw : swappedStores [tg] e X.env = pure none := by rfl)
    (h1 : (assignEach [tg] X.env).map (·.2) = [assign tg X.env] := by rfl) : PS X (.Assign [tg] e pos) (sOf X.K W E (sAsg h f)) := by
  refine PS.weak (ps_asg he hg hs hw h1) fun D σ H q => ?_
  obtain ⟨F, L, μ, ρ, r, hr, hs, hf, hp⟩ := q
  have hf : bS (f ρ μ) (fun s μ1 => match s with | .d d => (match h d ρ with | some ρ' => some (.nx ρ' μ1) | none => none) | _ => none) = some r := by
    rw [← hf]
    unfold bS sAsg
    cases f ρ μ with
    | none => rfl
    | some ra => cases ra with
      | ex => rfl
      | ok s μ1 => cases s <;> rfl
  refine tS_ok hr hs hf hp fun s v μ1 F1 H1 L1 hk e1 r1 d1 n1 p1 => ?_
  cases s with
  | un => cases hk
  | m i => cases hk
  | d d =>
    simp only at hk
    cases e2 : h d ρ with
    | none => rw [e2] at hk; cases hk
    | some ρ' =>
      rw [e2] at hk; cases hk
      exact ⟨F1, L1, μ1, ρ, d, ρ', r1, hs.mono e1, d1, e2, fun σ' hs' _ => p1 σ' F1 H1 L1 .refl r1 hs'⟩
/-- a, b = x, y -/
def sPar (i j : Nat) (f : AF) : SF := fun ρ μ => match f ρ μ with
  | some (.ok [s, u] μ1) => some (.nx ((ρ.set i s).set j u) μ1)
  | some (.ex x μ1) => some (.ex x μ1)
  | _ => none
theorem qs_par {i j : Nat} {x y : Str} {a b : Expr} {f : AF} {px py pt : Pos} {kt k2 pt2} {pos : Pos} (hc : X.calm = true) (hN : X.N.Nodup) (ha : PA X [a, b] (aOf X.K W E f)) (hi : X.N[i]? = some x := by rfl) (hj : X.N[j]? = some y := by rfl) (hij : i ≠ j := by decide)
    (hx : X.env.scope.names.lookup x = some .local := by rfl) (hy : X.env.scope.names.lookup y = some .local := by rfl)
    (hw : swappedStores [.Tuple [.Name x px, .Name y py] kt pt] (.Tuple [a, b] k2 pt2) X.env = pure (some [x, y]) := by rfl)
    (hs : swapsWithSole [.Tuple [.Name x px, .Name y py] kt pt] (.Tuple [a, b] k2 pt2) pos.line X.env = pure false := by rfl) :
    PS X (.Assign [.Tuple [.Name x px, .Name y py] kt pt] (.Tuple [a, b] k2 pt2) pos) (sOf X.K W E (sPar i j f)) := by
  refine PS.weak (ps_par hc hN hi hj hij hx hy ha hw hs) fun D σ H q => ?_
  obtain ⟨F, L, μ, ρ, r, hr, hs, hf, hp⟩ := q
  unfold sPar at hf
  show aOf X.K W E f σ H _
  cases ea : f ρ μ with
  | none => rw [ea] at hf; cases hf
  | some ra =>
    rw [ea] at hf
    refine ⟨F, L, μ, ρ, ra, hr, hs, ea, ?_⟩
    cases ra with
    | ex x μ1 => cases hf; exact hp
    | ok ss μ1 =>
      intro vs F1 H1 L1 e1 r1 d1
      match ss, d1, hf with
      | [s, u], .cons d1 (.cons d2 .nil), hf =>
        cases hf
        exact ⟨_, _, rfl, hp _ F1 H1 L1 e1 r1 (((hs.mono e1).set d1 i).set d2 j)⟩
def sDrop (f : EF) : SF := fun ρ μ => match f ρ μ with
  | some (.ok _ μ1) => some (.nx ρ μ1)
  | some (.ex x μ1) => some (.ex x μ1)
  | none => none
theorem qs_expr {e : Expr} {f : EF} {pos : Pos} (he : PE X e (tOf X.K W E f)) (hs : swapsWith e none pos.line X.env = pure false := by rfl) : PS X (.Expr e pos) (sOf X.K W E (sDrop f)) := by
  refine PS.weak (ps_expr he hs) fun D σ H q => ?_
  obtain ⟨F, L, μ, ρ, r, hr, hs, hf, hp⟩ := q
  have hf : bS (f ρ μ) (fun s μ1 => some (.nx ρ μ1)) = some r := hf
  refine tS_ok hr hs hf hp fun s v μ1 F1 H1 L1 hk e1 r1 d1 n1 p1 => ?_
  cases hk
  exact p1 _ F1 H1 L1 .refl r1 (hs.mono e1)
def sRet (f : EF) : SF := fun ρ μ => match f ρ μ with
  | some (.ok s μ1) => some (.ret s μ1)
  | some (.ex x μ1) => some (.ex x μ1)
  | none => none
theorem qs_ret {e : Expr} {f : EF} {pos : Pos} (he : PE X e (tOf X.K W E f)) : PS X (.Return (some e) pos) (sOf X.K W E (sRet f)) := by
  refine PS.weak (ps_ret he) fun D σ H q => ?_
  obtain ⟨F, L, μ, ρ, r, hr, hs, hf, hp⟩ := q
  have hf : bS (f ρ μ) (fun s μ1 => some (.ret s μ1)) = some r := hf
  refine tS_ok hr hs hf hp fun s v μ1 F1 H1 L1 hk e1 r1 d1 n1 p1 => ?_
  cases hk
  exact p1 _ F1 H1 L1 .refl r1 d1 n1
def sIf (c : BF) (f g : SF) : SF := fun ρ μ => match c ρ μ with
  | some (.ok true μ1) => f ρ μ1
  | some (.ok false μ1) => g ρ μ1
  | some (.ex x μ1) => some (.ex x μ1)
  | none => none
theorem qs_if {c : Expr} {a b : List Stmt} {fc : BF} {f g : SF} {pos : Pos} (hc : PT X c (bOf X.K W E fc)) (ha : PSs X a (sOf X.K W E f)) (hb : PSs X b (sOf X.K W E g)) : PS X (.If c a b pos) (sOf X.K W E (sIf fc f g)) := by
  refine PS.weak (ps_if hc ha hb) fun D σ H q => ?_
  obtain ⟨F, L, μ, ρ, r, hr, hs, hf, hp⟩ := q
  unfold sIf at hf
  show bOf X.K W E fc σ H _
  cases ea : fc ρ μ with
  | none => rw [ea] at hf; cases hf
  | some ra =>
    rw [ea] at hf
    refine ⟨F, L, μ, ρ, ra, hr, hs, ea, ?_⟩
    cases ra with
    | ex x μ1 => cases hf; exact hp
    | ok b μ1 =>
      intro F1 H1 L1 e1 r1
      cases b with
      | true => exact iteT ⟨F1, L1, μ1, ρ, r, r1, hs.mono e1, hf, hp.mono e1⟩
      | false => exact iteF ⟨F1, L1, μ1, ρ, r, r1, hs.mono e1, hf, hp.mono e1⟩

/-! ### for -/
def forF (h : TF) (b : SF) : List D → List S → List MO → Option SR
  | [], ρ, μ => some (.nx ρ μ)
  | d :: ds, ρ, μ => match h d ρ with
    | none => none
    | some ρ1 => match b ρ1 μ with
      | some (.nx ρ2 μ2) => forF h b ds ρ2 μ2
      | some (.ct ρ2 μ2) => forF h b ds ρ2 μ2
      | some (.bk ρ2 μ2) => some (.nx ρ2 μ2)
      | r => r
def sFor (fi : IF) (h : TF) (b : SF) : SF := fun ρ μ => match fi ρ μ with
  | some (.ok items μ1) => forF h b items ρ μ1
  | some (.ex x μ1) => some (.ex x μ1)
  | none => none
theorem ItemAt.step {F H H' : Hp} {L : List Addr} {μ : List MO} {x : V} {d : D} (hr : Rep K W F L μ H) (h : ItemAt K F H x H' d) : ∃ F', Ext F H L F' H' L ∧ Rep K W F' L μ H' ∧ Den K F' x d := by
  rcases h with ⟨rfl, hd⟩ | ⟨T, ys, ds, rfl, nT, rfl, rfl, hd⟩
  · exact ⟨F, .refl, hr, hd⟩
  · exact ⟨upd F T (.tup ys), ext_newF hr nT, hr.newF nT (by intro ps z; cases z), .tup (SqT.of upd_same) (hd.mono (le_upd (hr.free nT)))⟩
theorem for_core {J : It} {items : List D} {is : List Nat} {h : TF} {b : SF} {F H : Hp} {L : List Addr} {μ : List MO} {ρ : List S} {σ : Sl} {D : Ends} {res : SR} (hw : WalkD K F J items) (hr : Rep K W F L μ H) (hs : SlotsOk K F L ρ σ)
    (hf : forF h b items ρ μ = some res) (hp : PostS K W E F L H res D) :
    ∃ W' : Nat → Nat → Sl → Hp → Prop, (∃ m, W' 0 m σ H) ∧ ∀ i m σ H, W' i m σ H →
      (J.stop i H ∧ D.nx σ H) ∨ (J.go i H ∧ ∃ N : Sl → Hp → Prop, (∀ σ' H', N σ' H' → ∃ m', m' < m ∧ W' (i + 1) m' σ' H') ∧ ∀ x H', J.yld i H x H' → gI K W is h x σ H' fun σ2 H2 => sOf K W E b { D with nx := N, ct := N, bk := D.nx } σ2 H2) := by
  refine ⟨fun i m σ' H' => m = items.length - i ∧ i ≤ items.length ∧ ∃ F' L' μ' ρ', Ext F H L F' H' L' ∧ Rep K W F' L' μ' H' ∧ SlotsOk K F' L' ρ' σ' ∧ forF h b (items.drop i) ρ' μ' = some res,
    ⟨items.length, by simp, Nat.zero_le _, F, L, μ, ρ, .refl, hr, hs, by simpa using hf⟩, ?_⟩
  rintro i m σ' H' ⟨rfl, hi, F', L', μ', ρ', e1, r1, s1, hf1⟩
  have hw1 := hw H' (fun a o q => r1.sub a o (e1.ff a o q))
  by_cases hlt : i < items.length
  · refine .inr ⟨hw1.1 i hlt, fun σ2 H2 => ∃ F2 L2 μ2 ρ2, Ext F H L F2 H2 L2 ∧ Rep K W F2 L2 μ2 H2 ∧ SlotsOk K F2 L2 ρ2 σ2 ∧ forF h b (items.drop (i + 1)) ρ2 μ2 = some res, fun σ2 H2 q => ⟨items.length - (i + 1), by omega, rfl, hlt, q⟩, fun x H2 y => ?_⟩
    have hd : items[i]? = some items[i] := List.getElem?_eq_getElem hlt
    have it := hw1.2.2 i x H2 items[i] hd y
    have it' : ItemAt K F' H' x H2 items[i] := by
      rcases it with ⟨a1, a2⟩ | ⟨T, ys, ds, a1, a2, a3, a4, a5⟩
      · exact .inl ⟨a1, a2.mono e1.ff⟩
      · exact .inr ⟨T, ys, ds, a1, a2, a3, a4, a5.mono e1.ff⟩
    obtain ⟨F2, e2, r2, d2⟩ := it'.step r1
    rw [List.drop_eq_getElem_cons hlt] at hf1
    unfold forF at hf1
    cases eh : h items[i] ρ' with
    | none => rw [eh] at hf1; cases hf1
    | some ρ1 =>
      rw [eh] at hf1
      simp only at hf1
      refine ⟨F2, L', μ', ρ', items[i], ρ1, r2, s1.mono e2, d2, eh, fun σ3 s3 _ => ?_⟩
      cases eb : b ρ1 μ' with
      | none => rw [eb] at hf1; cases hf1
      | some rb =>
        rw [eb] at hf1
        refine ⟨F2, L', μ', ρ1, rb, r2, s3, eb, ?_⟩
        have e12 := e1.trans e2
        cases rb with
        | nx ρ2 μ2 => exact fun σ4 F4 H4 L4 e4 r4 s4 => ⟨F4, L4, μ2, ρ2, e12.trans e4, r4, s4, hf1⟩
        | ct ρ2 μ2 => exact fun σ4 F4 H4 L4 e4 r4 s4 => ⟨F4, L4, μ2, ρ2, e12.trans e4, r4, s4, hf1⟩
        | bk ρ2 μ2 => cases hf1; exact fun σ4 F4 H4 L4 e4 r4 s4 => hp σ4 F4 H4 L4 (e12.trans e4) r4 s4
        | ret s μ2 => cases hf1; exact hp.mono e12
        | ex x μ2 => cases hf1; exact PostX.mono e12 hp
  · have e : i = items.length := by omega
    subst e
    rw [List.drop_length] at hf1
    cases hf1
    exact .inl ⟨hw1.2.1, hp _ F' H' L' e1 r1 s1⟩
theorem qs_for {tg iter : Expr} {body : List Stmt} {fi : IF} {is : List Nat} {h : TF} {b : SF} {pos : Pos} (hpo : PassesOwn (model X.prog X.w) X.A X.env X.xe) (hc : X.calm = true) (hi : PI X tg iter (iOf X.K W E fi)) (hg : PG X tg (gI X.K W is h)) (hb : PSs X body (sOf X.K W E b))
    (hs : ∀ x, foldedSetIterable iter X.env x = pure x := by intro _; rfl) : PS X (.For tg iter body [] pos) (sOf X.K W E (sFor fi h b)) := by
  refine PS.weak (ps_for hpo hc hi hg hb hs) fun D σ H q => ?_
  obtain ⟨F, L, μ, ρ, r, hr, hs, hf, hp⟩ := q
  unfold sFor at hf
  show iOf X.K W E fi σ H _
  cases ea : fi ρ μ with
  | none => rw [ea] at hf; cases hf
  | some ra =>
    rw [ea] at hf
    refine ⟨F, L, μ, ρ, ra, hr, hs, ea, ?_⟩
    cases ra with
    | ex x μ1 => cases hf; exact hp
    | ok items μ1 =>
      intro J F1 H1 L1 e1 r1 w1
      exact for_core w1 r1 (hs.mono e1) hf (hp.mono e1)

/-! ### comprehensions -/
def lcF (h : TF) (c : BF) (e : EF) (ρ : List S) : List D → List D → List MO → Option (List D × List MO)
  | [], acc, μ => some (acc, μ)
  | d :: ds, acc, μ => match h d ρ with
    | none => none
    | some ρ1 => match c ρ1 μ with
      | some (.ok true μ1) => (match e ρ1 μ1 with
        | some (.ok (.d y) μ2) => lcF h c e ρ ds (acc ++ [y]) μ2
        | _ => none)
      | some (.ok false μ1) => lcF h c e ρ ds acc μ1
      | _ => none
def wipeS (ρ : List S) : List Nat → List S
  | [] => ρ
  | v :: vs => (wipeS ρ vs).set v .un
def cap : Nat := 1000000
theorem cap_line {n : Nat} (h : n ≤ cap) : n < sizeLine := Nat.lt_of_le_of_lt h (by decide)
def eLc (mk : Bool) (vs : List Nat) (fi : IF) (h : TF) (c : BF) (e : EF) : EF := fun ρ μ => match fi ρ μ with
  | some (.ok items μ1) => if items.length ≤ cap then (match lcF h c e (wipeS ρ vs) items [] μ1 with
    | some (acc, μ2) => newL mk acc μ2
    | none => none) else none
  | some (.ex x μ1) => some (.ex x μ1)
  | none => none
def bYes : BF := fun _ μ => some (.ok true μ)
theorem SlotsOk.wipe {F : Hp} {L : List Addr} {ρ : List S} {σ : Sl} (h : SlotsOk K F L ρ σ) : ∀ vs : List Nat, SlotsOk K F L (wipeS ρ vs) (wipe σ vs)
  | [] => h
  | v :: vs => (SlotsOk.wipe h vs).setUn v
theorem wipe_get (σ : Sl) (j : Nat) : ∀ vs : List Nat, (wipe σ vs)[j]? = if j ∈ vs then (if j < σ.length then some none else none) else σ[j]?
  | [] => by simp [wipe]
  | v :: vs => by
    show ((wipe σ vs).set v none)[j]? = _
    by_cases hj : v = j
    · subst hj
      by_cases hl : v < σ.length
      · rw [List.getElem?_set_self (by rw [wipe_length]; exact hl)]; simp [hl]
      · rw [List.getElem?_eq_none (by rw [List.length_set, wipe_length]; omega)]; simp [hl]
    · rw [List.getElem?_set_ne hj, wipe_get σ j vs]
      have : j ≠ v := fun z => hj z.symm
      simp [this]
theorem wipe_same {σ σ' : Sl} {vs is : List Nat} (hi : ∀ i ∈ is, i ∈ vs) (h1 : σ'.length = σ.length) (h2 : ∀ j, j ∉ is → σ'[j]? = σ[j]?) : wipe σ' vs = wipe σ vs := by
  apply List.ext_getElem?
  intro j
  rw [wipe_get, wipe_get, h1]
  by_cases hj : j ∈ vs
  · rw [if_pos hj, if_pos hj]
  · rw [if_neg hj, if_neg hj, h2 j (fun z => hj (hi j z))]
theorem wipe_wipe {σ : Sl} {vs : List Nat} : wipe (wipe σ vs) vs = wipe σ vs := by
  apply List.ext_getElem?
  intro j
  rw [wipe_get, wipe_get, wipe_length]
  by_cases hj : j ∈ vs
  · rw [if_pos hj, if_pos hj]
  · rw [if_neg hj, if_neg hj]
theorem post_newD {mk : Bool} {ds : List D} {μ : List MO} {F0 H0 : Hp} {L0 : List Addr} {F : Hp} {L : List Addr} {H : Hp} {res : ER} {Q : VK} (e : Ext F0 H0 L0 F H L) (hr : Rep K W F L μ H) (hf : newL mk ds μ = some res) (hp : PostE K W E F0 L0 H0 res Q) {p : Addr} {xs : List V} (np : ¬ Al H0 p) (hpp : H p = some (.lst xs)) (hfp : F p = none) (hl : p ∉ L) (hd : DenL K F xs ds) :
    Q (.ref p) H := by
  cases mk with
  | true =>
    cases hf
    refine hp _ F H (L ++ [p]) (e.addM np) (hr.addM hfp hl ⟨xs, hpp, hd⟩) ⟨p, ?_, rfl⟩ (by simp)
    rw [List.getElem?_append_right (by rw [hr.len]; exact Nat.le_refl _), hr.len, Nat.sub_self]; rfl
  | false =>
    cases hf
    exact hp _ (upd F p (.lst xs)) H L (e.addF np hfp) (hr.addF hpp hfp hl lst_nt) (.lst upd_same (hd.mono (le_upd hfp))) (by simp)
theorem lc_core' {J : It} {items : List D} {vs is : List Nat} {h : TF} {c : BF} {e : EF} {F H : Hp} {L : List Addr} {μ μ2 : List MO} {ρ : List S} {σ : Sl} {acc0 : List D} {D0 : Addr} {Qd : Hp → Prop} (hw : WalkD K F J items) (hr : Rep K W F L μ H) (hs : SlotsOk K F L ρ σ) (hi : ∀ i ∈ is, i ∈ vs) (hD : H D0 = none) (hlen : items.length ≤ cap)
    (hf : lcF h c e (wipeS ρ vs) items [] μ = some (acc0, μ2))
    (hq : ∀ F' H' L' xs, Ext F H L F' H' L' → Rep K W F' L' μ2 H' → H' D0 = some (.lst xs) → F' D0 = none → D0 ∉ L' → DenL K F' xs acc0 → Qd H') :
    ∃ W' : Nat → Nat → Hp → Prop, (∃ m, W' 0 m (upd H D0 (.lst []))) ∧ ∀ i m H, W' i m H →
      (J.stop i H ∧ Qd H) ∨ (J.go i H ∧ ∃ Nx : Hp → Prop, (∀ H', Nx H' → ∃ m', m' < m ∧ W' (i + 1) m' H') ∧ ∀ x H', J.yld i H x H' → gI K W is h x (wipe σ vs) H' fun σ2 H2 => wipe σ2 vs = wipe σ vs ∧ bOf K W E0 c σ2 H2 fun b H3 =>
        if b = true then tOf K W E0 e σ2 H3 fun y H4 => ∃ acc, H4 D0 = some (.lst acc) ∧ acc.length < sizeLine ∧ Nx (upd H4 D0 (.lst (acc ++ [y]))) else Nx H3) := by
  refine ⟨fun i m H' => m = items.length - i ∧ i ≤ items.length ∧ ∃ F' L' μ' acc xs, Ext F H L F' H' L' ∧ Rep K W F' L' μ' H' ∧ H' D0 = some (.lst xs) ∧ F' D0 = none ∧ D0 ∉ L' ∧ DenL K F' xs acc ∧ acc.length ≤ i ∧ lcF h c e (wipeS ρ vs) (items.drop i) acc μ' = some (acc0, μ2),
    ⟨items.length, by simp, Nat.zero_le _, F, L, μ, [], [], Ext.refl.updD (Al.no hD), ?_, upd_same, hr.free hD, hr.notL hD, .nil, Nat.le_refl _, by simpa using hf⟩, ?_⟩
  · exact { sub := fun a v q => by rw [upd_ne (ne_of_none (hr.sub a v q) hD)]; exact hr.sub a v q
            ft := hr.ft
            tabs := hr.tabs.ext (le_upd hD)
            nd := hr.nd
            len := hr.len
            nf := hr.nf
            obj := fun i a u e1 e2 => (hr.obj i a u e1 e2).mono (fun _ _ h => h) fun z hz => by rw [upd_ne (ne_of_none hz hD)]; exact hz }
  rintro i m H' ⟨rfl, hi', F', L', μ', acc, xs, e1, r1, hD1, hF1, hL1, da, hacc, hf1⟩
  have hw1 := hw H' (fun a o q => r1.sub a o (e1.ff a o q))
  by_cases hlt : i < items.length
  · refine .inr ⟨hw1.1 i hlt, fun H2 => ∃ F2 L2 μ2' acc2 xs2, Ext F H L F2 H2 L2 ∧ Rep K W F2 L2 μ2' H2 ∧ H2 D0 = some (.lst xs2) ∧ F2 D0 = none ∧ D0 ∉ L2 ∧ DenL K F2 xs2 acc2 ∧ acc2.length ≤ i + 1 ∧ lcF h c e (wipeS ρ vs) (items.drop (i + 1)) acc2 μ2' = some (acc0, μ2), fun H2 q => ⟨items.length - (i + 1), by omega, rfl, hlt, q⟩, fun x H2 y => ?_⟩
    have hd : items[i]? = some items[i] := List.getElem?_eq_getElem hlt
    have it := hw1.2.2 i x H2 items[i] hd y
    have it' : ItemAt K F' H' x H2 items[i] := by
      rcases it with ⟨a1, a2⟩ | ⟨T, ys, ds, a1, a2, a3, a4, a5⟩
      · exact .inl ⟨a1, a2.mono e1.ff⟩
      · exact .inr ⟨T, ys, ds, a1, a2, a3, a4, a5.mono e1.ff⟩
    obtain ⟨F2, e2, r2, d2⟩ := it'.step r1
    have hDn : Al H' D0 := ⟨_, hD1, lst_nt⟩
    rw [List.drop_eq_getElem_cons hlt] at hf1
    unfold lcF at hf1
    have keep : ∀ {Fa Ha : Hp} {La : List Addr}, Ext F' H' L' Fa Ha La → Ha D0 = some (.lst xs) ∧ Fa D0 = none ∧ D0 ∉ La := fun {Fa Ha La} ea => by
      refine ⟨ea.hh D0 _ hD1 hL1 lst_nt, ea.fr D0 hDn hF1, ?_⟩
      obtain ⟨N, en, nn⟩ := ea.lp
      rw [en]
      intro z
      rcases List.mem_append.mp z with z | z
      · exact hL1 z
      · exact nn D0 z hDn
    cases eh : h items[i] (wipeS ρ vs) with
    | none => rw [eh] at hf1; cases hf1
    | some ρ1 =>
      rw [eh] at hf1
      simp only at hf1
      refine ⟨F2, L', μ', wipeS ρ vs, items[i], ρ1, r2, ((hs.mono e1).wipe vs).mono e2, d2, eh, fun σ3 s3 k3 => ⟨?_, ?_⟩⟩
      · exact (wipe_same hi k3.1 k3.2).trans wipe_wipe
      cases ec : c ρ1 μ' with
      | none => rw [ec] at hf1; cases hf1
      | some rc =>
        rw [ec] at hf1
        refine ⟨F2, L', μ', ρ1, rc, r2, s3, ec, ?_⟩
        cases rc with
        | ex x μ1 => cases hf1
        | ok b μ1 =>
          intro F3 H3 L3 e3 r3
          cases b with
          | false =>
            refine iteF ?_
            obtain ⟨k1, k2, k3⟩ := keep (e2.trans e3)
            exact ⟨F3, L3, μ1, acc, xs, (e1.trans e2).trans e3, r3, k1, k2, k3, da.mono (e2.trans e3).ff, by omega, hf1⟩
          | true =>
            refine iteT ?_
            simp only at hf1
            cases ee : e ρ1 μ1 with
            | none => rw [ee] at hf1; cases hf1
            | some re =>
              rw [ee] at hf1
              refine ⟨F3, L3, μ1, ρ1, re, r3, s3.mono e3, ee, ?_⟩
              cases re with
              | ex x μ2 => cases hf1
              | ok s μ2' =>
                cases s with
                | un => cases hf1
                | m j => cases hf1
                | d yd =>
                  intro v F4 H4 L4 e4 r4 d4 n4
                  have e24 := (e2.trans e3).trans e4
                  obtain ⟨k1, k2, k3⟩ := keep e24
                  have hl := da.length
                  refine ⟨xs, k1, cap_line (by omega), F4, L4, μ2', acc ++ [yd], xs ++ [v], (e1.trans e24).updD (Al.no hD), r4.updD k1 k2 k3 lst_nt lst_nc, upd_same, k2, k3, DenL.append (da.mono e24.ff) (.cons d4 .nil), by simp; omega, hf1⟩
  · have e' : i = items.length := by omega
    subst e'
    rw [List.drop_length] at hf1
    cases hf1
    exact .inl ⟨hw1.2.1, hq F' H' L' xs e1 r1 hD1 hF1 hL1 da⟩
theorem tLc_of {mk : Bool} {vs is : List Nat} {fi : IF} {h : TF} {c : BF} {e : EF} (hi : ∀ i ∈ is, i ∈ vs) {σ : Sl} {H : Hp} {Q : VK} (q : tOf K W E (eLc mk vs fi h c e) σ H Q) : tLc (iOf K W E fi) (gI K W is h) (bOf K W E0 c) (tOf K W E0 e) vs σ H Q := by
  obtain ⟨F, L, μ, ρ, res, hr, hs, hf, hp⟩ := q
  unfold eLc at hf
  show iOf K W E fi σ H _
  cases ea : fi ρ μ with
  | none => rw [ea] at hf; cases hf
  | some ra =>
    rw [ea] at hf
    refine ⟨F, L, μ, ρ, ra, hr, hs, ea, ?_⟩
    cases ra with
    | ex x μ1 => cases hf; exact hp
    | ok items μ1 =>
      simp only at hf
      by_cases hl : items.length ≤ cap
      · rw [if_pos hl] at hf
        intro J F1 H1 L1 e1 r1 w1 D0 hD
        cases el : lcF h c e (wipeS ρ vs) items [] μ1 with
        | none => rw [el] at hf; cases hf
        | some am =>
          obtain ⟨acc, μ2⟩ := am
          rw [el] at hf
          have nD : ¬ Al H D0 := fun z => Al.no hD (e1.dom D0 z)
          exact lc_core' w1 r1 (hs.mono e1) hi hD hl el fun F' H' L' xs e2 r2 hD2 hF2 hL2 d2 => post_newD (e1.trans e2) r2 hf hp nD hD2 hF2 hL2 d2
      · rw [if_neg hl] at hf; cases hf
theorem qts_nil : PTs X [] (bOf X.K W E bYes) := ⟨fun pins s σ H Q I h => pts_nil.run pins s σ H Q I (by
  obtain ⟨F, L, μ, ρ, r, hr, hs, hf, hp⟩ := h
  cases hf
  exact hp F H L .refl hr)⟩
theorem qts_one {c : Expr} {f : BF} (h : PT X c (bOf X.K W E f)) : PTs X [c] (bOf X.K W E f) := pts_one h
theorem q_lc {mk : Bool} {elt tg iter : Expr} {ifs : List Expr} {scope : Scope} {own : List (Str × Nat)} {pos : Pos} {fi : IF} {is : List Nat} {h : TF} {c : BF} {e : EF} (hc : X.calm = true) (hN : X.N.Nodup) (ok : BlkOk X.N X.env.scope scope own) (hi : PI X tg iter (iOf X.K W E fi))
    (hg : ∀ (s : Shared) (H : Hp) (C : Addr) (cl : List (Str × Addr)) (fp : List Addr), PG (X.blk s H scope (compEnvC scope cl C X.env) fp) tg (gI X.K W is h)) (ht : ∀ (s : Shared) (H : Hp) (C : Addr) (cl : List (Str × Addr)) (fp : List Addr), PTs (X.blk s H scope (compEnvC scope cl C X.env) fp) ifs (bOf X.K W E0 c))
    (he : ∀ (s : Shared) (H : Hp) (C : Addr) (cl : List (Str × Addr)) (fp : List Addr), PE (X.blk s H scope (compEnvC scope cl C X.env) fp) elt (tOf X.K W E0 e)) (his : ∀ i ∈ is, i ∈ own.map (·.2) := by decide) (hs : ∀ x, foldedSetIterable iter X.env x = pure x := by intro _; rfl) :
    PE X (.ListComp elt [⟨tg, iter, ifs, 0⟩] scope pos) (tOf X.K W E (eLc mk (own.map (·.2)) fi h c e)) :=
  PE.weak (pe_lc hc hN hi ok hg ht he hs) fun _ _ _ q => tLc_of his q
theorem qs_setLc {mk : Bool} {i : Nat} {y : Str} {py : Pos} {elt tg iter : Expr} {ifs : List Expr} {scope : Scope} {own : List (Str × Nat)} {pos spos : Pos} {fi : IF} {is : List Nat} {h : TF} {c : BF} {e : EF} (hc : X.calm = true) (hN : X.N.Nodup) (ok : BlkOk X.N X.env.scope scope own) (hi : PI X tg iter (iOf X.K W E fi))
    (hg : ∀ (s : Shared) (H : Hp) (C : Addr) (cl : List (Str × Addr)) (fp : List Addr), PG (X.blk s H scope (compEnvC scope cl C X.env) fp) tg (gI X.K W is h)) (ht : ∀ (s : Shared) (H : Hp) (C : Addr) (cl : List (Str × Addr)) (fp : List Addr), PTs (X.blk s H scope (compEnvC scope cl C X.env) fp) ifs (bOf X.K W E0 c))
    (he : ∀ (s : Shared) (H : Hp) (C : Addr) (cl : List (Str × Addr)) (fp : List Addr), PE (X.blk s H scope (compEnvC scope cl C X.env) fp) elt (tOf X.K W E0 e)) (hy : X.N[i]? = some y := by rfl) (hyl : X.env.scope.names.lookup y = some .local := by rfl)
    (hsw : swapsWith (.ListComp elt [⟨tg, iter, ifs, 0⟩] scope pos) (some (.Name y py)) spos.line X.env = pure true := by exact sw_true rfl rfl rfl (by decide +kernel)) (his : ∀ i ∈ is, i ∈ own.map (·.2) := by decide) (hs : ∀ x, foldedSetIterable iter X.env x = pure x := by intro _; rfl) :
    PS X (.Assign [.Name y py] (.ListComp elt [⟨tg, iter, ifs, 0⟩] scope pos) spos) (sOf X.K W E (sSet i (eLc mk (own.map (·.2)) fi h c e))) := by
  refine PS.weak (ps_setLc hc hN hy hyl hsw hi ok hg ht he hs) fun D σ H q => ?_
  obtain ⟨F, L, μ, ρ, r, hr, hs, hf, hp⟩ := q
  show tLc _ _ _ _ _ σ H _
  refine tLc_of (mk := mk) (is := is) his ?_
  have hf : bS (eLc mk (own.map (·.2)) fi h c e ρ μ) (fun s μ1 => some (.nx (ρ.set i s) μ1)) = some r := hf
  refine tS_ok hr hs hf hp fun s v μ1 F1 H1 L1 hk e1 r1 d1 n1 p1 => ?_
  cases hk
  exact p1 _ F1 H1 L1 .refl r1 ((hs.mono e1).set d1 i)
end
end DL
end

section
set_option Elab.async false
set_option linter.all false
set_option maxRecDepth 100000
set_option maxHeartbeats 4000000
/-! DLcall: contracts of defs, calls. -/
namespace DL
open PySem PySem.Spec PyProof.Rows L2

def PostG (K : PySem.W.Frag) (W : Wd) (E : XK) (F : Hp) (L : List Addr) (H : Hp) (r : ER) (Q : VK) : Prop := match r with
  | .ok (.d d) μ' => ∀ v F' H', Ext F H L F' H' L → Rep K W F' L μ' H' → Den K F' v d → Q v H'
  | .ok (.m i) μ' => ∀ v F' H' L', Ext F H L F' H' L' → Rep K W F' L' μ' H' → DenS K F' L' v (.m i) → Q v H'
  | .ok .un _ => False
  | .ex x μ' => ∀ v d F' H', Ext F H L F' H' L → Rep K W F' L μ' H' → H' d = some (.xd [(x.fld, v)]) → Den K F' v x.val → E (.ref (x.cls W)) (some d) H'
def spG (K : PySem.W.Frag) (W : Wd) (n : Nat) (g : GF) : Sp := fun vs H Q E => vs.length = n ∧ ∃ F L μ ss r, Rep K W F L μ H ∧ DenSs K F L vs ss ∧ g ss μ = some r ∧ PostG K W E F L H r Q
/-- the end of a def: its own mutable things go; what is handed back is frozen -/
def froz (n : Nat) (i : Nat) (μ : List MO) : Option ER := if n ≤ i then (match μ[i]? with
    | some (.ml ds) => some (.ok (.d (.lst ds)) (μ.take n))
    | some (.md ks) => some (.ok (.d (.dct ks)) (μ.take n))
    | none => none) else none
def fin (n : Nat) : Option SR → Option ER
  | some (.nx _ μ) => some (.ok (.d .non) (μ.take n))
  | some (.ret (.d d) μ) => some (.ok (.d d) (μ.take n))
  | some (.ret (.m i) μ) => froz n i μ
  | some (.ex x μ) => some (.ex x (μ.take n))
  | _ => none
/-- .. whose new list or dict goes out mutable -/
def finM (n : Nat) : Option SR → Option ER
  | some (.ret (.m i) μ) => if n ≤ i then (match μ[i]? with
    | some o => some (.ok (.m n) (μ.take n ++ [o]))
    | none => none) else none
  | _ => none
section
variable {K : PySem.W.Frag} {W : Wd} {E : XK} {F H F' H' : Hp} {L L' : List Addr} {μ μ' : List MO}
theorem Ext.drop (e : Ext F H L F' H' L') : Ext F H L F' H' L := ⟨e.ff, e.hh, e.dom, e.fr, ⟨[], by simp, by simp⟩⟩
theorem Rep.drop {N : List Addr} (r : Rep K W F' (L ++ N) μ' H') : Rep K W F' L (μ'.take L.length) H' where
  sub := r.sub
  ft := r.ft
  tabs := r.tabs
  nd := (List.nodup_append.mp r.nd).1
  len := by
    have := r.len
    simp at this
    simp; omega
  nf := fun a ha => r.nf a (List.mem_append_left _ ha)
  obj := fun i a o e1 e2 => by
    have hi : i < L.length := (List.getElem?_eq_some_iff.mp e1).1
    refine r.obj i a o (by rw [List.getElem?_append_left hi]; exact e1) ?_
    rw [List.getElem?_take] at e2
    by_cases hc : i < L.length
    · rw [if_pos hc] at e2; exact e2
    · exact absurd hi hc
theorem Rep.drop' (e : Ext F H L F' H' L') (r : Rep K W F' L' μ' H') : Rep K W F' L (μ'.take L.length) H' := by
  obtain ⟨N, rfl, _⟩ := e.lp
  exact r.drop
theorem fin_post {n : Nat} {rs : SR} {r : ER} {Q : VK} (hn : n = L.length) (hf : fin n (some rs) = some r) (hp : PostG K W E F L H r Q) : PostS K W E F L H rs { nx := fun _ H' => Q .non H', rt := Q } := by
  subst hn
  cases rs with
  | nx ρ μ1 =>
    cases hf
    exact fun σ' F' H' L' e r s => hp .non F' H' e.drop (r.drop' e) .non
  | bk ρ μ1 => cases hf
  | ct ρ μ1 => cases hf
  | ex x μ1 =>
    cases hf
    exact fun v d F' H' L' e r h1 h2 => hp v d F' H' e.drop (r.drop' e) h1 h2
  | ret s μ1 =>
    cases s with
    | un => cases hf
    | d d =>
      cases hf
      exact fun v F' H' L' e r s _ => hp v F' H' e.drop (r.drop' e) s
    | m i =>
      intro v F' H' L' e r s _
      show Q v H'
      obtain ⟨a, h1, rfl⟩ := s
      unfold fin froz at hf
      dsimp only at hf
      by_cases hi : L.length ≤ i
      · rw [if_pos hi] at hf
        have hai : F' a = none := r.nf a (List.mem_of_getElem? h1)
        obtain ⟨N, rfl, hN⟩ := e.lp
        have haN : a ∈ N := by
          rw [List.getElem?_append_right hi] at h1
          exact List.mem_of_getElem? h1
        have haL : a ∉ L := fun z => (List.nodup_append.mp r.nd).2.2 a z a haN rfl
        have hH : ¬ Al H a := hN a haN
        cases em : μ1[i]? with
        | none => rw [em] at hf; cases hf
        | some o =>
          have ob := r.obj i a o h1 em
          rw [em] at hf
          cases o with
          | ml ds =>
            cases hf
            obtain ⟨xs, ox, od⟩ := ob
            exact hp _ (upd F' a (.lst xs)) H' (e.drop.addF hH hai) (r.drop.addF ox hai haL lst_nt) (.lst upd_same (od.mono (le_upd hai)))
          | md ks =>
            cases hf
            exact hp _ (upd F' a (.dT (dtOf ks))) H' (e.drop.addF hH hai) (r.drop.addF ob hai haL dT_nt) (.dct upd_same)
      · rw [if_neg hi] at hf; cases hf
end

section
variable {K : PySem.W.Frag} {W : Wd} {E : XK} {F H F' H' : Hp} {L L' : List Addr} {μ μ' : List MO}
theorem finM_post {n : Nat} {rs : SR} {r : ER} {Q : VK} (hn : n = L.length) (hf : finM n (some rs) = some r) (hp : PostG K W E F L H r Q) : PostS K W E F L H rs { nx := fun _ H' => Q .non H', rt := Q } := by
  subst hn
  cases rs with
  | nx ρ μ1 => cases hf
  | bk ρ μ1 => cases hf
  | ct ρ μ1 => cases hf
  | ex x μ1 => cases hf
  | ret s μ1 =>
    cases s with
    | un => cases hf
    | d d => cases hf
    | m i =>
      intro v F' H' L' e r s _
      show Q v H'
      obtain ⟨a, h1, rfl⟩ := s
      unfold finM at hf
      dsimp only at hf
      by_cases hi : L.length ≤ i
      · rw [if_pos hi] at hf
        have hai : F' a = none := r.nf a (List.mem_of_getElem? h1)
        obtain ⟨N, rfl, hN⟩ := e.lp
        have haN : a ∈ N := by
          rw [List.getElem?_append_right hi] at h1
          exact List.mem_of_getElem? h1
        have haL : a ∉ L := fun z => (List.nodup_append.mp r.nd).2.2 a z a haN rfl
        cases em : μ1[i]? with
        | none => rw [em] at hf; cases hf
        | some o =>
          have ob := r.obj i a o h1 em
          rw [em] at hf
          cases hf
          have r2 := r.drop.addM hai haL ob
          refine hp _ F' H' (L ++ [a]) ⟨e.ff, e.hh, e.dom, e.fr, ⟨[a], rfl, fun b hb => ?_⟩⟩ r2 ⟨a, ?_, rfl⟩
          · rw [List.mem_singleton.mp hb]; exact hN a haN
          · rw [List.getElem?_append_right (Nat.le_refl _), Nat.sub_self]; rfl
      · rw [if_neg hi] at hf; cases hf
end
section
variable {P : Program} {w : World} {K : PySem.W.Frag} {mg : Str → Option Value} {base : Heap} {W : Wd}
/-- the context of a def's body -/
abbrev bodyCx (P : Program) (w : World) (K : PySem.W.Frag) (mg : Str → Option Value) (base : Heap) (N : List Str) (qual : Str) (scope : Scope) (f : Addr) (cd : Value) (A : Around) (outer : List Env) (s : Shared) (H : Hp) (E : XK) : Cx := cxOf (L2.CX P w) P w K mg base N qual scope f cd A outer s H E
/-- a def keeps the contract g: its body as a function fb -/
theorem fn_keeps {x qual : Str} {st : Stmt} {f : Addr} {fd : FuncData} {N ps : List Str} {k : Nat} {g : GF} {fb : SF} (Fn : Fun K x qual st f fd) (Sc : FnScope N ps (defScope st))
    (hbody : ∀ (cdv : Value) (A : Around) (outer : List Env) (s : Shared) (H : Hp) (E : XK), Room k (A.deeper (envOfC qual (defScope st) s.heap.objs.size f cdv)) → PSs (bodyCx P w K mg base N qual (defScope st) f cdv A outer s H E) (defBody st) (sOf K W E fb))
    (hsem : ∀ (ss : List S) (μ : List MO) (r : ER), ss.length = ps.length → g ss μ = some r → fin μ.length (fb (startS N.length ss) μ) = some r) : FnOk P w K mg base (L2.CX P w) (k + 1) f fd ps (spG K W ps.length g) := by
  refine Fn.okX Sc (fun vs H Q E h => h.1) fun cdv A outer s H vs Q E hr h => ⟨sOf K W E fb, hbody cdv A outer s H E hr, ?_⟩
  obtain ⟨hl, F, L, μ, ss, r, hr, hs, hg, hp⟩ := h
  have hse := hsem ss μ r (by rw [← hs.length]; exact hl) hg
  cases eb : fb (startS N.length ss) μ with
  | none => rw [eb] at hse; cases hse
  | some rs =>
    rw [eb] at hse
    exact ⟨F, L, μ, _, rs, hr, .start hs, eb, fin_post hr.len.symm hse hp⟩

theorem fn_keepsM {x qual : Str} {st : Stmt} {f : Addr} {fd : FuncData} {N ps : List Str} {k : Nat} {g : GF} {fb : SF} (Fn : Fun K x qual st f fd) (Sc : FnScope N ps (defScope st))
    (hbody : ∀ (cdv : Value) (A : Around) (outer : List Env) (s : Shared) (H : Hp) (E : XK), Room k (A.deeper (envOfC qual (defScope st) s.heap.objs.size f cdv)) → PSs (bodyCx P w K mg base N qual (defScope st) f cdv A outer s H E) (defBody st) (sOf K W E fb))
    (hsem : ∀ (ss : List S) (μ : List MO) (r : ER), ss.length = ps.length → g ss μ = some r → finM μ.length (fb (startS N.length ss) μ) = some r) : FnOk P w K mg base (L2.CX P w) (k + 1) f fd ps (spG K W ps.length g) := by
  refine Fn.okX Sc (fun vs H Q E h => h.1) fun cdv A outer s H vs Q E hr h => ⟨sOf K W E fb, hbody cdv A outer s H E hr, ?_⟩
  obtain ⟨hl, F, L, μ, ss, r, hr, hs, hg, hp⟩ := h
  have hse := hsem ss μ r (by rw [← hs.length]; exact hl) hg
  cases eb : fb (startS N.length ss) μ with
  | none => rw [eb] at hse; cases hse
  | some rs =>
    rw [eb] at hse
    exact ⟨F, L, μ, _, rs, hr, .start hs, eb, finM_post hr.len.symm hse hp⟩

/-- a def that stands at a name of the module and keeps a contract -/
structure Cal (P : Program) (w : World) (K : PySem.W.Frag) (mg : Str → Option Value) (base : Heap) (W : Wd) (k : Nat) (x : Str) (st : Stmt) (ps : List Str) (g : GF) : Prop where
  ex : ∃ f fd, mg x = some (.ref f) ∧ Fun K x x st f fd ∧ FnOk P w K mg base (L2.CX P w) k f fd ps (spG K W ps.length g)
end

/-- a call's end: data, or an error -/
def onlyD : Option ER → Option ER
  | some (.ok (.d d) μ) => some (.ok (.d d) μ)
  | some (.ok (.m i) μ) => some (.ok (.m i) μ)
  | some (.ex x μ) => some (.ex x μ)
  | _ => none
def eCall (n : Nat) (g : GF) (fa : AF) : EF := fun ρ μ => bAE (fa ρ μ) fun ss μ1 => if ss.length = n then onlyD (g ss μ1) else none
section
variable {X : Cx} {W : Wd} {E : XK} {k : Nat} {x : Str} {st : Stmt} {ps : List Str} {g : GF}
theorem spG_of {K : PySem.W.Frag} {F H : Hp} {L : List Addr} {μ : List MO} {vs : List V} {ss : List S} {res : ER} {Q : VK} {n : Nat} (hr : Rep K W F L μ H) (hd : DenSs K F L vs ss) (hl : ss.length = n) (hk : onlyD (g ss μ) = some res) (hp : PostE K W E F L H res Q) : spG K W n g vs H Q E := by
  refine ⟨by rw [hd.length]; exact hl, F, L, μ, ss, res, hr, hd, ?_, ?_⟩
  · cases eg : g ss μ with
    | none => rw [eg] at hk; cases hk
    | some r =>
      rw [eg] at hk
      cases r with
      | ok s μ' => cases s <;> first | (cases hk; rfl) | cases hk
      | ex x μ' => cases hk; rfl
  · cases eg : g ss μ with
    | none => rw [eg] at hk; cases hk
    | some r =>
      rw [eg] at hk
      cases r with
      | ok s μ' =>
        cases s with
        | d d => cases hk; exact fun v F' H' e r h => hp v F' H' L e r h (by simp)
        | un => cases hk
        | m i => cases hk; exact fun v F' H' L' e r h => hp v F' H' L' e r h (by simp)
      | ex x μ' => cases hk; exact fun v d F' H' e r h1 h2 => hp v d F' H' L e r h1 h2
theorem q_call {e : Expr} {es : List Expr} {fa : AF} {p pos : Pos} (C : Cal X.prog X.w X.K X.mg X.base W k x st ps g) (hr : Room k X.A) (hx : Passes (L2.CX X.prog X.w) X E) (ha : PA X (e :: es) (aOf X.K W E fa))
    (hb : ∀ (kV doc pm : Value) (an : Option Addr) (cdv ct : Value) (us : List Value), us.length = ps.length → bindArgs (PySem.W.fnOf x x (defArgs st) (defBody st) (defScope st) .none kV doc pm an cdv ct) ⟨us, []⟩ = pure (ps.zip us))
    (hg : Gl X x := by rfl) (hdb : (x == ("__debug__" : Str)) = false := by decide) (he : starEach (e :: es) X.env = (false, eval e X.env) :: starEach es X.env := by rfl) (hpl : (backTo pos (starEach es X.env)).any (·.1) = false := by rfl) :
    PE X (.Call (.Name x p) (e :: es) [] pos) (tOf X.K W E (eCall ps.length g fa)) := by
  obtain ⟨f, fd, hm, hF, hok⟩ := C.ex
  refine PE.weak (pe_call hok hr hg hm hF.kp (hF.binds hb) .nil hx ha hdb he hpl) fun σ H Q h => ?_
  obtain ⟨F, L, μ, ρ, res, hr, hs, hf, hp⟩ := h
  refine aOf_ok hr hs hf hp fun ss vs μ1 F1 H1 L1 hk e1 r1 d1 p1 => ?_
  show spG X.K W ps.length g (vs ++ []) H1 Q E
  rw [List.append_nil]
  by_cases hl : ss.length = ps.length
  · rw [if_pos hl] at hk
    exact spG_of r1 d1 hl hk p1
  · rw [if_neg hl] at hk; cases hk
/-- a call by keywords: all arguments by name; perm puts them in the parameters' order -/
def eCallK (n : Nat) (g : GF) (perm : List S → List S → List S) (fa fk : AF) : EF := fun ρ μ => bAE (fa ρ μ) fun ss μ1 => bAE (fk ρ μ1) fun zs μ2 => if (perm ss zs).length = n then onlyD (g (perm ss zs) μ2) else none
theorem q_callK {e : Expr} {es : List Expr} {kws : List Keyword} {ks : List Str} {fa fk : AF} {p pos : Pos} {perm : {α : Type} → List α → List α → List α} (C : Cal X.prog X.w X.K X.mg X.base W k x st ps g) (hr : Room k X.A) (hx : Passes (L2.CX X.prog X.w) X E) (ha : PA X (e :: es) (aOf X.K W E fa)) (hkw : PK X kws (aOf X.K W E fk))
    (hb : ∀ (kV doc pm : Value) (an : Option Addr) (cdv ct : Value) (us ws : List Value), (perm us ws).length = ps.length → bindArgs (PySem.W.fnOf x x (defArgs st) (defBody st) (defScope st) .none kV doc pm an cdv ct) ⟨us, ks.zip ws⟩ = pure (ps.zip (perm us ws)))
    (hrel : ∀ {vs : List V} {us : List Value} {zs : List V} {ws : List Value}, Vals vs us → Vals zs ws → Vals (perm vs zs) (perm us ws))
    (hden : ∀ {F : Hp} {L : List Addr} {vs zs : List V} {ss us : List S}, DenSs X.K F L vs ss → DenSs X.K F L zs us → DenSs X.K F L (perm vs zs) (perm ss us))
    (hg : Gl X x := by rfl) (hall : (backToKw pos (keywordEach kws X.env)).all (·.1.isSome) = true := by rfl) (hks : (backToKw pos (keywordEach kws X.env)).filterMap (·.1) = ks := by rfl)
    (hdb : (x == ("__debug__" : Str)) = false := by decide) (he : starEach (e :: es) X.env = (false, eval e X.env) :: starEach es X.env := by rfl)
    (hpl : ((backTo pos (starEach (e :: es) X.env)).any (·.1) || (backToKw pos (keywordEach kws X.env)).any (·.1.isNone)) = false := by rfl) :
    PE X (.Call (.Name x p) (e :: es) kws pos) (tOf X.K W E (eCallK ps.length g perm fa fk)) := by
  obtain ⟨f, fd, hm, hF, hok⟩ := C.ex
  have kb : KBinds X.K fd ps ks perm perm := by
    obtain ⟨oc, od, kV, doc, pm, an, cdv, ct, osl, rfl, lk, hcd⟩ := hF.ex
    exact ⟨fun s us ws _ hl => .of_eq (hb kV doc pm an cdv ct us ws hl), hrel⟩
  refine PE.weak (pe_callK hok hr hg hm hF.kp kb hx ha hkw hall hks hdb he hpl) fun σ H Q h => ?_
  obtain ⟨F, L, μ, ρ, res, hr, hs, hf, hp⟩ := h
  refine aOf_ok hr hs hf hp fun ss vs μ1 F1 H1 L1 hk e1 r1 d1 p1 => ?_
  refine aOf_ok r1 (hs.mono e1) hk p1 fun us zs μ2 F2 H2 L2' hk2 e2 r2 d2 p2 => ?_
  show spG X.K W ps.length g (perm vs zs) H2 Q E
  by_cases hl : (perm ss us).length = ps.length
  · rw [if_pos hl] at hk2
    exact spG_of r2 (hden (d1.mono e2) d2) hl hk2 p2
  · rw [if_neg hl] at hk2; cases hk2
end
end DL
end

section
set_option Elab.async false
set_option linter.all false
set_option maxRecDepth 100000
set_option maxHeartbeats 4000000
/-! DLops: operators and built-ins on data. -/
namespace DL
open PySem PySem.Spec PyProof.Rows L2

/-! ### views -/
def viewL (μ : List MO) : S → Option (List D)
  | .d (.lst ds) => some ds
  | .d (.scr ns) => some (ns.map .int)
  | .m i => (match μ[i]? with | some (.ml ds) => some ds | _ => none)
  | _ => none
def viewX (μ : List MO) : S → Option (List D)
  | .d (.lst ds) => some ds
  | .m i => (match μ[i]? with | some (.ml ds) => some ds | _ => none)
  | _ => none
def viewT : S → Option (List D)
  | .d (.tup ds) => some ds
  | _ => none
section
variable {K : PySem.W.Frag} {W : Wd} {E : XK} {F H : Hp} {L : List Addr} {μ : List MO} {s : S} {v : V} {ds : List D}
theorem viewX_ok (hr : Rep K W F L μ H) (hd : DenS K F L v s) (h : viewX μ s = some ds) : ∃ a xs, v = .ref a ∧ H a = some (.lst xs) ∧ DenL K F xs ds := by
  unfold viewX at h
  split at h
  · cases h
    cases hd with
    | lst h1 h2 => exact ⟨_, _, rfl, hr.sub _ _ h1, h2⟩
  · rename_i i
    obtain ⟨a, h1, rfl⟩ := hd
    split at h
    · rename_i e
      cases h
      obtain ⟨xs, q1, q2⟩ := hr.obj i a _ h1 e
      exact ⟨a, xs, rfl, q1, q2⟩
    · cases h
  · cases h
theorem viewL_ok (hr : Rep K W F L μ H) (hd : DenS K F L v s) (h : viewL μ s = some ds) : ∃ a xs, v = .ref a ∧ SqL K H a xs ∧ DenL K F xs ds := by
  unfold viewL at h
  split at h
  · cases h
    cases hd with
    | lst h1 h2 => exact ⟨_, _, rfl, SqL.of (hr.sub _ _ h1), h2⟩
  · cases h
    cases hd with
    | scr h1 => exact ⟨_, _, rfl, Le.seqL hr.sub h1, DenL.of_ints _⟩
  · rename_i i
    obtain ⟨a, h1, rfl⟩ := hd
    split at h
    · rename_i e
      cases h
      obtain ⟨xs, q1, q2⟩ := hr.obj i a _ h1 e
      exact ⟨a, xs, rfl, SqL.of q1, q2⟩
    · cases h
  · cases h
theorem viewT_ok (hr : Rep K W F L μ H) (hd : DenS K F L v s) (h : viewT s = some ds) : ∃ a xs, v = .ref a ∧ SqT K F a xs ∧ SqT K H a xs ∧ DenL K F xs ds := by
  unfold viewT at h
  split at h
  · cases h
    cases hd with
    | tup h1 h2 => exact ⟨_, _, rfl, h1, Le.seqT hr.sub h1, h2⟩
  · cases h
theorem post_d {d : D} {Q : VK} (hr : Rep K W F L μ H) (hp : PostE K W E F L H (.ok (.d d) μ) Q) (h : Den K F v d) : Q v H := hp v F H L .refl hr h (by simp)
end

/-! ### a tuple times one is the tuple -/
theorem tuple_times1 (l : Addr) (items : Array Value) (n : Nat) (dd : Option Addr) (sl : Array (Option Value)) (u : Tok) :
    Meets (Builtin.«tuple.__mul__» ⟨[.ref l, .int 1 u], []⟩) (fun _ R s => s.heap.get? l = some { cls := .type "tuple", dict := dd, data := .seq items n, slots := sl } ∧ R (.ok (.ret (Value.ref l))) s) :=
  .of_wp fun prog w A R s h => by
    obtain ⟨hp, g, d, tk, os⟩ := s
    obtain ⟨hl, h⟩ := h
    have f1 := AutoSeq1.idx_int
    wp_walk using wpAny_loadPart' hl
    all_goals first | exact ⟨_, rfl, h⟩ | skip
    repeat (first
      | (refine wpAny_ite_false (by decide) ?_; wp_walk using wpAny_loadPart' hl)
      | (refine wpAny_ite_true (by simp) ?_; wp_walk using wpAny_loadPart' hl))
    all_goals exact ⟨_, rfl, h⟩
def rRepT1 (K : PySem.W.Frag) : R2 := fun x y H Q => ∃ l xs, x = .ref l ∧ y = .int 1 ∧ SqT K H l xs ∧ xs ≠ [] ∧ Q (.ref l) H
theorem op_times1 {X : Cx} : OpR X (binaryOp .Mult) (rRepT1 X.K) := by
  intro pins s σ H x y v u Q I rx ry h
  obtain ⟨l, xs, rfl, rfl, hT, hne, q⟩ := h
  cases rx
  obtain ⟨t, rfl⟩ := ry
  obtain ⟨its, r, ⟨⟨cls, dd, data, sl⟩, ho, hc, n, hd⟩, hs⟩ := I.tuple hT
  simp only at hc hd
  subst hc hd
  exact wpAny_binaryOp_repeat_ref (T := "tuple") (U := "int") (by decide) ⟨_, ho, rfl⟩ (fun s' => typeIs_int s' 1 t) noFill_tuple_mul F.fills_int_mul F.slot_int_rmul repeat_tuple F.slot_int_index.lookup
    (call_meets F.slot_int_rmul (typeIs_int s 1 t) F.entry_int_rmul (F.args_int_rmul_2 _ _) (int_rmul_tuple 1 t l its.toArray n dd sl)
      ⟨ho, rfl, ⟨_, ho, rfl⟩, call_meets F.slot_tuple_mul ⟨_, ho, rfl⟩ F.entry_tuple_mul (F.args_tuple_mul_2 _ _) (tuple_times1 l its.toArray n dd sl t) ⟨ho, .ref l, H, I, rfl, q⟩⟩)
theorem op_mulAll {X : Cx} : OpR X (binaryOp .Mult) (fun x y H Q => (rI CMul fun i j => .int (i * j)) x y H Q ∨ rRepT X.K x y H Q ∨ rRepT1 X.K x y H Q ∨ rRep x y H Q) := OpR.or op_mul (OpR.or op_repT (OpR.or op_times1 op_rep))

/-! ### comparison of data -/
mutual
def D.py : D → PyData
  | .non => .none | .bl b => .bool b | .int i => .int i | .str s => .str s
  | .tup ds => .tuple (D.pys ds) | .lst ds => .list (D.pys ds) | .dct _ => .none | .scr _ => .none
def D.pys : List D → List PyData
  | [] => []
  | d :: r => d.py :: D.pys r
end
mutual
/-- depth at most n, texts of real signs, no dict -/
def okD : Nat → D → Bool
  | _, .non => true | _, .bl _ => true | _, .int _ => true
  | _, .str s => PyData.strOk s
  | 0, .tup _ => false | 0, .lst _ => false
  | n + 1, .tup ds => okDs n ds | n + 1, .lst ds => okDs n ds
  | _, .dct _ => false | _, .scr _ => false
def okDs : Nat → List D → Bool
  | _, [] => true
  | n, d :: r => okD n d && okDs n r
end
mutual
theorem okD_lay : ∀ (n : Nat) (d : D), okD n d = true → d.py.canLay0 = true ∧ d.py.depth ≤ n + 1
  | n, .non, _ => ⟨rfl, by simp [D.py, PyData.depth]⟩
  | n, .bl b, _ => ⟨rfl, by simp [D.py, PyData.depth]⟩
  | n, .int i, _ => ⟨rfl, by simp [D.py, PyData.depth]⟩
  | n, .str s, h => ⟨by simpa [D.py, PyData.canLay0, okD] using h, by simp [D.py, PyData.depth]⟩
  | 0, .tup ds, h => by simp [okD] at h
  | 0, .lst ds, h => by simp [okD] at h
  | n + 1, .tup ds, h => by
    obtain ⟨h1, h2⟩ := okDs_lay n ds (by simpa [okD] using h)
    exact ⟨by simpa [D.py, PyData.canLay0] using h1, by simp [D.py, PyData.depth]; omega⟩
  | n + 1, .lst ds, h => by
    obtain ⟨h1, h2⟩ := okDs_lay n ds (by simpa [okD] using h)
    exact ⟨by simpa [D.py, PyData.canLay0] using h1, by simp [D.py, PyData.depth]; omega⟩
  | n, .dct ks, h => by cases n <;> simp [okD] at h
  | n, .scr ks, h => by cases n <;> simp [okD] at h
theorem okDs_lay : ∀ (n : Nat) (ds : List D), okDs n ds = true → PyData.canLayAll0 (D.pys ds) = true ∧ PyData.depthAll (D.pys ds) ≤ n + 1
  | n, [], _ => ⟨rfl, by simp [D.pys, PyData.depthAll]⟩
  | n, d :: r, h => by
    have h : okD n d = true ∧ okDs n r = true := by simpa [okDs] using h
    obtain ⟨a1, a2⟩ := okD_lay n d h.1
    obtain ⟨b1, b2⟩ := okDs_lay n r h.2
    exact ⟨by simp [D.pys, PyData.canLayAll0, a1, b1], by simp [D.pys, PyData.depthAll]; omega⟩
end
theorem okD_shaped {n : Nat} {d : D} (h : okD n d = true) (hn : n ≤ 60) : SeqAt.shaped d.py = true := by
  obtain ⟨h1, h2⟩ := okD_lay n d h
  unfold SeqAt.shaped
  rw [h1, decide_eq_true (by omega)]; rfl
mutual
theorem Den.dp {K : PySem.W.Frag} {F H : Hp} (e : Le F H) : ∀ {n : Nat} {v : V} {d : D}, Den K F v d → okD n d = true → Dp K H v d.py
  | _, _, _, .non, _ => .non
  | _, _, _, .bl b, _ => .bl b
  | _, _, _, .int i, _ => .int i
  | _, _, _, .str s, _ => .str s
  | 0, _, _, .tup _ _, h => by simp [okD] at h
  | 0, _, _, .lst _ _, h => by simp [okD] at h
  | n + 1, _, _, .tup h1 h2, h => .tup (e.seqT h1) (DenL.dp e h2 (n := n) (by simpa [okD] using h))
  | n + 1, _, _, .lst h1 h2, h => .lst (SqL.of (e _ _ h1)) (DenL.dp e h2 (n := n) (by simpa [okD] using h))
  | n, _, _, .dct _, h => by cases n <;> simp [okD] at h
  | n, _, _, .scr _, h => by cases n <;> simp [okD] at h
theorem DenL.dp {K : PySem.W.Frag} {F H : Hp} (e : Le F H) : ∀ {n : Nat} {vs : List V} {ds : List D}, DenL K F vs ds → okDs n ds = true → DpAll K H vs (D.pys ds)
  | _, _, _, .nil, _ => .nil
  | n, _, _, .cons h1 h2, h => by
    rename_i v vs d ds
    have h : okD n d = true ∧ okDs n ds = true := by simpa [okDs] using h
    exact .cons (Den.dp e h1 h.1) (DenL.dp e h2 h.2)
end
mutual
def eqvD : D → D → Bool
  | .non, .non => true
  | .bl a, .bl b => a == b
  | .bl a, .int j => (if a then 1 else 0) == j
  | .int i, .bl b => i == (if b then 1 else 0)
  | .int i, .int j => i == j
  | .str x, .str y => x == y
  | .lst xs, .lst ys => eqvDs xs ys
  | .tup xs, .tup ys => eqvDs xs ys
  | _, _ => false
def eqvDs : List D → List D → Bool
  | [], [] => true
  | x :: xs, y :: ys => eqvD x y && eqvDs xs ys
  | _, _ => false
end
mutual
theorem eqvD_py : ∀ {n m : Nat} (d e : D), okD n d = true → okD m e = true → PyData.eqv d.py e.py = eqvD d e
  | n, m, d, .dct _, _, h => by cases m <;> simp [okD] at h
  | n, m, d, .scr _, _, h => by cases m <;> simp [okD] at h
  | n, m, .dct _, e, h, _ => by cases n <;> simp [okD] at h
  | n, m, .scr _, e, h, _ => by cases n <;> simp [okD] at h
  | n, m, .non, e, _, he => by cases e <;> first | (cases m <;> simp [okD] at he; done) | simp [D.py, PyData.eqv, eqvD]
  | n, m, .bl b, e, _, he => by cases e <;> first | (cases m <;> simp [okD] at he; done) | simp [D.py, PyData.eqv, eqvD]
  | n, m, .int b, e, _, he => by cases e <;> first | (cases m <;> simp [okD] at he; done) | simp [D.py, PyData.eqv, eqvD]
  | n, m, .str b, e, _, he => by cases e <;> first | (cases m <;> simp [okD] at he; done) | simp [D.py, PyData.eqv, eqvD]
  | 0, m, .tup xs, e, h, _ => by simp [okD] at h
  | 0, m, .lst xs, e, h, _ => by simp [okD] at h
  | n + 1, m, .tup xs, e, h, he => by
    cases e with
    | tup ys =>
      cases m with
      | zero => simp [okD] at he
      | succ m =>
        have := eqvDs_py (n := n) (m := m) xs ys (by simpa [okD] using h) (by simpa [okD] using he)
        simp only [D.py, PyData.eqv, eqvD]; exact this
    | _ => simp [D.py, PyData.eqv, eqvD] <;> (cases m <;> simp [okD] at he)
  | n + 1, m, .lst xs, e, h, he => by
    cases e with
    | lst ys =>
      cases m with
      | zero => simp [okD] at he
      | succ m =>
        have := eqvDs_py (n := n) (m := m) xs ys (by simpa [okD] using h) (by simpa [okD] using he)
        simp only [D.py, PyData.eqv, eqvD]; exact this
    | _ => simp [D.py, PyData.eqv, eqvD] <;> (cases m <;> simp [okD] at he)
theorem eqvDs_py : ∀ {n m : Nat} (ds es : List D), okDs n ds = true → okDs m es = true → PyData.eqvAll (D.pys ds) (D.pys es) = eqvDs ds es
  | _, _, [], [], _, _ => by simp [D.pys, PyData.eqvAll, eqvDs]
  | _, _, [], _ :: _, _, _ => by simp [D.pys, PyData.eqvAll, eqvDs]
  | _, _, _ :: _, [], _, _ => by simp [D.pys, PyData.eqvAll, eqvDs]
  | n, m, d :: ds, e :: es, h, he => by
    have h : okD n d = true ∧ okDs n ds = true := by simpa [okDs] using h
    have he : okD m e = true ∧ okDs m es = true := by simpa [okDs] using he
    simp only [D.pys, PyData.eqvAll, eqvDs]
    rw [eqvD_py d e h.1 he.1, eqvDs_py ds es h.2 he.2]
end
/-- lists made in a def are data too -/
def toD (μ : List MO) : S → Option D
  | .d x => some x
  | _ => none
def gEq : G2 := fun s u μ => match toD μ s, toD μ u with
  | some x, some y => if okD 20 x = true ∧ okD 20 y = true then some (.ok (.d (.bl (eqvD x y))) μ) else none
  | _, _ => none
def gNe : G2 := fun s u μ => match toD μ s, toD μ u with
  | some x, some y => if okD 20 x = true ∧ okD 20 y = true then some (.ok (.d (.bl (!eqvD x y))) μ) else none
  | _, _ => none
section
variable {K : PySem.W.Frag} {W : Wd} {E : XK}
theorem o2_eq : Op2 K W E (rEqD K) gEq := fun F L μ H x y s u res Q hr h1 h2 hg hp => by
  unfold gEq toD at hg
  cases s with
  | un => cases hg
  | m _ => cases hg
  | d a =>
    cases u with
    | un => cases hg
    | m _ => cases hg
    | d b =>
      simp only at hg
      by_cases hc : okD 20 a = true ∧ okD 20 b = true
      · rw [if_pos hc] at hg; cases hg
        refine ⟨a.py, b.py, Den.dp hr.sub h1 hc.1, Den.dp hr.sub h2 hc.2, okD_shaped hc.1 (by decide), okD_shaped hc.2 (by decide), ?_⟩
        rw [eqvD_py a b hc.1 hc.2]
        exact post_d hr hp (.bl _)
      · rw [if_neg hc] at hg; cases hg
theorem o2_ne : Op2 K W E (rNeD K) gNe := fun F L μ H x y s u res Q hr h1 h2 hg hp => by
  unfold gNe toD at hg
  cases s with
  | un => cases hg
  | m _ => cases hg
  | d a =>
    cases u with
    | un => cases hg
    | m _ => cases hg
    | d b =>
      simp only at hg
      by_cases hc : okD 20 a = true ∧ okD 20 b = true
      · rw [if_pos hc] at hg; cases hg
        refine ⟨a.py, b.py, Den.dp hr.sub h1 hc.1, Den.dp hr.sub h2 hc.2, okD_shaped hc.1 (by decide), okD_shaped hc.2 (by decide), ?_⟩
        rw [eqvD_py a b hc.1 hc.2]
        exact post_d hr hp (.bl _)
      · rw [if_neg hc] at hg; cases hg

/-! ### ints -/
def gI2 (f : Int → Int → D) (C : Int → Int → Bool) : G2 := fun s u μ => match s, u with
  | .d (.int i), .d (.int j) => if C i j = true then some (.ok (.d (f i j)) μ) else none
  | _, _ => none
theorem o2_int {g : Int → Int → V} {f : Int → Int → D} {C' : Int → Int → Prop} {C : Int → Int → Bool} (hC : ∀ i j, C i j = true → C' i j) (hd : ∀ F i j, Den K F (g i j) (f i j)) : Op2 K W E (rI C' g) (gI2 f C) := fun F L μ H x y s u res Q hr h1 h2 hg hp => by
  unfold gI2 at hg
  split at hg
  · rename_i i j
    by_cases hc : C i j = true
    · rw [if_pos hc] at hg; cases hg
      cases h1; cases h2
      exact ⟨i, j, rfl, rfl, hC i j hc, post_d hr hp (hd F i j)⟩
    · rw [if_neg hc] at hg; cases hg
  · cases hg
def gI20 (f : Int → Int → D) : G2 := fun s u μ => match s, u with
  | .d (.int i), .d (.int j) => some (.ok (.d (f i j)) μ)
  | _, _ => none
theorem o2_int0 {g : Int → Int → V} {f : Int → Int → D} (hd : ∀ F i j, Den K F (g i j) (f i j)) : Op2 K W E (rI0 g) (gI20 f) := fun F L μ H x y s u res Q hr h1 h2 hg hp => by
  unfold gI20 at hg
  split at hg
  · rename_i i j
    cases hg
    cases h1; cases h2
    exact ⟨i, j, rfl, rfl, post_d hr hp (hd F i j)⟩
  · cases hg
def gLt : G2 := gI20 fun i j => .bl (decide (i < j))
def gLe : G2 := gI20 fun i j => .bl (decide (i ≤ j))
def gGt : G2 := gI20 fun i j => .bl (decide (j < i))
def gGe : G2 := gI20 fun i j => .bl (decide (j ≤ i))
def gSub : G2 := gI20 fun i j => .int (i - j)
def small64B (i : Int) : Bool := decide (-(2 ^ 64) < i) && decide (i < 2 ^ 64)
def gFdiv : G2 := gI2 (fun i j => .int (i / j)) fun i j => decide (0 < j) && decide (j < 1073741824)
def gMod : G2 := gI2 (fun i j => .int (i % j)) fun i j => decide (0 < j)
def gPow : G2 := gI2 (fun i j => .int (i ^ j.toNat)) fun i j => decide (0 ≤ j) && decide (j ≤ 100) && decide (i.natAbs < 1000)
theorem o2_lt : Op2 K W E (rI0 fun i j => .bl (decide (i < j))) gLt := o2_int0 fun _ _ _ => .bl _
theorem o2_le : Op2 K W E (rI0 fun i j => .bl (decide (i ≤ j))) gLe := o2_int0 fun _ _ _ => .bl _
theorem o2_gt : Op2 K W E (rI0 fun i j => .bl (decide (j < i))) gGt := o2_int0 fun _ _ _ => .bl _
theorem o2_ge : Op2 K W E (rI0 fun i j => .bl (decide (j ≤ i))) gGe := o2_int0 fun _ _ _ => .bl _
theorem o2_sub : Op2 K W E (rI0 fun i j => .int (i - j)) gSub := o2_int0 fun _ _ _ => .int _
theorem o2_fdiv : Op2 K W E (rI CDiv fun i j => .int (i / j)) gFdiv := o2_int (fun i j h => by
  have h : 0 < j ∧ j < 1073741824 := by simpa using h
  exact h) fun _ _ _ => .int _
theorem o2_mod : Op2 K W E (rI (fun _ j => 0 < j) fun i j => .int (i % j)) gMod := o2_int (fun i j h => by simpa using h) fun _ _ _ => .int _
theorem o2_pow : Op2 K W E (rI CPow fun i j => .int (i ^ j.toNat)) gPow := o2_int (fun i j h => by
  have h : (0 ≤ j ∧ j ≤ 100) ∧ i.natAbs < 1000 := by simpa using h
  exact ⟨h.1.1, by omega, by have := h.2; omega⟩) fun _ _ _ => .int _

/-! ### +, * of anything -/
def small24 : Nat := 200000
theorem small24_line {n : Nat} (h : n ≤ small24) : n ≤ sizeLine := Nat.le_trans h (by decide)
def gAdd (mk : Bool) : G2 := fun s u μ => match s, u with
  | .d (.int i), .d (.int j) => some (.ok (.d (.int (i + j))) μ)
  | .d (.str a), .d (.str b) => if a.length + b.length ≤ small24 then some (.ok (.d (.str (a ++ b))) μ) else none
  | s, u => match viewT s, viewT u with
    | some xs, some ys => if xs.length + ys.length ≤ small24 then some (.ok (.d (.tup (xs ++ ys))) μ) else none
    | _, _ => match viewX μ s, viewX μ u with
      | some xs, some ys => if xs.length + ys.length ≤ small24 then newL mk (xs ++ ys) μ else none
      | _, _ => none
def rAddAll (K : PySem.W.Frag) : R2 := fun x y H Q =>
  (rI0 fun i j => .int (i + j)) x y H Q ∨ (∃ i j, x = .str i ∧ y = .str j ∧ i.length + j.length ≤ sizeLine ∧ Q (.str (i ++ j)) H) ∨ rCatA K x y H Q ∨ rCat x y H Q
theorem op_addAll {X : Cx} : OpR X (binaryOp .Add) (rAddAll X.K) := OpR.or op_add (OpR.or op_add_str (OpR.or op_catA op_cat))
theorem o2_add {mk : Bool} : Op2 K W E (rAddAll K) (gAdd mk) := fun F L μ H x y s u res Q hr h1 h2 hg hp => by
  unfold gAdd at hg
  split at hg
  · cases hg; cases h1; cases h2
    exact .inl ⟨_, _, rfl, rfl, post_d hr hp (.int _)⟩
  · rename_i a b
    by_cases hl : a.length + b.length ≤ small24
    · rw [if_pos hl] at hg; cases hg; cases h1; cases h2
      exact .inr (.inl ⟨_, _, rfl, rfl, small24_line hl, post_d hr hp (.str _)⟩)
    · rw [if_neg hl] at hg; cases hg
  · split at hg
    · rename_i xs ys e1 e2
      by_cases hl : xs.length + ys.length ≤ small24
      · rw [if_pos hl] at hg; cases hg
        obtain ⟨a, as, rfl, fa, ha, da⟩ := viewT_ok hr h1 e1
        obtain ⟨b, bs, rfl, fb, hb, db⟩ := viewT_ok hr h2 e2
        refine .inr (.inr (.inl ⟨a, b, as, bs, rfl, rfl, ha, hb, small24_line (by rw [da.length, db.length]; exact hl), fun ea => ?_, fun _ eb => ?_, fun _ _ p np => ?_⟩))
        · subst ea
          cases da
          exact post_d hr hp (.tup fb (by simpa using db))
        · subst eb
          cases db
          exact post_d hr hp (.tup fa (by simpa using da))
        · exact post_newT hr hp np (da.append db)
      · rw [if_neg hl] at hg; cases hg
    · split at hg
      · rename_i xs ys e1 e2
        by_cases hl : xs.length + ys.length ≤ small24
        · rw [if_pos hl] at hg
          obtain ⟨a, as, rfl, ha, da⟩ := viewX_ok hr h1 e1
          obtain ⟨b, bs, rfl, hb, db⟩ := viewX_ok hr h2 e2
          exact .inr (.inr (.inr ⟨a, b, as, bs, rfl, rfl, ha, hb, small24_line (by rw [da.length, db.length]; exact hl), fun p np => post_newL hr hg hp np (da.append db)⟩))
        · rw [if_neg hl] at hg; cases hg
      · cases hg
def gMul (mk : Bool) : G2 := fun s u μ => match s, u with
  | .d (.int i), .d (.int j) => if small64B i || small64B j then some (.ok (.d (.int (i * j))) μ) else none
  | s, .d (.int k) => match viewT s with
    | some xs => if xs ≠ [] ∧ 2 ≤ k ∧ k ≤ 1000 ∧ xs.length ≤ 1000 then some (.ok (.d (.tup (List.replicate k.toNat xs).flatten)) μ) else if xs ≠ [] ∧ k = 1 then some (.ok (.d (.tup xs)) μ) else none
    | none => match viewX μ s with
      | some xs => if 0 ≤ k ∧ k ≤ 1000 ∧ xs.length ≤ 200 then newL mk (List.replicate k.toNat xs).flatten μ else none
      | none => none
  | _, _ => none
theorem o2_mulI {mk : Bool} : Op2 K W E (fun x y H Q => (rI CMul fun i j => .int (i * j)) x y H Q ∨ rRepT K x y H Q ∨ rRepT1 K x y H Q ∨ rRep x y H Q) (gMul mk) := fun F L μ H x y s u res Q hr h1 h2 hg hp => by
  unfold gMul at hg
  split at hg
  · rename_i i j
    by_cases hc : (small64B i || small64B j) = true
    · rw [if_pos hc] at hg; cases hg; cases h1; cases h2
      refine .inl ⟨i, j, rfl, rfl, ?_, post_d hr hp (.int _)⟩
      unfold small64B at hc
      simp only [Bool.or_eq_true, Bool.and_eq_true, decide_eq_true_eq] at hc
      exact hc
    · rw [if_neg hc] at hg; cases hg
  · rename_i k hns
    cases h2
    split at hg
    · rename_i xs e1
      obtain ⟨a, as, rfl, fa, ha, da⟩ := viewT_ok hr h1 e1
      have hl := da.length
      have hne : xs ≠ [] → as ≠ [] := fun hx z => hx (by rw [z] at hl; exact List.eq_nil_of_length_eq_zero hl.symm)
      by_cases hc : xs ≠ [] ∧ 2 ≤ k ∧ k ≤ 1000 ∧ xs.length ≤ 1000
      · rw [if_pos hc] at hg; cases hg
        exact .inr (.inl ⟨a, k, as, rfl, rfl, ha, hne hc.1, hc.2.1, hc.2.2.1, by omega, fun p np => post_newT hr hp np (da.rep _)⟩)
      · rw [if_neg hc] at hg
        by_cases hc1 : xs ≠ [] ∧ k = 1
        · rw [if_pos hc1] at hg; cases hg
          obtain ⟨hx, rfl⟩ := hc1
          exact .inr (.inr (.inl ⟨a, as, rfl, rfl, ha, hne hx, post_d hr hp (.tup fa da)⟩))
        · rw [if_neg hc1] at hg; cases hg
    · split at hg
      · rename_i xs e1
        by_cases hc : 0 ≤ k ∧ k ≤ 1000 ∧ xs.length ≤ 200
        · rw [if_pos hc] at hg
          obtain ⟨a, as, rfl, ha, da⟩ := viewX_ok hr h1 e1
          have hl := da.length
          refine .inr (.inr (.inr ⟨a, k, as, rfl, rfl, ha, by omega, by omega, ?_, fun p np => post_newL hr hg hp np (da.rep _)⟩))
          have : as.length * k.toNat ≤ 200 * 1000 := Nat.mul_le_mul (by omega) (by omega)
          exact small24_line this
        · rw [if_neg hc] at hg; cases hg
      · cases hg
  · cases hg
end
end DL
end

section
set_option Elab.async false
set_option linter.all false
set_option maxRecDepth 100000
set_option maxHeartbeats 4000000
/-! DLops2: membership, subscripts, slices, calls of built-ins, walks. -/
namespace DL
open PySem PySem.Spec PyProof.Rows L2

section
variable {K : PySem.W.Frag} {W : Wd} {E : XK}
/-! ### None, booleans -/
def gIsN : G2 := fun s u μ => match s, u with
  | .d .non, .d .non => some (.ok (.d (.bl true)) μ)
  | .d _, .d .non => some (.ok (.d (.bl false)) μ)
  | _, _ => none
def gNotN : G2 := fun s u μ => match s, u with
  | .d .non, .d .non => some (.ok (.d (.bl false)) μ)
  | .d _, .d .non => some (.ok (.d (.bl true)) μ)
  | _, _ => none
theorem Den.non_iff {F : Hp} {v : V} {d : D} (h : Den K F v d) : v = .non ↔ d = .non := by
  cases h <;> simp
theorem o2_isN : Op2 K W E (fun x y H Q => y = .non ∧ Q (.bl (decide (x = .non))) H) gIsN := fun F L μ H x y s u res Q hr h1 h2 hg hp => by
  unfold gIsN at hg
  split at hg
  · cases hg; cases h1; cases h2
    exact ⟨rfl, post_d hr hp (.bl true)⟩
  · rename_i d hn
    cases hg; cases h2
    have hn' : d ≠ .non := fun z => by subst z; exact hn rfl
    have : x ≠ .non := fun z => hn' ((Den.non_iff (show Den K F x d from h1)).mp z)
    refine ⟨rfl, ?_⟩
    rw [decide_eq_false this]
    exact post_d hr hp (.bl false)
  · cases hg
theorem o2_notN : Op2 K W E (fun x y H Q => y = .non ∧ Q (.bl (!decide (x = .non))) H) gNotN := fun F L μ H x y s u res Q hr h1 h2 hg hp => by
  unfold gNotN at hg
  split at hg
  · cases hg; cases h1; cases h2
    exact ⟨rfl, post_d hr hp (.bl false)⟩
  · rename_i d hn
    cases hg; cases h2
    have hn' : d ≠ .non := fun z => by subst z; exact hn rfl
    have : x ≠ .non := fun z => hn' ((Den.non_iff (show Den K F x d from h1)).mp z)
    refine ⟨rfl, ?_⟩
    rw [decide_eq_false this]
    exact post_d hr hp (.bl true)
  · cases hg
def gNotB : G2 := fun s u μ => match s, u with
  | .d (.bl a), .d (.bl b) => some (.ok (.d (.bl (!decide (a = b)))) μ)
  | _, _ => none
theorem o2_notB : Op2 K W E rNotB gNotB := fun F L μ H x y s u res Q hr h1 h2 hg hp => by
  unfold gNotB at hg
  split at hg
  · cases hg; cases h1; cases h2
    exact ⟨_, _, rfl, rfl, post_d hr hp (.bl _)⟩
  · cases hg

/-! ### in, not in -/
def allInts : List D → Option (List Int)
  | [] => some []
  | .int i :: r => (allInts r).map (i :: ·)
  | _ :: _ => none
theorem allInts_ok : ∀ {ds : List D} {ns : List Int}, allInts ds = some ns → ds = ns.map D.int
  | [], ns, h => by cases h; rfl
  | d :: r, ns, h => by
    cases d with
    | int i =>
      unfold allInts at h
      cases e : allInts r with
      | none => rw [e] at h; cases h
      | some ms => rw [e] at h; cases h; rw [allInts_ok e]; rfl
    | _ => cases h
theorem allInts_map : ∀ ns : List Int, allInts (ns.map D.int) = some ns
  | [] => rfl
  | n :: ns => by simp [allInts, allInts_map ns]
def gIn (neg : Bool) : G2 := fun s u μ => match s, viewT u with
  | .d (.int i), some ds => (match allInts ds with
    | some ns => some (.ok (.d (.bl (if neg then !ns.contains i else ns.contains i))) μ)
    | none => none)
  | .d x, none => (match viewL μ u with
    | some ds => if okD 20 x = true ∧ okDs 20 ds = true then some (.ok (.d (.bl (if neg then !ds.any (fun z => eqvD z x) else ds.any fun z => eqvD z x))) μ) else none
    | none => none)
  | _, _ => none
def rInAll (K : PySem.W.Frag) (neg : Bool) : R2 := fun x y H Q => rIn K neg x y H Q ∨ (if neg then rNotInD K x y H Q else rInD K x y H Q)
theorem op_inAll {X : Cx} (hu : X.A.units + 65 < cLine) : OpR X (compareOp .In) (rInAll X.K false) := OpR.or op_in_seq (op_inD hu)
theorem op_ninAll {X : Cx} (hu : X.A.units + 65 < cLine) : OpR X (compareOp .NotIn) (rInAll X.K true) := OpR.or op_notIn_seq (op_notInD hu)
theorem inV_ints (i : Int) : ∀ ns : List Int, inV (.int i) (ns.map V.int) = ns.contains i
  | [] => rfl
  | n :: ns => by
    have ih := inV_ints i ns
    unfold inV at ih ⊢
    rw [List.map_cons, List.any_cons, ih, List.contains_cons]
    congr 1
    simp only [eqV]
    first | (rw [Bool.beq_comm]) | (by_cases h : n = i <;> simp [h, eq_comm]) | (cases h : (n == i) <;> simp_all [eq_comm])
theorem flat_ints : ∀ ns : List Int, (ns.map V.int).all flatV = true
  | [] => rfl
  | n :: ns => by rw [List.map_cons, List.all_cons, flat_ints ns]; rfl
theorem any_eqv {n m : Nat} {x : D} (hx : okD m x = true) : ∀ {ds : List D}, okDs n ds = true → ((D.pys ds).any fun z => PyData.eqv z x.py) = ds.any fun z => eqvD z x
  | [], _ => rfl
  | d :: r, h => by
    have h : okD n d = true ∧ okDs n r = true := by simpa [okDs] using h
    simp only [D.pys, List.any_cons]
    rw [any_eqv hx h.2, eqvD_py d x h.1 hx]
theorem o2_in {neg : Bool} : Op2 K W E (rInAll K neg) (gIn neg) := fun F L μ H x y s u res Q hr h1 h2 hg hp => by
  unfold gIn at hg
  split at hg
  · rename_i i ds e
    cases h1
    split at hg
    · rename_i ns ea
      cases hg
      obtain ⟨a, xs, rfl, fa, ha, da⟩ := viewT_ok hr h2 e
      have hd := allInts_ok ea
      subst hd
      have hx := da.ints
      subst hx
      refine .inl ⟨a, _, rfl, .inr ha, rfl, flat_ints ns, ?_⟩
      rw [inV_ints]
      exact post_d hr hp (.bl _)
    · cases hg
  · rename_i d e
    split at hg
    · rename_i ds el
      by_cases hc : okD 20 d = true ∧ okDs 20 ds = true
      · rw [if_pos hc] at hg; cases hg
        obtain ⟨a, xs, rfl, ha, da⟩ := viewL_ok hr h2 el
        have hsh : SeqAt.shaped (.list (D.pys ds)) = true := okD_shaped (d := .lst ds) (n := 21) (by simpa [okD] using hc.2) (by decide)
        refine .inr ?_
        cases neg with
        | true =>
          refine ⟨d.py, D.pys ds, Den.dp hr.sub h1 hc.1, .lst ha (DenL.dp hr.sub da hc.2), okD_shaped hc.1 (by decide), hsh, ?_⟩
          rw [any_eqv hc.1 hc.2]
          exact post_d hr hp (.bl _)
        | false =>
          refine ⟨d.py, D.pys ds, Den.dp hr.sub h1 hc.1, .lst ha (DenL.dp hr.sub da hc.2), okD_shaped hc.1 (by decide), hsh, ?_⟩
          rw [any_eqv hc.1 hc.2]
          exact post_d hr hp (.bl _)
      · rw [if_neg hc] at hg; cases hg
    · cases hg
  · cases hg

/-! ### chains -/
def eChain (g g' : G2) (fa fb fc : EF) : EF := fun ρ μ => bE (fa ρ μ) fun s μ1 => bE (fb ρ μ1) fun u μ2 => asB (g s u μ2) fun b μ3 => match b with
  | true => bE (fc ρ μ3) fun z μ4 => g' u z μ4
  | false => some (.ok (.d (.bl false)) μ3)
theorem asB_split {r : Option ER} {k : Bool → List MO → Option ER} {res : ER} (h : asB r k = some res) : (∃ b μ, r = some (.ok (.d (.bl b)) μ) ∧ k b μ = some res) ∨ ∃ x μ, r = some (.ex x μ) ∧ res = .ex x μ := by
  unfold asB at h
  split at h
  · exact .inl ⟨_, _, rfl, h⟩
  · cases h; exact .inr ⟨_, _, rfl, rfl⟩
  · cases h
theorem tChain_of {r r' : R2} {g g' : G2} {fa fb fc : EF} (ho : Op2 K W E r g) (ho' : Op2 K W E r' g') {σ : Sl} {H : Hp} {Q : VK} (h : tOf K W E (eChain g g' fa fb fc) σ H Q) : tChain r r' (tOf K W E fa) (tOf K W E fb) (tOf K W E fc) σ H Q := by
  obtain ⟨F, L, μ, ρ, res, hr, hs, hf, hp⟩ := h
  show tOf K W E fa σ H _
  refine tOf_ok hr hs hf hp fun s x μ1 F1 H1 L1 hk e1 r1 d1 p1 => ?_
  refine tOf_ok r1 (hs.mono e1) hk p1 fun u y μ2 F2 H2 L2 hk2 e2 r2 d2 p2 => ?_
  rcases asB_split hk2 with ⟨b, μ3, eg, hk3⟩ | ⟨xx, μ3, eg, rfl⟩
  · refine ho F2 L2 μ2 H2 x y s u _ _ r2 (d1.mono e2) d2 eg fun z F3 H3 L3 e3 r3 d3 _ => ?_
    cases d3
    refine ⟨b, rfl, ?_⟩
    cases b with
    | true =>
      refine iteT ?_
      refine tOf_ok r3 (((hs.mono e1).mono e2).mono e3) hk3 (p2.mono e3) fun z w μ4 F4 H4 L4 hk4 e4 r4 d4 p4 => ?_
      exact ho' F4 L4 μ4 H4 y w u z res Q r4 ((d2.mono e3).mono e4) d4 hk4 p4
    | false =>
      cases hk3
      exact iteF (p2 _ F3 H3 L3 e3 r3 (.bl false) (by simp))
  · exact ho F2 L2 μ2 H2 x y s u _ _ r2 (d1.mono e2) d2 eg p2
theorem q_chain {X : Cx} {op op' : CmpOp} {r r' : R2} {g g' : G2} {a b c : Expr} {fa fb fc : EF} {pos : Pos} (ho : OpR X (compareOp op) r) (hg : Op2 X.K W E r g) (ho' : OpR X (compareOp op') r') (hg' : Op2 X.K W E r' g') (ha : PE X a (tOf X.K W E fa)) (hb : PE X b (tOf X.K W E fb)) (hc : PE X c (tOf X.K W E fc)) (hm : lastMarks [op, op'] [b, c] = false := by rfl) :
    PE X (.Compare a [op, op'] [b, c] pos) (tOf X.K W E (eChain g g' fa fb fc)) := PE.weak (pe_chain ho ho' ha hb hc hm) fun _ _ _ h => tChain_of hg hg' h

/-! ### subscripts -/
def gIx : G2 := fun s u μ => match s, u with
  | .d (.str z), .d (.int i) => if z.length ≤ small24 then (match atI z.cps.toList i with
    | some c => some (.ok (.d (.str ⟨#[c]⟩)) μ)
    | none => none) else none
  | s, .d (.int i) => (match viewT s with
    | some ds => (match atI ds i with
      | some d => some (.ok (.d d) μ)
      | none => none)
    | none => match viewL μ s with
      | some ds => (match atI ds i with
        | some d => some (.ok (.d d) μ)
        | none => none)
      | none => none)
  | _, _ => none
theorem DenL.atI {F : Hp} {vs : List V} {ds : List D} {i : Int} {d : D} (h : DenL K F vs ds) (e : L2.atI ds i = some d) : ∃ v, L2.atI vs i = some v ∧ Den K F v d := by
  unfold L2.atI at e ⊢
  rw [h.length]
  cases ej : ixN ds.length i with
  | none => rw [ej] at e; cases e
  | some j =>
    rw [ej] at e
    obtain ⟨v, h1, h2⟩ := h.get (i := j) (d := d) e
    exact ⟨v, h1, h2⟩
theorem o2_ix : Op2 K W E (rIx K) gIx := fun F L μ H x y s u res Q hr h1 h2 hg hp => by
  unfold gIx at hg
  split at hg
  · rename_i z i
    cases h1; cases h2
    by_cases hl : z.length ≤ small24
    · rw [if_pos hl] at hg
      split at hg
      · rename_i c e
        cases hg
        exact .inr (.inr ⟨z, i, c, rfl, rfl, small24_line hl, e, post_d hr hp (.str _)⟩)
      · cases hg
    · rw [if_neg hl] at hg; cases hg
  · rename_i i hns
    cases h2
    split at hg
    · rename_i ds e1
      split at hg
      · rename_i d e
        cases hg
        obtain ⟨a, xs, rfl, fa, ha, da⟩ := viewT_ok hr h1 e1
        obtain ⟨v, hv, dv⟩ := da.atI e
        exact .inr (.inl ⟨a, xs, i, v, rfl, rfl, ha, hv, post_d hr hp dv⟩)
      · cases hg
    · split at hg
      · rename_i ds e1
        split at hg
        · rename_i d e
          cases hg
          obtain ⟨a, xs, rfl, ha, da⟩ := viewL_ok hr h1 e1
          obtain ⟨v, hv, dv⟩ := da.atI e
          exact .inl ⟨a, xs, i, v, rfl, rfl, ha, hv, post_d hr hp dv⟩
        · cases hg
      · cases hg
  · cases hg
theorem q_ix {X : Cx} {a b : Expr} {fa fb : EF} {pos : Pos} (ha : PE X a (tOf X.K W E fa)) (hb : PE X b (tOf X.K W E fb)) (hs : PlainIx b := by exact fun _ _ => rfl) : PE X (.Subscript a b pos) (tOf X.K W E (e2 gIx fa fb)) :=
  PE.weak (pe_ix ix_seq ha hb hs) fun _ _ _ h => tOp_of o2_ix h

/-! ### slices -/
def cutD (ds : List D) (lo hi : Option Int) : List D := (ds.drop (HT.sIx ds.length 0 lo)).take (HT.sIx ds.length ds.length hi - HT.sIx ds.length 0 lo)
theorem DenL.cut {F : Hp} {vs : List V} {ds : List D} (h : DenL K F vs ds) (lo hi : Option Int) : DenL K F (cutV vs lo hi) (cutD ds lo hi) := by
  unfold cutV cutD
  rw [h.length]
  exact (h.drop _).take _
def ePart (f : Option EF) (ρ : List S) (μ : List MO) (k : Option Int → List MO → Option ER) : Option ER := match f with
  | none => k none μ
  | some f => match f ρ μ with
    | some (.ok (.d (.int i)) μ1) => k (some i) μ1
    | some (.ex x μ1) => some (.ex x μ1)
    | _ => none
def pOf (K : PySem.W.Frag) (W : Wd) (E : XK) (f : Option EF) : TO := match f with
  | none => tNoPart
  | some f => tPart (tOf K W E f)
def gCut (mk : Bool) (s : S) (lo hi : Option Int) (μ : List MO) : Option ER := match s with
  | .d (.str z) => if z.length ≤ small24 then some (.ok (.d (.str (cutS z lo hi))) μ) else none
  | s => match viewT s with
    | some ds => some (.ok (.d (.tup (cutD ds lo hi))) μ)
    | none => match viewL μ s with
      | some ds => newL mk (cutD ds lo hi) μ
      | none => none
def eCut (mk : Bool) (f : EF) (lo hi : Option EF) : EF := fun ρ μ => bE (f ρ μ) fun s μ1 => ePart lo ρ μ1 fun l μ2 => ePart hi ρ μ2 fun h μ3 => gCut mk s l h μ3
theorem pOf_ok {f : Option EF} {σ : Sl} {H F : Hp} {L : List Addr} {μ : List MO} {ρ : List S} {Q : VK} {k : Option Int → List MO → Option ER} {res : ER} (hr : Rep K W F L μ H) (hs : SlotsOk K F L ρ σ) (hf : ePart f ρ μ k = some res) (hp : PostE K W E F L H res Q) {R : Option Int → Hp → Prop}
    (hk : ∀ i μ1 F1 H1 L1, k i μ1 = some res → Ext F H L F1 H1 L1 → Rep K W F1 L1 μ1 H1 → PostE K W E F1 L1 H1 res Q → R i H1) : pOf K W E f σ H R := by
  cases f with
  | none => exact hk none μ F H L hf .refl hr hp
  | some f =>
    unfold ePart at hf
    simp only at hf
    show tOf K W E f σ H _
    cases ea : f ρ μ with
    | none => rw [ea] at hf; cases hf
    | some ra =>
      rw [ea] at hf
      refine ⟨F, L, μ, ρ, ra, hr, hs, ea, ?_⟩
      cases ra with
      | ex x μ1 => cases hf; exact hp
      | ok s μ1 =>
        intro x F1 H1 L1 e1 r1 d1 n1
        cases s with
        | un => cases hf
        | m i => cases hf
        | d y =>
          cases y with
          | int i => cases d1; exact ⟨i, rfl, hk (some i) μ1 F1 H1 L1 hf e1 r1 (hp.mono e1)⟩
          | _ => cases hf
theorem cut_whole {α : Type} (xs : List α) (lo hi : Option Int) (h : HT.sIx xs.length 0 lo = 0 ∧ HT.sIx xs.length xs.length hi = xs.length) : (xs.drop (HT.sIx xs.length 0 lo)).take (HT.sIx xs.length xs.length hi - HT.sIx xs.length 0 lo) = xs := by
  rw [h.1, h.2, List.drop_zero, Nat.sub_zero, List.take_length]
theorem q_cut {X : Cx} {mk : Bool} {e : Expr} {lo hi : Option Expr} {f : EF} {flo fhi : Option EF} {p2 pos : Pos} (he : PE X e (tOf X.K W E f)) (hl : PO X lo (pOf X.K W E flo)) (hh : PO X hi (pOf X.K W E fhi)) : PE X (.Subscript e (.Slice lo hi none p2) pos) (tOf X.K W E (eCut mk f flo fhi)) := by
  refine PE.weak (pe_slice (SlR.or sl_list (SlR.or sl_tupA sl_str)) he hl hh) fun σ H Q h => ?_
  obtain ⟨F, L, μ, ρ, res, hr, hs, hf, hp⟩ := h
  show tOf X.K W E f σ H _
  refine tOf_ok hr hs hf hp fun s v μ1 F1 H1 L1 hk e1 r1 d1 p1 => ?_
  refine pOf_ok r1 (hs.mono e1) hk p1 fun l μ2 F2 H2 L2 hk2 e2 r2 p2 => ?_
  refine pOf_ok r2 ((hs.mono e1).mono e2) hk2 p2 fun u μ3 F3 H3 L3 hk3 e3 r3 p3 => ?_
  have d3 := (d1.mono e2).mono e3
  unfold gCut at hk3
  split at hk3
  · rename_i z
    cases d3
    by_cases hz : z.length ≤ small24
    · rw [if_pos hz] at hk3; cases hk3
      exact .inr (.inr ⟨z, rfl, small24_line hz, post_d r3 p3 (.str _)⟩)
    · rw [if_neg hz] at hk3; cases hk3
  · split at hk3
    · rename_i ds ev
      cases hk3
      obtain ⟨a, xs, rfl, fa, ha, da⟩ := viewT_ok r3 d3 ev
      refine .inr (.inl ⟨a, xs, rfl, ha, fun hw => ?_, fun _ p np => post_newT r3 p3 np (da.cut _ _)⟩)
      have hc := cut_whole ds l u (by rw [← da.length]; exact hw)
      have hc : cutD ds l u = ds := hc
      rw [hc] at p3
      exact post_d r3 p3 (.tup fa da)
    · split at hk3
      · rename_i ds ev
        obtain ⟨a, xs, rfl, ha, da⟩ := viewL_ok r3 d3 ev
        exact .inl ⟨a, xs, rfl, ha, fun p np => post_newL r3 hk3 p3 np (da.cut _ _)⟩
      · cases hk3
theorem qp_none {X : Cx} : PO X none (pOf X.K W E none) := po_none
theorem qp_some {X : Cx} {e : Expr} {f : EF} (h : PE X e (tOf X.K W E f)) : PO X (some e) (pOf X.K W E (some f)) := po_some h

/-! ### calls of built-ins -/
def COk (K : PySem.W.Frag) (W : Wd) (E : XK) (r : List V → Hp → VK → Prop) (g : GF) : Prop :=
  ∀ F L μ H vs ss res Q, Rep K W F L μ H → DenSs K F L vs ss → g ss μ = some res → PostE K W E F L H res Q → r vs H Q
def eB (g : GF) (fa : AF) : EF := fun ρ μ => bAE (fa ρ μ) g
theorem tCB_of {r : List V → Hp → VK → Prop} {g : GF} {fa : AF} (ho : COk K W E r g) {σ : Sl} {H : Hp} {Q : VK} (h : tOf K W E (eB g fa) σ H Q) : tCB r (aOf K W E fa) σ H Q := by
  obtain ⟨F, L, μ, ρ, res, hr, hs, hf, hp⟩ := h
  exact aOf_ok hr hs hf hp fun ss vs μ1 F1 H1 L1 hk e1 r1 d1 p1 => ho F1 L1 μ1 H1 vs ss res Q r1 d1 hk p1
theorem q_bi {X : Cx} {id : String} {r : List V → Hp → VK → Prop} {g : GF} {x : Str} {e : Expr} {es : List Expr} {fa : AF} {p pos : Pos} (hc : CallR X (.builtin id) r) (ho : COk X.K W E r g) (hm : X.mg x = none) (hv : bootBuiltins x = some (.builtin id)) (ha : PA X (e :: es) (aOf X.K W E fa)) (hg : Gl X x := by rfl) (hn : x ≠ "__name__" := by decide) (hdb : (x == ("__debug__" : Str)) = false := by decide)
    (he : starEach (e :: es) X.env = (false, eval e X.env) :: starEach es X.env := by rfl) (hpl : (backTo pos (starEach es X.env)).any (·.1) = false := by rfl) : PE X (.Call (.Name x p) (e :: es) [] pos) (tOf X.K W E (eB g fa)) :=
  PE.weak (pe_callB hc hg hm hv ha hn hdb he hpl) fun _ _ _ h => tCB_of ho h
theorem q_ty {X : Cx} {T : String} {r : List V → Hp → VK → Prop} {g : GF} {x : Str} {e : Expr} {es : List Expr} {fa : AF} {p pos : Pos} (hc : CallR X (.type T) r) (ho : COk X.K W E r g) (hm : X.mg x = none) (hv : bootBuiltins x = some (.type T)) (ha : PA X (e :: es) (aOf X.K W E fa)) (hg : Gl X x := by rfl) (hn : x ≠ "__name__" := by decide) (hdb : (x == ("__debug__" : Str)) = false := by decide)
    (he : starEach (e :: es) X.env = (false, eval e X.env) :: starEach es X.env := by rfl) (hpl : (backTo pos (starEach es X.env)).any (·.1) = false := by rfl) : PE X (.Call (.Name x p) (e :: es) [] pos) (tOf X.K W E (eB g fa)) :=
  PE.weak (pe_callTy hc hg hm hv ha hn hdb he hpl) fun _ _ _ h => tCB_of ho h
theorem DenSs.one {F : Hp} {L : List Addr} {vs : List V} {s : S} (h : DenSs K F L vs [s]) : ∃ v, vs = [v] ∧ DenS K F L v s := by
  cases h with
  | cons h1 h2 => cases h2; exact ⟨_, rfl, h1⟩
theorem DenSs.two {F : Hp} {L : List Addr} {vs : List V} {s u : S} (h : DenSs K F L vs [s, u]) : ∃ v w, vs = [v, w] ∧ DenS K F L v s ∧ DenS K F L w u := by
  cases h with
  | cons h1 h2 => cases h2 with | cons h2 h3 => cases h3; exact ⟨_, _, rfl, h1, h2⟩
/-- len -/
def gLen : GF := fun ss μ => match ss with
  | [.d (.str z)] => if z.length ≤ small24 then some (.ok (.d (.int z.length)) μ) else none
  | [s] => (match viewT s with
    | some ds => some (.ok (.d (.int ds.length)) μ)
    | none => match viewL μ s with
      | some ds => some (.ok (.d (.int ds.length)) μ)
      | none => none)
  | _ => none
theorem c_len {X : Cx} : CallR X (.builtin "len") (fun xs H Q => (∃ p ys, xs = [.ref p] ∧ (SqL X.K H p ys ∨ SqT X.K H p ys) ∧ Q (.int ys.length) H) ∨ ∃ z, xs = [.str z] ∧ z.length ≤ sizeLine ∧ Q (.int z.length) H) := CallR.or call_len_seq call_len_str
theorem k_len : COk K W E (fun xs H Q => (∃ p ys, xs = [.ref p] ∧ (SqL K H p ys ∨ SqT K H p ys) ∧ Q (.int ys.length) H) ∨ ∃ z, xs = [.str z] ∧ z.length ≤ sizeLine ∧ Q (.int z.length) H) gLen := fun F L μ H vs ss res Q hr hd hg hp => by
  unfold gLen at hg
  split at hg
  · rename_i z
    obtain ⟨v, rfl, h⟩ := hd.one
    cases h
    by_cases hz : z.length ≤ small24
    · rw [if_pos hz] at hg; cases hg
      exact .inr ⟨z, rfl, small24_line hz, post_d hr hp (.int _)⟩
    · rw [if_neg hz] at hg; cases hg
  · rename_i s hs
    obtain ⟨v, rfl, h⟩ := hd.one
    split at hg
    · rename_i ds e
      cases hg
      obtain ⟨a, xs, rfl, fa, ha, da⟩ := viewT_ok hr h e
      refine .inl ⟨a, xs, rfl, .inr ha, ?_⟩
      rw [da.length]
      exact post_d hr hp (.int _)
    · split at hg
      · rename_i ds e
        cases hg
        obtain ⟨a, xs, rfl, ha, da⟩ := viewL_ok hr h e
        refine .inl ⟨a, xs, rfl, .inl ha, ?_⟩
        rw [da.length]
        exact post_d hr hp (.int _)
      · cases hg
  · cases hg
/-- all, any, sum, min, max of a list -/
def allBls : List D → Option (List Bool)
  | [] => some []
  | .bl i :: r => (allBls r).map (i :: ·)
  | _ :: _ => none
theorem allBls_ok : ∀ {ds : List D} {ns : List Bool}, allBls ds = some ns → ds = ns.map D.bl
  | [], ns, h => by cases h; rfl
  | d :: r, ns, h => by
    cases d with
    | bl i =>
      unfold allBls at h
      cases e : allBls r with
      | none => rw [e] at h; cases h
      | some ms => rw [e] at h; cases h; rw [allBls_ok e]; rfl
    | _ => cases h
theorem allBls_map : ∀ ns : List Bool, allBls (ns.map D.bl) = some ns
  | [] => rfl
  | n :: ns => by simp [allBls, allBls_map ns]
def gOnBls (f : List Bool → Bool) : GF := fun ss μ => match ss with
  | [s] => (match (viewL μ s).bind allBls with
    | some bs => some (.ok (.d (.bl (f bs))) μ)
    | none => none)
  | _ => none
theorem viewBls {F H : Hp} {L : List Addr} {μ : List MO} {v : V} {s : S} {bs : List Bool} (hr : Rep K W F L μ H) (h : DenS K F L v s) (e : (viewL μ s).bind allBls = some bs) : ∃ a, v = .ref a ∧ SqL K H a (bs.map V.bl) := by
  cases ev : viewL μ s with
  | none => rw [ev] at e; cases e
  | some ds =>
    rw [ev] at e
    obtain ⟨a, xs, rfl, ha, da⟩ := viewL_ok hr h ev
    have hd := allBls_ok (show allBls ds = some bs from e)
    subst hd
    rw [da.bls] at ha
    exact ⟨a, rfl, ha⟩
theorem viewInts {F H : Hp} {L : List Addr} {μ : List MO} {v : V} {s : S} {ns : List Int} (hr : Rep K W F L μ H) (h : DenS K F L v s) (e : (viewL μ s).bind allInts = some ns) : ∃ a, v = .ref a ∧ SqL K H a (ns.map V.int) := by
  cases ev : viewL μ s with
  | none => rw [ev] at e; cases e
  | some ds =>
    rw [ev] at e
    obtain ⟨a, xs, rfl, ha, da⟩ := viewL_ok hr h ev
    have hd := allInts_ok (show allInts ds = some ns from e)
    subst hd
    rw [da.ints] at ha
    exact ⟨a, rfl, ha⟩
theorem k_all : COk K W E (rAll K) (gOnBls fun bs => bs.all id) := fun F L μ H vs ss res Q hr hd hg hp => by
  unfold gOnBls at hg
  split at hg
  · obtain ⟨v, rfl, h⟩ := hd.one
    split at hg
    · rename_i bs e
      cases hg
      obtain ⟨a, rfl, ha⟩ := viewBls hr h e
      exact ⟨a, bs, rfl, ha, post_d hr hp (.bl _)⟩
    · cases hg
  · cases hg
theorem k_any : COk K W E (rAny K) (gOnBls fun bs => bs.any id) := fun F L μ H vs ss res Q hr hd hg hp => by
  unfold gOnBls at hg
  split at hg
  · obtain ⟨v, rfl, h⟩ := hd.one
    split at hg
    · rename_i bs e
      cases hg
      obtain ⟨a, rfl, ha⟩ := viewBls hr h e
      exact ⟨a, bs, rfl, ha, post_d hr hp (.bl _)⟩
    · cases hg
  · cases hg
def gSum : GF := fun ss μ => match ss with
  | [s] => (match (viewL μ s).bind allInts with
    | some ns => some (.ok (.d (.int ns.sum)) μ)
    | none => none)
  | _ => none
theorem k_sum : COk K W E (rSum K) gSum := fun F L μ H vs ss res Q hr hd hg hp => by
  unfold gSum at hg
  split at hg
  · obtain ⟨v, rfl, h⟩ := hd.one
    split at hg
    · rename_i ns e
      cases hg
      obtain ⟨a, rfl, ha⟩ := viewInts hr h e
      exact ⟨a, ns, rfl, ha, post_d hr hp (.int _)⟩
    · cases hg
  · cases hg
def maxI : List Int → Int
  | [] => 0
  | x :: r => r.foldl (fun a b => if a < b then b else a) x
def minI : List Int → Int
  | [] => 0
  | x :: r => r.foldl (fun a b => if b < a then b else a) x
theorem maxI_go : ∀ (r : List Int) (x : Int), (r.foldl (fun a b => if a < b then b else a) x) ∈ x :: r ∧ ∀ y ∈ x :: r, y ≤ r.foldl (fun a b => if a < b then b else a) x
  | [], x => by simp
  | z :: r, x => by
    rw [List.foldl_cons]
    obtain ⟨h1, h2⟩ := maxI_go r (if x < z then z else x)
    by_cases h : x < z
    · rw [if_pos h] at h1 h2 ⊢
      refine ⟨List.mem_cons_of_mem _ h1, fun y hy => ?_⟩
      rcases List.mem_cons.mp hy with rfl | hy
      · have := h2 z (List.mem_cons_self); omega
      · exact h2 y hy
    · rw [if_neg h] at h1 h2 ⊢
      refine ⟨?_, fun y hy => ?_⟩
      · rcases List.mem_cons.mp h1 with e | h1
        · rw [e]; exact List.mem_cons_self
        · exact List.mem_cons_of_mem _ (List.mem_cons_of_mem _ h1)
      · rcases List.mem_cons.mp hy with rfl | hy
        · exact h2 _ (List.mem_cons_self)
        · rcases List.mem_cons.mp hy with rfl | hy
          · have := h2 x (List.mem_cons_self); omega
          · exact h2 y (List.mem_cons_of_mem _ hy)
theorem minI_go : ∀ (r : List Int) (x : Int), (r.foldl (fun a b => if b < a then b else a) x) ∈ x :: r ∧ ∀ y ∈ x :: r, r.foldl (fun a b => if b < a then b else a) x ≤ y
  | [], x => by simp
  | z :: r, x => by
    rw [List.foldl_cons]
    obtain ⟨h1, h2⟩ := minI_go r (if z < x then z else x)
    by_cases h : z < x
    · rw [if_pos h] at h1 h2 ⊢
      refine ⟨List.mem_cons_of_mem _ h1, fun y hy => ?_⟩
      rcases List.mem_cons.mp hy with rfl | hy
      · have := h2 z (List.mem_cons_self); omega
      · exact h2 y hy
    · rw [if_neg h] at h1 h2 ⊢
      refine ⟨?_, fun y hy => ?_⟩
      · rcases List.mem_cons.mp h1 with e | h1
        · rw [e]; exact List.mem_cons_self
        · exact List.mem_cons_of_mem _ (List.mem_cons_of_mem _ h1)
      · rcases List.mem_cons.mp hy with rfl | hy
        · exact h2 _ (List.mem_cons_self)
        · rcases List.mem_cons.mp hy with rfl | hy
          · have := h2 x (List.mem_cons_self); omega
          · exact h2 y (List.mem_cons_of_mem _ hy)
theorem maxI_eq {ns : List Int} {m : Int} (h1 : m ∈ ns) (h2 : ∀ y ∈ ns, y ≤ m) : maxI ns = m := by
  cases ns with
  | nil => cases h1
  | cons x r =>
    obtain ⟨a, b⟩ := maxI_go r x
    have := h2 _ a
    have := b m h1
    show r.foldl _ x = m
    omega
theorem minI_eq {ns : List Int} {m : Int} (h1 : m ∈ ns) (h2 : ∀ y ∈ ns, m ≤ y) : minI ns = m := by
  cases ns with
  | nil => cases h1
  | cons x r =>
    obtain ⟨a, b⟩ := minI_go r x
    have := h2 _ a
    have := b m h1
    show r.foldl _ x = m
    omega
def rMax12 (K : PySem.W.Frag) : List V → Hp → VK → Prop := fun xs H Q => rMax K xs H Q ∨ ∃ i j, xs = [.int i, .int j] ∧ Q (.int (if j > i then j else i)) H
def rMin12 (K : PySem.W.Frag) : List V → Hp → VK → Prop := fun xs H Q => rMin K xs H Q ∨ ∃ i j, xs = [.int i, .int j] ∧ Q (.int (if j < i then j else i)) H
theorem c_max {X : Cx} (hc : X.calm = true) : CallR X (.builtin "max") (rMax12 X.K) := CallR.or (cr_max hc) (call_max2 hc)
theorem c_min {X : Cx} (hc : X.calm = true) : CallR X (.builtin "min") (rMin12 X.K) := CallR.or (cr_min hc) (call_min2 hc)
def gMax : GF := fun ss μ => match ss with
  | [s] => (match (viewL μ s).bind allInts with
    | some ns => if ns ≠ [] then some (.ok (.d (.int (maxI ns))) μ) else none
    | none => none)
  | [.d (.int i), .d (.int j)] => some (.ok (.d (.int (max i j))) μ)
  | _ => none
def gMin : GF := fun ss μ => match ss with
  | [s] => (match (viewL μ s).bind allInts with
    | some ns => if ns ≠ [] then some (.ok (.d (.int (minI ns))) μ) else none
    | none => none)
  | [.d (.int i), .d (.int j)] => some (.ok (.d (.int (min i j))) μ)
  | _ => none
theorem k_max : COk K W E (rMax12 K) gMax := fun F L μ H vs ss res Q hr hd hg hp => by
  unfold gMax at hg
  split at hg
  · obtain ⟨v, rfl, h⟩ := hd.one
    split at hg
    · rename_i ns e
      by_cases hn : ns ≠ []
      · rw [if_pos hn] at hg; cases hg
        obtain ⟨a, rfl, ha⟩ := viewInts hr h e
        refine .inl ⟨a, ns, rfl, ha, List.length_pos_iff.mpr hn, fun m h1 h2 => ?_⟩
        rw [← maxI_eq h1 h2]
        exact post_d hr hp (.int _)
      · rw [if_neg hn] at hg; cases hg
    · cases hg
  · rename_i i j
    cases hg
    obtain ⟨v, w, rfl, h1, h2⟩ := hd.two
    cases h1; cases h2
    refine .inr ⟨i, j, rfl, ?_⟩
    have : (if j > i then j else i) = max i j := by split <;> omega
    rw [this]
    exact post_d hr hp (.int _)
  · cases hg
theorem k_min : COk K W E (rMin12 K) gMin := fun F L μ H vs ss res Q hr hd hg hp => by
  unfold gMin at hg
  split at hg
  · obtain ⟨v, rfl, h⟩ := hd.one
    split at hg
    · rename_i ns e
      by_cases hn : ns ≠ []
      · rw [if_pos hn] at hg; cases hg
        obtain ⟨a, rfl, ha⟩ := viewInts hr h e
        refine .inl ⟨a, ns, rfl, ha, List.length_pos_iff.mpr hn, fun m h1 h2 => ?_⟩
        rw [← minI_eq h1 h2]
        exact post_d hr hp (.int _)
      · rw [if_neg hn] at hg; cases hg
    · cases hg
  · rename_i i j
    cases hg
    obtain ⟨v, w, rfl, h1, h2⟩ := hd.two
    cases h1; cases h2
    refine .inr ⟨i, j, rfl, ?_⟩
    have : (if j < i then j else i) = min i j := by split <;> omega
    rw [this]
    exact post_d hr hp (.int _)
  · cases hg
def gAbs : GF := fun ss μ => match ss with
  | [.d (.int i)] => some (.ok (.d (.int (i.natAbs : Int))) μ)
  | _ => none
theorem k_abs : COk K W E (fun xs H Q => ∃ i, xs = [.int i] ∧ Q (.int (if i < 0 then -i else i)) H) gAbs := fun F L μ H vs ss res Q hr hd hg hp => by
  unfold gAbs at hg
  split at hg
  · rename_i i
    cases hg
    obtain ⟨v, rfl, h⟩ := hd.one
    cases h
    refine ⟨i, rfl, ?_⟩
    have : (if i < 0 then -i else i) = (i.natAbs : Int) := by split <;> omega
    rw [this]
    exact post_d hr hp (.int _)
  · cases hg
def gInt : GF := fun ss μ => match ss with
  | [.d (.int i)] => some (.ok (.d (.int i)) μ)
  | [.d (.bl b)] => some (.ok (.d (.int (if b then 1 else 0))) μ)
  | _ => none
theorem k_int : COk K W E (fun xs H Q => (∃ i, xs = [.int i] ∧ Q (.int i) H) ∨ ∃ k, xs = [.bl k] ∧ Q (.int (if k then 1 else 0)) H) gInt := fun F L μ H vs ss res Q hr hd hg hp => by
  unfold gInt at hg
  split at hg
  · cases hg
    obtain ⟨v, rfl, h⟩ := hd.one
    cases h
    exact .inl ⟨_, rfl, post_d hr hp (.int _)⟩
  · cases hg
    obtain ⟨v, rfl, h⟩ := hd.one
    cases h
    exact .inr ⟨_, rfl, post_d hr hp (.int _)⟩
  · cases hg
/-- tuple(list), tuple(tuple); list(..) -/
def gTup : GF := fun ss μ => match ss with
  | [s] => (match viewT s with
    | some ds => some (.ok (.d (.tup ds)) μ)
    | none => match viewL μ s with
      | some ds => some (.ok (.d (.tup ds)) μ)
      | none => none)
  | _ => none
theorem k_tup : COk K W E (fun xs H Q => ∃ p ys, xs = [.ref p] ∧ ((SqL K H p ys ∧ ∀ l, H l = none → Q (.ref l) (upd H l (.tup ys))) ∨ (SqT K H p ys ∧ Q (.ref p) H))) gTup := fun F L μ H vs ss res Q hr hd hg hp => by
  unfold gTup at hg
  split at hg
  · obtain ⟨v, rfl, h⟩ := hd.one
    split at hg
    · rename_i ds e
      cases hg
      obtain ⟨a, xs, rfl, fa, ha, da⟩ := viewT_ok hr h e
      exact ⟨a, xs, rfl, .inr ⟨ha, post_d hr hp (.tup fa da)⟩⟩
    · split at hg
      · rename_i ds e
        cases hg
        obtain ⟨a, xs, rfl, ha, da⟩ := viewL_ok hr h e
        exact ⟨a, xs, rfl, .inl ⟨ha, fun p np => post_newT hr hp np da⟩⟩
      · cases hg
  · cases hg
def gLst (mk : Bool) : GF := fun ss μ => match ss with
  | [s] => (match viewT s with
    | some ds => newL mk ds μ
    | none => match viewL μ s with
      | some ds => newL mk ds μ
      | none => none)
  | _ => none
theorem k_lst {mk : Bool} : COk K W E (fun xs H Q => ∃ p ys, xs = [.ref p] ∧ (SqL K H p ys ∨ SqT K H p ys) ∧ ∀ l, H l = none → Q (.ref l) (upd H l (.lst ys))) (gLst mk) := fun F L μ H vs ss res Q hr hd hg hp => by
  unfold gLst at hg
  split at hg
  · obtain ⟨v, rfl, h⟩ := hd.one
    split at hg
    · rename_i ds e
      obtain ⟨a, xs, rfl, fa, ha, da⟩ := viewT_ok hr h e
      exact ⟨a, xs, rfl, .inr ha, fun p np => post_newL hr hg hp np da⟩
    · split at hg
      · rename_i ds e
        obtain ⟨a, xs, rfl, ha, da⟩ := viewL_ok hr h e
        exact ⟨a, xs, rfl, .inl ha, fun p np => post_newL hr hg hp np da⟩
      · cases hg
  · cases hg
/-- tuple(range(a, b)) -/
def rgI (a b : Int) : List Int := (List.range (b - a).toNat).map fun (i : Nat) => a + (i : Int)
theorem rgV_eq (a b : Int) : rgV a b = (rgI a b).map V.int := by
  unfold rgV rgI
  rw [List.map_map]
  rfl
def eTupRg (fa fb : EF) : EF := fun ρ μ => bE (fa ρ μ) fun s μ1 => bE (fb ρ μ1) fun u μ2 => match s, u with
  | .d (.int a), .d (.int b) => if 0 ≤ a ∧ a ≤ 1000000 ∧ 0 ≤ b ∧ b ≤ 1000000 then some (.ok (.d (.tup ((rgI a b).map D.int))) μ2) else none
  | _, _ => none
theorem q_tupRg {X : Cx} {a b : Expr} {fa fb : EF} {p p' pos pos' : Pos} (hc : X.calm = true) (hm : X.mg "tuple" = none) (hm2 : X.mg "range" = none) (ha : PE X a (tOf X.K W E fa)) (hb : PE X b (tOf X.K W E fb)) (hg : Gl X "tuple" := by rfl) (hg2 : Gl X "range" := by rfl)
    (na : starEach [a, b] X.env = (false, eval a X.env) :: starEach [b] X.env := by rfl) (nb : starEach [b] X.env = (false, eval b X.env) :: starEach [] X.env := by rfl) (hp : (backTo pos' (starEach [b] X.env)).any (·.1) = false := by rfl)
    (nc : starEach [.Call (.Name "range" p') [a, b] [] pos'] X.env = (false, eval (.Call (.Name "range" p') [a, b] [] pos') X.env) :: starEach [] X.env := by rfl) :
    PE X (.Call (.Name "tuple" p) [.Call (.Name "range" p') [a, b] [] pos'] [] pos) (tOf X.K W E (eTupRg fa fb)) := by
  refine PE.weak (pe_tupRg hc hg hm (prg_2 hg2 hm2 ha hb na nb hp) nc) fun σ H Q h => ?_
  obtain ⟨F, L, μ, ρ, res, hr, hs, hf, hp⟩ := h
  show tOf X.K W E fa σ H _
  refine tOf_ok hr hs hf hp fun s v μ1 F1 H1 L1 hk e1 r1 d1 p1 => ?_
  refine tOf_ok r1 (hs.mono e1) hk p1 fun u w μ2 F2 H2 L2 hk2 e2 r2 d2 p2 => ?_
  split at hk2
  · rename_i i j
    by_cases hb : 0 ≤ i ∧ i ≤ 1000000 ∧ 0 ≤ j ∧ j ≤ 1000000
    · rw [if_pos hb] at hk2; cases hk2
      cases d1; cases d2
      refine ⟨i, j, rfl, rfl, RgOk.of_le (by omega) (by omega) (by omega) (by omega), fun q nq => ?_⟩
      rw [rgV_eq]
      exact post_newT r2 p2 nq (DenL.of_ints _)
    · rw [if_neg hb] at hk2; cases hk2
  · cases hk2
/-- isinstance(x, T), T written: int, bool, tuple, str -/
def tyD : D → Option String
  | .non => some "NoneType" | .bl _ => some "bool" | .int _ => some "int" | .str _ => some "str" | .tup _ => some "tuple" | .lst _ => some "list" | .dct _ => some "dict" | .scr _ => none
def isiB (t c : String) : Bool := t == c || (t == "bool" && c == "int")
def eIsi (c : String) (f : EF) : EF := fun ρ μ => match f ρ μ with
  | some (.ok (.d d) μ1) => (match tyD d with
    | some t => some (.ok (.d (.bl (isiB t c))) μ1)
    | none => none)
  | some (.ex x μ1) => some (.ex x μ1)
  | _ => none
theorem tyX_of {F H : Hp} (e : Le F H) {v : V} {d : D} {t : String} (h : Den K F v d) (ht : tyD d = some t) : TyX K H v (.type t) := by
  cases h with
  | non => cases ht; exact .base .non
  | bl b => cases ht; exact .base (.bl b)
  | int i => cases ht; exact .base (.int i)
  | str s => cases ht; exact .base (.str s)
  | lst h1 _ => cases ht; exact .base (.lst (e _ _ h1))
  | dct h1 => cases ht; exact .base (.dT (e _ _ h1))
  | scr _ => cases ht
  | tup h1 _ =>
    cases ht
    rcases Le.seqT e h1 with (h | ⟨o, h⟩) | ⟨o, its, n, h, hc, _⟩
    · exact .base (.tup h)
    · exact .fTuple h
    · exact .kTuple h hc
theorem kit_isi {t c : String} (hc : c ∈ ["int", "bool", "tuple", "str"]) (ht : t ∈ ["NoneType", "bool", "int", "str", "tuple", "list", "dict"]) : kitB t c = some (isiB t c) := by
  simp only [List.mem_cons, List.not_mem_nil, or_false] at hc ht
  rcases hc with rfl | rfl | rfl | rfl <;> rcases ht with rfl | rfl | rfl | rfl | rfl | rfl | rfl <;> decide +kernel
theorem tyD_mem {d : D} {t : String} (h : tyD d = some t) : t ∈ ["NoneType", "bool", "int", "str", "tuple", "list", "dict"] := by
  cases d <;> simp [tyD] at h <;> subst h <;> simp
theorem q_isi {X : Cx} {c : Str} {cn : String} {e : Expr} {f : EF} {p pc pos : Pos} (hm : X.mg "isinstance" = none) (hmc : X.mg c = none) (hvc : bootBuiltins c = some (.type cn)) (he : PE X e (tOf X.K W E f)) (hcn : cn ∈ ["int", "bool", "tuple", "str"] := by decide) (hg : Gl X "isinstance" := by rfl) (hgc : Gl X c := by rfl) (hnc : c ≠ "__name__" := by decide) (hdc : (c == ("__debug__" : Str)) = false := by decide)
    (hse : starEach (e :: [.Name c pc]) X.env = (false, eval e X.env) :: starEach [.Name c pc] X.env := by rfl) (hpl : (backTo pos (starEach [.Name c pc] X.env)).any (·.1) = false := by rfl) (hs2 : starEach (.Name c pc :: []) X.env = (false, eval (.Name c pc) X.env) :: starEach [] X.env := by rfl) :
    PE X (.Call (.Name "isinstance" p) [e, .Name c pc] [] pos) (tOf X.K W E (eIsi cn f)) := by
  refine PE.weak (pe_callB call_isi hg hm (by decide +kernel) (pa_cons he (pa_cons (pe_bltn (v := .ty cn) hgc hmc hvc rfl hnc hdc) pa_nil hs2) hse) (by decide) (by decide) hse hpl) fun σ H Q h => ?_
  obtain ⟨F, L, μ, ρ, res, hr, hs, hf, hp⟩ := h
  have hf : bE (f ρ μ) (fun s μ1 => match s with | .d d => (match tyD d with | some t => some (.ok (.d (.bl (isiB t cn))) μ1) | none => none) | _ => none) = some res := by
    rw [← hf]
    unfold bE eIsi
    cases f ρ μ with
    | none => rfl
    | some ra => cases ra with
      | ex => rfl
      | ok s μ1 => cases s <;> rfl
  show tOf X.K W E f σ H _
  refine tOf_ok hr hs hf hp fun s v μ1 F1 H1 L1 hk e1 r1 d1 p1 => ?_
  cases s with
  | un => cases hk
  | m i => cases hk
  | d d =>
    simp only at hk
    cases et : tyD d with
    | none => rw [et] at hk; cases hk
    | some t =>
      rw [et] at hk; cases hk
      refine ⟨v, .ty cn, .type t, .type cn, isiB t cn, rfl, .ty cn, tyX_of r1.sub d1 et, kit_ty (kit_isi hcn (tyD_mem et)), ?_⟩
      exact post_d r1 p1 (.bl _)

/-! ### what a loop walks -/
theorem PI.or {X : Cx} {tg e : Expr} {w1 w2 : TI} (h1 : PI X tg e w1) (h2 : PI X tg e w2) : PI X tg e (fun σ H R => w1 σ H R ∨ w2 σ H R) := ⟨fun pins s σ H R I h => by
  rcases h with h | h
  · exact h1.run pins s σ H R I h
  · exact h2.run pins s σ H R I h⟩
def iSeq (f : EF) : IF := fun ρ μ => match f ρ μ with
  | some (.ok s μ1) => (match viewT s with
    | some ds => some (.ok ds μ1)
    | none => match s with
      | .d (.lst ds) => some (.ok ds μ1)
      | .d (.scr ns) => some (.ok (ns.map .int) μ1)
      | _ => none)
  | some (.ex x μ1) => some (.ex x μ1)
  | none => none
theorem walkD_list {F H0 : Hp} {a : Addr} {xs : List V} {ds : List D} (h : SqL K F a xs) (hd : DenL K F xs ds) : WalkD K F (Itl K a) ds := fun H hl => by
  have hq := Le.seqL hl h
  have w := walk_list (K := K) (a := a) (xs := xs)
  have e := hd.length
  refine ⟨fun i hi => w.goes i H (by rw [e]; exact hi) hq, by rw [← e]; exact w.stops H hq, fun i x H' d hdi y => ?_⟩
  obtain ⟨v, h1, h2⟩ := hd.get hdi
  obtain ⟨y1, y2⟩ := w.yields i H x H' (List.getElem?_eq_some_iff.mp h1).1 hq y
  rw [h1] at y2; cases y2
  exact .inl ⟨y1, h2⟩
theorem walkD_tup {F H0 : Hp} {a : Addr} {xs : List V} {ds : List D} (h : SqT K F a xs) (hd : DenL K F xs ds) : WalkD K F (Itt K a) ds := fun H hl => by
  have hq := Le.seqT hl h
  have w := walk_tup (K := K) (a := a) (xs := xs)
  have e := hd.length
  refine ⟨fun i hi => w.goes i H (by rw [e]; exact hi) hq, by rw [← e]; exact w.stops H hq, fun i x H' d hdi y => ?_⟩
  obtain ⟨v, h1, h2⟩ := hd.get hdi
  obtain ⟨y1, y2⟩ := w.yields i H x H' (List.getElem?_eq_some_iff.mp h1).1 hq y
  rw [h1] at y2; cases y2
  exact .inl ⟨y1, h2⟩
theorem q_iseq {X : Cx} {tg e : Expr} {f : EF} (he : PE X e (tOf X.K W E f)) : PI X tg e (iOf X.K W E (iSeq f)) := by
  refine PI.weak (PI.or (pi_list he) (pi_tup he)) fun σ H R h => ?_
  obtain ⟨F, L, μ, ρ, res, hr, hs, hf, hp⟩ := h
  unfold iSeq at hf
  cases ea : f ρ μ with
  | none => rw [ea] at hf; cases hf
  | some ra =>
    rw [ea] at hf
    cases ra with
    | ex x μ1 => cases hf; exact .inl ⟨F, L, μ, ρ, _, hr, hs, ea, hp⟩
    | ok s μ1 =>
      simp only at hf
      cases ev : viewT s with
      | some ds =>
        rw [ev] at hf; cases hf
        refine .inr ⟨F, L, μ, ρ, _, hr, hs, ea, fun v F1 H1 L1 e1 r1 d1 n1 => ?_⟩
        obtain ⟨a, xs, rfl, fa, ha, da⟩ := viewT_ok r1 d1 ev
        exact ⟨a, rfl, ⟨xs, ha⟩, hp _ F1 H1 L1 e1 r1 (walkD_tup (H0 := H1) fa da)⟩
      | none =>
        rw [ev] at hf
        cases s with
        | un => cases hf
        | m i => cases hf
        | d d =>
          cases d with
          | lst ds =>
            cases hf
            refine .inl ⟨F, L, μ, ρ, _, hr, hs, ea, fun v F1 H1 L1 e1 r1 d1 n1 => ?_⟩
            cases d1 with
            | lst h1 h2 => exact ⟨_, rfl, ⟨_, SqL.of (r1.sub _ _ h1)⟩, hp _ F1 H1 L1 e1 r1 (walkD_list (H0 := H1) (SqL.of h1) h2)⟩
          | scr ns =>
            cases hf
            refine .inl ⟨F, L, μ, ρ, _, hr, hs, ea, fun v F1 H1 L1 e1 r1 d1 n1 => ?_⟩
            cases d1 with
            | scr h1 => exact ⟨_, rfl, ⟨_, Le.seqL r1.sub h1⟩, hp _ F1 H1 L1 e1 r1 (walkD_list (H0 := H1) h1 (DenL.of_ints _))⟩
          | _ => cases hf
def iRg (fa : Option EF) (fb : EF) : IF := fun ρ μ => match fa with
  | none => (match fb ρ μ with
    | some (.ok (.d (.int j)) μ1) => if 0 ≤ j ∧ j ≤ 2 ^ 61 then some (.ok ((rgI 0 j).map .int) μ1) else none
    | some (.ex x μ1) => some (.ex x μ1)
    | _ => none)
  | some fa => (match fa ρ μ with
    | some (.ok (.d (.int i)) μ1) => (match fb ρ μ1 with
      | some (.ok (.d (.int j)) μ2) => if 0 ≤ i ∧ i ≤ 2 ^ 61 ∧ 0 ≤ j ∧ j ≤ 2 ^ 61 then some (.ok ((rgI i j).map .int) μ2) else none
      | some (.ex x μ2) => some (.ex x μ2)
      | _ => none)
    | some (.ex x μ1) => some (.ex x μ1)
    | _ => none)
theorem rgI_length (a b : Int) : (rgI a b).length = (b - a).toNat := by unfold rgI; simp
theorem rgI_get {a b : Int} {i : Nat} {x : Int} (h : (rgI a b)[i]? = some x) : x = a + i := by
  unfold rgI at h
  rw [List.getElem?_map] at h
  cases e : (List.range (b - a).toNat)[i]? with
  | none => rw [e] at h; cases h
  | some j =>
    rw [e] at h
    obtain ⟨h1, h2⟩ := List.getElem?_eq_some_iff.mp e
    have h3 : j = i := by rw [← h2, List.getElem_range]
    subst h3
    exact (Option.some.inj h).symm
theorem walkD_rg {F : Hp} (a b : Int) : WalkD K F (Itr a (b - a).toNat) ((rgI a b).map .int) := fun H hl => by
  have hlen : ((rgI a b).map D.int).length = (b - a).toNat := by rw [List.length_map, rgI_length]
  refine ⟨fun i hi => by rw [hlen] at hi; exact hi, by rw [hlen]; exact Nat.le_refl _, fun i x H' d hd y => ?_⟩
  obtain ⟨y1, y2⟩ := y
  rw [List.getElem?_map] at hd
  cases e : (rgI a b)[i]? with
  | none => rw [e] at hd; cases hd
  | some z =>
    rw [e] at hd
    have hz := rgI_get e
    subst hz
    cases hd
    subst y2
    exact .inl ⟨y1, .int _⟩
theorem q_irg1 {X : Cx} {tg a : Expr} {f : EF} {p pos : Pos} (hm : X.mg "range" = none) (ha : PE X a (tOf X.K W E f)) (hg : Gl X "range" := by rfl) (hs : starEach [a] X.env = [(false, eval a X.env)] := by rfl) (hs' : starEach (a :: []) X.env = (false, eval a X.env) :: starEach [] X.env := by rfl) : PI X tg (.Call (.Name "range" p) [a] [] pos) (iOf X.K W E (iRg none f)) := by
  refine PI.weak (pi_range1 hg hm (pa_cons ha pa_nil hs') hs) fun σ H R h => ?_
  obtain ⟨F, L, μ, ρ, res, hr, hs, hf, hp⟩ := h
  unfold iRg at hf
  simp only at hf
  show tOf X.K W E f σ H _
  cases ea : f ρ μ with
  | none => rw [ea] at hf; cases hf
  | some ra =>
    rw [ea] at hf
    refine ⟨F, L, μ, ρ, ra, hr, hs, ea, ?_⟩
    cases ra with
    | ex x μ1 => cases hf; exact hp
    | ok s μ1 =>
      intro v F1 H1 L1 e1 r1 d1 n1
      cases s with
      | un => cases hf
      | m i => cases hf
      | d d =>
        cases d with
        | int j =>
          simp only at hf
          by_cases hj : 0 ≤ j ∧ j ≤ 2 ^ 61
          · rw [if_pos hj] at hf; cases hf
            cases d1
            refine ⟨j, rfl, by omega, by omega, hp _ F1 H1 L1 e1 r1 ?_⟩
            have := walkD_rg (K := X.K) (F := F1) 0 j
            rwa [Int.sub_zero] at this
          · rw [if_neg hj] at hf; cases hf
        | _ => cases hf
theorem q_irg2 {X : Cx} {tg a b : Expr} {fa fb : EF} {p pos : Pos} (hm : X.mg "range" = none) (ha : PE X a (tOf X.K W E fa)) (hb : PE X b (tOf X.K W E fb)) (hg : Gl X "range" := by rfl) (hs : starEach [a, b] X.env = [(false, eval a X.env), (false, eval b X.env)] := by rfl) (hs2 : starEach [b] X.env = [(false, eval b X.env)] := by rfl)
    (hsa : starEach (a :: [b]) X.env = (false, eval a X.env) :: starEach [b] X.env := by rfl) (hsb : starEach (b :: []) X.env = (false, eval b X.env) :: starEach [] X.env := by rfl) : PI X tg (.Call (.Name "range" p) [a, b] [] pos) (iOf X.K W E (iRg (some fa) fb)) := by
  refine PI.weak (pi_range2 hg hm (pa_cons ha (pa_cons hb pa_nil hsb) hsa) hs hs2) fun σ H R h => ?_
  obtain ⟨F, L, μ, ρ, res, hr, hs, hf, hp⟩ := h
  unfold iRg at hf
  simp only at hf
  show tOf X.K W E fa σ H _
  cases ea : fa ρ μ with
  | none => rw [ea] at hf; cases hf
  | some ra =>
    rw [ea] at hf
    refine ⟨F, L, μ, ρ, ra, hr, hs, ea, ?_⟩
    cases ra with
    | ex x μ1 => cases hf; exact hp
    | ok s μ1 =>
      intro v F1 H1 L1 e1 r1 d1 n1
      cases s with
      | un => cases hf
      | m i => cases hf
      | d d =>
        cases d with
        | int i =>
          simp only at hf
          show tOf X.K W E fb σ H1 _
          cases eb : fb ρ μ1 with
          | none => rw [eb] at hf; cases hf
          | some rb =>
            rw [eb] at hf
            refine ⟨F1, L1, μ1, ρ, rb, r1, hs.mono e1, eb, ?_⟩
            cases rb with
            | ex x μ2 => cases hf; exact PostX.mono e1 hp
            | ok s2 μ2 =>
              intro w F2 H2 L2 e2 r2 d2 n2
              cases s2 with
              | un => cases hf
              | m i => cases hf
              | d d' =>
                cases d' with
                | int j =>
                  simp only at hf
                  by_cases hj : 0 ≤ i ∧ i ≤ 2 ^ 61 ∧ 0 ≤ j ∧ j ≤ 2 ^ 61
                  · rw [if_pos hj] at hf; cases hf
                    cases d1; cases d2
                    exact ⟨i, j, rfl, ⟨by omega, by omega, by omega, by omega⟩, hp _ F2 H2 L2 (e1.trans e2) r2 (walkD_rg i j)⟩
                  · rw [if_neg hj] at hf; cases hf
                | _ => cases hf
        | _ => cases hf
/-- zip of two lists, of two tuples -/
def zipD (ds es : List D) : List D := (ds.zip es).map fun p => .tup [p.1, p.2]
def iZip (fa : AF) : IF := fun ρ μ => match fa ρ μ with
  | some (.ok [s, u] μ1) => (match viewT s, viewT u with
    | some ds, some es => some (.ok (zipD ds es) μ1)
    | _, _ => match s, u with
      | .d (.lst ds), .d (.lst es) => some (.ok (zipD ds es) μ1)
      | _, _ => none)
  | some (.ex x μ1) => some (.ex x μ1)
  | _ => none
theorem zipD_get {ds es : List D} {i : Nat} {d : D} (h : (zipD ds es)[i]? = some d) : ∃ a b, ds[i]? = some a ∧ es[i]? = some b ∧ d = .tup [a, b] := by
  unfold zipD at h
  rw [List.getElem?_map] at h
  cases e : (ds.zip es)[i]? with
  | none => rw [e] at h; cases h
  | some p =>
    rw [e] at h
    obtain ⟨a, b⟩ := p
    rw [List.getElem?_zip_eq_some] at e
    exact ⟨a, b, e.1, e.2, (Option.some.inj h).symm⟩
theorem zipD_length (ds es : List D) : (zipD ds es).length = min ds.length es.length := by unfold zipD; simp
theorem walkD_zip {F : Hp} {a b : Addr} {xs ys : List V} {ds es : List D} (h1 : SqL K F a xs) (h2 : SqL K F b ys) (d1 : DenL K F xs ds) (d2 : DenL K F ys es) : WalkD K F (Itz K a b) (zipD ds es) := fun H hl => by
  have q1 := Le.seqL hl h1
  have q2 := Le.seqL hl h2
  have w := walk_zip (K := K) (a := a) (b := b) (xs := xs) (ys := ys) (n := (zipD ds es).length) (by rw [zipD_length, d1.length, d2.length])
  refine ⟨fun i hi => w.goes i H hi ⟨q1, q2⟩, w.stops H ⟨q1, q2⟩, fun i x H' d hd y => ?_⟩
  obtain ⟨T, u, v, e1, e2, e3, e4, e5⟩ := w.yields i H x H' (List.getElem?_eq_some_iff.mp hd).1 ⟨q1, q2⟩ y
  obtain ⟨p, q, f1, f2, rfl⟩ := zipD_get hd
  obtain ⟨v1, g1, g2⟩ := d1.get f1
  obtain ⟨v2, g3, g4⟩ := d2.get f2
  have e4 : xs[i]? = some u := e4
  have e5 : ys[i]? = some v := e5
  rw [g1] at e4; cases e4
  rw [g3] at e5; cases e5
  exact .inr ⟨T, [u, v], [p, q], e1, e2, e3, rfl, .cons g2 (.cons g4 .nil)⟩
theorem walkD_zipT {F : Hp} {a b : Addr} {xs ys : List V} {ds es : List D} (h1 : SqT K F a xs) (h2 : SqT K F b ys) (d1 : DenL K F xs ds) (d2 : DenL K F ys es) : WalkD K F (RZ.ItzT K a b) (zipD ds es) := fun H hl => by
  have q1 := Le.seqT hl h1
  have q2 := Le.seqT hl h2
  have l1 := d1.length
  have l2 := d2.length
  have hz := zipD_length ds es
  refine ⟨fun i hi => ?_, ⟨xs, ys, q1, q2, by omega⟩, fun i x H' d hd y => ?_⟩
  · have i1 : i < xs.length := by omega
    have i2 : i < ys.length := by omega
    exact ⟨xs, ys, xs[i], ys[i], q1, q2, List.getElem?_eq_getElem i1, List.getElem?_eq_getElem i2⟩
  · obtain ⟨T, u, v, e1, e2, e3, e4, e5⟩ := y
    obtain ⟨p, q, f1, f2, rfl⟩ := zipD_get hd
    obtain ⟨v1, g1, g2⟩ := d1.get f1
    obtain ⟨v2, g3, g4⟩ := d2.get f2
    have e4 := e4 xs q1
    have e5 := e5 ys q2
    rw [g1] at e4; cases e4
    rw [g3] at e5; cases e5
    exact .inr ⟨T, [u, v], [p, q], e1, e2, e3, rfl, .cons g2 (.cons g4 .nil)⟩
theorem q_izip {X : Cx} {e e2 : Expr} {fa : AF} {p pos tpos : Pos} {elts : List Expr} {kk : Nat} (hm : X.mg "zip" = none) (ha : PA X [e, e2] (aOf X.K W E fa)) (hg : Gl X "zip" := by rfl)
    (hs : starEach [e, e2] X.env = (false, eval e X.env) :: starEach [e2] X.env := by rfl) (hpl : (backTo pos (starEach [e2] X.env)).any (·.1) = false := by rfl) : PI X (.Tuple elts kk tpos) (.Call (.Name "zip" p) [e, e2] [] pos) (iOf X.K W E (iZip fa)) := by
  refine PI.weak (RZ.pi_zipA hg hm ha hs hpl) fun σ H R h => ?_
  obtain ⟨F, L, μ, ρ, res, hr, hs, hf, hp⟩ := h
  unfold iZip at hf
  show aOf X.K W E fa σ H _
  cases ea : fa ρ μ with
  | none => rw [ea] at hf; cases hf
  | some ra =>
    rw [ea] at hf
    refine ⟨F, L, μ, ρ, ra, hr, hs, ea, ?_⟩
    cases ra with
    | ex x μ1 => cases hf; exact hp
    | ok ss μ1 =>
      intro vs F1 H1 L1 e1 r1 d1
      match ss, d1, hf with
      | [s, u], .cons d1 (.cons d2 .nil), hf =>
        simp only at hf
        split at hf
        · rename_i ds es f1 f2
          cases hf
          obtain ⟨a, xs, rfl, fa1, ha, da⟩ := viewT_ok r1 d1 f1
          obtain ⟨b, ys, rfl, fb1, hb, db⟩ := viewT_ok r1 d2 f2
          exact ⟨a, b, xs, ys, rfl, .inr ⟨ha, hb, hp _ F1 H1 L1 e1 r1 (walkD_zipT fa1 fb1 da db)⟩⟩
        · split at hf
          · cases hf
            cases d1 with
            | lst h1 h2 =>
              cases d2 with
              | lst h3 h4 =>
                exact ⟨_, _, _, _, rfl, .inl ⟨SqL.of (r1.sub _ _ h1), SqL.of (r1.sub _ _ h3), hp _ F1 H1 L1 e1 r1 (walkD_zip (SqL.of h1) (SqL.of h3) h2 h4)⟩⟩
          · cases hf
end
end DL
end

section
set_option Elab.async false
set_option linter.all false
set_option maxRecDepth 100000
set_option maxHeartbeats 4000000
/-! DLops3: sorting, sets, appends, stores, more forms. -/
namespace DL
open PySem PySem.Spec PyProof.Rows L2

theorem roomU65 {k : Nat} {A : Around} (r : Room k A) : A.units + 65 < cLine := by
  have h := r.un
  omega
theorem _root_.L2.Room.u65 {k : Nat} {A : Around} (r : L2.Room k A) : A.units + 65 < cLine := roomU65 r
/-- where a def stands behind the top -/
structure St0 (K : PySem.W.Frag) (mg : Str → Option Value) (x : Str) (st : Stmt) : Prop where
  ex : ∃ f fd, mg x = some (.ref f) ∧ Fun K x x st f fd
section
variable {X : Cx} {W : Wd} {E : XK}
theorem qt_chain {op op' : CmpOp} {r r' : R2} {g g' : G2} {a b c : Expr} {fa fb fc : EF} {pos : Pos} (ho : OpR X (compareOp op) r) (hg : Op2 X.K W E r g) (ho' : OpR X (compareOp op') r') (hg' : Op2 X.K W E r' g') (ha : PE X a (tOf X.K W E fa)) (hb : PE X b (tOf X.K W E fb)) (hc : PE X c (tOf X.K W E fc)) (hm : lastMarks [op, op'] [b, c] = false := by rfl) :
    PT X (.Compare a [op, op'] [b, c] pos) (bOf X.K W E (tst (eChain g g' fa fb fc))) :=
  PT.weak (pt_chain ho ho' ha hb hc hm) fun _ _ _ h => tTest_of (fun _ _ _ h => tChain_of hg hg' h) h
/-- -x -/
def eNeg (f : EF) : EF := fun ρ μ => match f ρ μ with
  | some (.ok (.d (.int i)) μ1) => some (.ok (.d (.int (-i))) μ1)
  | some (.ex x μ1) => some (.ex x μ1)
  | _ => none
theorem eNeg_eq (f : EF) (ρ : List S) (μ : List MO) : eNeg f ρ μ = bE (f ρ μ) fun s μ1 => match s with | .d (.int i) => some (.ok (.d (.int (-i))) μ1) | _ => none := by
  unfold eNeg bE
  cases f ρ μ with
  | none => rfl
  | some ra => cases ra with
    | ex => rfl
    | ok s μ1 => cases s with
      | d d => cases d <;> rfl
      | _ => rfl
theorem q_neg {a : Expr} {f : EF} {pos : Pos} (ha : PE X a (tOf X.K W E f)) : PE X (.UnaryOp .USub a pos) (tOf X.K W E (eNeg f)) := by
  refine PE.weak (pe_un un_neg ha) fun σ H Q h => ?_
  obtain ⟨F, L, μ, ρ, res, hr, hs, hf, hp⟩ := h
  rw [eNeg_eq] at hf
  show tOf X.K W E f σ H _
  refine tOf_ok hr hs hf hp fun s v μ1 F1 H1 L1 hk e1 r1 d1 p1 => ?_
  split at hk
  · cases hk; cases d1
    exact ⟨_, rfl, post_d r1 p1 (.int _)⟩
  · cases hk
/-- return -/
def sRetN : SF := fun _ μ => some (.ret (.d .non) μ)
theorem qs_retN {pos : Pos} : PS X (.Return none pos) (sOf X.K W E sRetN) := PS.weak ps_retN fun D σ H q => by
  obtain ⟨F, L, μ, ρ, r, hr, hs, hf, hp⟩ := q
  cases hf
  exact hp .non F H L .refl hr .non (by simp)
theorem qs_pass {pos : Pos} : PS X (.Pass pos) (sOf X.K W E sNx) := PS.weak ps_pass fun D σ H q => by
  obtain ⟨F, L, μ, ρ, r, hr, hs, hf, hp⟩ := q
  cases hf
  exact hp σ F H L .refl hr hs
/-- a, b, c = x, y, z -/
def sPar3 (i j l : Nat) (f : AF) : SF := fun ρ μ => match f ρ μ with
  | some (.ok [s, u, z] μ1) => some (.nx (((ρ.set i s).set j u).set l z) μ1)
  | some (.ex x μ1) => some (.ex x μ1)
  | _ => none
theorem qs_par3 {i j l : Nat} {x y z : Str} {a b c : Expr} {f : AF} {px py pz pt pos : Pos} {kt k2 pt2} (hc : X.calm = true) (hN : X.N.Nodup) (ha : PA X [a, b, c] (aOf X.K W E f)) (hi : X.N[i]? = some x := by rfl) (hj : X.N[j]? = some y := by rfl) (hl : X.N[l]? = some z := by rfl) (hij : i ≠ j := by decide) (hil : i ≠ l := by decide) (hjl : j ≠ l := by decide)
    (hx : X.env.scope.names.lookup x = some .local := by rfl) (hy : X.env.scope.names.lookup y = some .local := by rfl) (hz : X.env.scope.names.lookup z = some .local := by rfl)
    (hw : swappedStores [.Tuple [.Name x px, .Name y py, .Name z pz] kt pt] (.Tuple [a, b, c] k2 pt2) X.env = pure (some [x, y, z]) := by rfl)
    (hs : swapsWithSole [.Tuple [.Name x px, .Name y py, .Name z pz] kt pt] (.Tuple [a, b, c] k2 pt2) pos.line X.env = pure false := by rfl) :
    PS X (.Assign [.Tuple [.Name x px, .Name y py, .Name z pz] kt pt] (.Tuple [a, b, c] k2 pt2) pos) (sOf X.K W E (sPar3 i j l f)) := by
  refine PS.weak (ps_par3 hc hN hi hj hl hij hil hjl hx hy hz ha hw hs) fun D σ H q => ?_
  obtain ⟨F, L, μ, ρ, r, hr, hs, hf, hp⟩ := q
  unfold sPar3 at hf
  show aOf X.K W E f σ H _
  cases ea : f ρ μ with
  | none => rw [ea] at hf; cases hf
  | some ra =>
    rw [ea] at hf
    refine ⟨F, L, μ, ρ, ra, hr, hs, ea, ?_⟩
    cases ra with
    | ex x μ1 => cases hf; exact hp
    | ok ss μ1 =>
      intro vs F1 H1 L1 e1 r1 d1
      match ss, d1, hf with
      | [s, u, z], .cons d1 (.cons d2 (.cons d3 .nil)), hf =>
        cases hf
        exact ⟨_, _, _, rfl, hp _ F1 H1 L1 e1 r1 ((((hs.mono e1).set d1 i).set d2 j).set d3 l)⟩

/-! ### append, item stores on lists of this def or an argument -/
def isML : Option MO → Bool
  | some (.ml _) => true
  | _ => false
def eAppend (fo fa : EF) : EF := fun ρ μ => bE (fo ρ μ) fun s μ1 => match s with
  | .m i => if isML μ1[i]? = true then bE (fa ρ μ1) fun u μ2 => (match u, μ2[i]? with
    | .d x, some (.ml ds) => if ds.length < cap then some (.ok (.d .non) (μ2.set i (.ml (ds ++ [x])))) else none
    | _, _ => none) else none
  | _ => none
end
section
variable {X : Cx} {W : Wd} {E : XK}
theorem viewM {K : PySem.W.Frag} {F H : Hp} {L : List Addr} {μ : List MO} {v : V} {i : Nat} {ds : List D} (hr : Rep K W F L μ H) (h : DenS K F L v (.m i)) (e : μ[i]? = some (.ml ds)) : ∃ a xs, v = .ref a ∧ L[i]? = some a ∧ H a = some (.lst xs) ∧ DenL K F xs ds := by
  obtain ⟨a, h1, rfl⟩ := h
  obtain ⟨xs, q1, q2⟩ := hr.obj i a _ h1 e
  exact ⟨a, xs, rfl, h1, q1, q2⟩
theorem setM_ok {K : PySem.W.Frag} {F H : Hp} {L : List Addr} {μ : List MO} {i : Nat} {a : Addr} {xs ys : List V} {es : List D} (hr : Rep K W F L μ H) (hi : L[i]? = some a) (hp : H a = some (.lst xs)) (hd : DenL K F ys es) : Rep K W F L (μ.set i (.ml es)) (upd H a (.lst ys)) :=
  hr.setM hi hp lst_nt lst_nc ⟨ys, upd_same, hd⟩
theorem q_append {o e : Expr} {fo fa : EF} {apos cpos : Pos} (ho : PE X o (tOf X.K W E fo)) (ha : PE X e (tOf X.K W E fa))
    (hbase : attributeBase o "append" X.env (eval o X.env) = eval o X.env := by rfl)
    (hfew : ((backTo cpos (starEach [e] X.env)).all (fun x => !x.1) && (backToKw cpos (keywordEach [] X.env)).all (fun x => x.1.isSome)
      && decide ([e].length + ([] : List Keyword).length + (if ([] : List Keyword).isEmpty then 0 else 1) < 30)) = true := by rfl)
    (hline : (apos.endLine == cpos.line) = true := by rfl) (hs : starEach (e :: []) X.env = (false, eval e X.env) :: starEach [] X.env := by rfl) (hplain : (backTo cpos (starEach [] X.env)).any (·.1) = false := by rfl) : PE X (.Call (.Attribute o "append" apos) [e] [] cpos) (tOf X.K W E (eAppend fo fa)) := by
  refine PE.weak (pe_bm PySem.F.plainAttrs_list PySem.F.slot_list_append PySem.F.type_list_append mt_append ho (pa_cons ha pa_nil hs) hbase hfew hline hs hplain) fun σ H Q h => ?_
  obtain ⟨F, L, μ, ρ, res, hr, hs, hf, hp⟩ := h
  show tOf X.K W E fo σ H _
  refine tOf_ok hr hs hf hp fun s v μ1 F1 H1 L1 hk e1 r1 d1 p1 => ?_
  cases s with
  | un => cases hk
  | d d => cases hk
  | m i =>
    simp only at hk
    by_cases hm : isML μ1[i]? = true
    · rw [if_pos hm] at hk
      have hm' : ∃ ds, μ1[i]? = some (.ml ds) := by
        cases em : μ1[i]? with
        | none => rw [em] at hm; cases hm
        | some o => cases o with
          | ml ds => exact ⟨ds, rfl⟩
          | md ks => rw [em] at hm; cases hm
      obtain ⟨ds0, em⟩ := hm'
      obtain ⟨a, xs, rfl, ha, hx, _⟩ := viewM r1 d1 em
      refine ⟨.inl ⟨rfl, xs, SqL.of hx⟩, ?_⟩
      show tOf X.K W E fa σ H1 _
      refine tOf_ok r1 (hs.mono e1) hk p1 fun u y μ2 F2 H2 L2 hk2 e2 r2 d2 p2 => ?_
      split at hk2
      · rename_i x ds eu
        by_cases hc : ds.length < cap
        · rw [if_pos hc] at hk2; cases hk2
          obtain ⟨a', xs', q0, q1, q2, q3⟩ := viewM r2 (d1.mono e2) eu
          cases q0
          refine ⟨a, xs', y, rfl, rfl, q2, cap_line (by rw [q3.length]; omega), ?_⟩
          exact p2 _ F2 _ L2 (ext_setM r2 q1 lst_nt) (setM_ok r2 q1 q2 (q3.append (.cons d2 .nil))) .non (by simp)
        · rw [if_neg hc] at hk2; cases hk2
      · cases hk2
    · rw [if_neg hm] at hk; cases hk
def sSetItem (f fo fi : EF) : SF := fun ρ μ => bS (f ρ μ) fun u μ1 => bS (fo ρ μ1) fun s μ2 => bS (fi ρ μ2) fun z μ3 => match s, z, u with
  | .m i, .d (.int k), .d x => (match μ3[i]? with
    | some (.ml ds) => (match ixN ds.length k with
      | some j => some (.nx ρ (μ3.set i (.ml (ds.set j x))))
      | none => none)
    | _ => none)
  | _, _, _ => none
theorem qs_setitem {o i e : Expr} {f fo fi : EF} {spos pos : Pos} (he : PE X e (tOf X.K W E f)) (ho : PE X o (tOf X.K W E fo)) (hi : PE X i (tOf X.K W E fi))
    (ha : ∀ v, assign (.Subscript o i spos) X.env v = (do
      let ov ← holding [v] (eval o X.env)
      let iv ← holding [v, ov] (eval i X.env)
      standAt spos
      holding [v, ov, iv] (setItem ov iv v)
      release [v, ov, iv] []) := by intro _; rfl)
    (hs : swapsWithSole [.Subscript o i spos] e pos.line X.env = pure false := by rfl) (hw : swappedStores [.Subscript o i spos] e X.env = pure none := by rfl)
    (h1 : (assignEach [.Subscript o i spos] X.env).map (·.2) = [assign (.Subscript o i spos) X.env] := by rfl) : PS X (.Assign [.Subscript o i spos] e pos) (sOf X.K W E (sSetItem f fo fi)) := by
  refine PS.weak (ps_asg he (pg_sub ho hi set_list ha) hs hw h1) fun D σ H q => ?_
  obtain ⟨F, L, μ, ρ, r, hr, hs, hf, hp⟩ := q
  show tOf X.K W E f σ H _
  refine tS_ok hr hs hf hp fun u y μ1 F1 H1 L1 hk e1 r1 d1 n1 p1 => ?_
  show tOf X.K W E fo σ H1 _
  refine tS_ok r1 (hs.mono e1) hk p1 fun s v μ2 F2 H2 L2 hk2 e2 r2 d2 n2 p2 => ?_
  show tOf X.K W E fi σ H2 _
  refine tS_ok r2 ((hs.mono e1).mono e2) hk2 p2 fun z w μ3 F3 H3 L3 hk3 e3 r3 d3 n3 p3 => ?_
  split at hk3
  · rename_i i k x
    split at hk3
    · rename_i ds em
      split at hk3
      · rename_i j ej
        cases hk3
        obtain ⟨a, xs, rfl, q1, q2, q3⟩ := viewM r3 (d2.mono e3) em
        cases d3
        refine ⟨a, xs, k, j, rfl, rfl, q2, by rw [q3.length]; exact ej, ?_⟩
        exact p3 _ F3 _ L3 (ext_setM r3 q1 lst_nt) (setM_ok r3 q1 q2 (DenL.set (((d1.mono e2).mono e3 : DenS X.K F3 L3 y (.d x))) j q3)) (((hs.mono e1).mono e2).mono e3)
      · cases hk3
    · cases hk3
  · cases hk3
end
end DL
end

section
set_option Elab.async false
set_option linter.all false
set_option maxRecDepth 100000
set_option maxHeartbeats 4000000
/-! DLset: set(..) of lists and tuples of ints, sorted, counted; sorting of sequences. -/
namespace DL
open PySem PySem.Spec PyProof.Rows L2
section
variable {P : Program} {w : World} {A : Around} {E : Value → Shared → Prop} {s : Shared}
/-- the empty set that set() makes -/
abbrev set0 (w : World) : Obj := { cls := .type "set", dict := none, data := .set #[] 0 (.fresh 0 0 (!w.params.followText "set-order")) }
theorem new_set_list {l : Addr} {items : Array Value} (ns : List Int) {Q : Value → Shared → Prop} (hh : A.handled = none) (hl : s.heap.IsList l items) (hit : IntsAre items.toList ns) (hb : ns.length + 1 < scanBound)
    (h : ∀ (h' : Heap) (tk c : Nat), SetR w h' s.heap.objs.size (fun j => decide (j ∈ ns)) c → c ≤ ns.length → (∀ b o, s.heap.get? b = some o → h'.get? b = some o) → Q (.ref s.heap.objs.size) { s with heap := h', toks := tk }) :
    wpAny (model P w) A (call (.type "set") [.ref l]) Q E s := by
  have size_is : items.size = ns.length := by
    have q := IntsAre.length hit
    rwa [Array.length_toList] at q
  obtain ⟨mc, ml, mro⟩ := F.called_set.mro
  have c1 := F.called_set.made
  have c2 := F.called_set.sub
  have c3 := F.called_set.notType
  have c4 := F.called_set.canCreate
  have c5 := F.typeCall_set_1 (.ref l)
  refine wpAny_call (codeAny_of_tree ?_)
  show wpAny _ _ (callAny (.type "set") _) _ _ _
  refine wpAny_pure ⟨Code.quiet_builtin _ (by decide +kernel), codeAny_builtin F.entry_type_call ?_⟩
  rw [Around.under_plain (weight_type_call_type "set" [.ref l] []) rfl]
  repeat (any_goals (first | assumption | wp_step))
  refine codeAny_mono (code_set_led1 (.ref l) (E := E) (Q₁ := fun obj s₁ => obj = .ref s.heap.objs.size ∧ s₁ = { s with heap := s.heap.push (set0 w) }) ⟨rfl, rfl⟩) fun r s₁ hr => ?_
  cases r with
  | error e => exact hr
  | ok fl =>
    cases fl with
    | ret obj =>
      obtain ⟨rfl, rfl⟩ := hr
      have at0 : (s.heap.push (set0 w)).get? s.heap.objs.size = some (set0 w) := Heap.get?_push_size _ rfl
      have ty0 : Shared.TypeIs { s with heap := s.heap.push (set0 w) } (.ref s.heap.objs.size) "set" := ⟨_, at0, rfl⟩
      have i1 := F.called_set.init.lookup
      have i2 := F.called_set.init.bind (.ref s.heap.objs.size)
      repeat (any_goals (first | assumption | wp_step))
      refine codeAny_mono (codeAny_call_builtin (R := wants (fun r s₂ => r = .none ∧ ∃ h' tk c, s₂ = { s with heap := h', toks := tk } ∧ SetR w h' s.heap.objs.size (fun j => decide (j ∈ ns)) c ∧ c ≤ ns.length ∧
          (∀ b o, s.heap.get? b = some o → h'.get? b = some o)) E) F.called_set.init.plain F.entry_set_init (check_set_init_1 ty0 ?_)) fun r₂ s₂ hr₂ => ?_
      · obtain ⟨⟨lc, ld, lx, lsl⟩, hol, hcl, nl, hdl⟩ := hl
        simp only at hcl hdl
        subst hcl; subst hdl
        have hol' : (s.heap.push (set0 w)).get? l = some { cls := .type "list", dict := ld, data := .seq items nl, slots := lsl } := Heap.get?_push_of_some _ hol
        have k1 := F.sub_list_set
        have k2 := F.sub_list_frozenset
        have k3 : (Value.type "list" == Value.type "dict") = false := by decide
        have hl1 : (s.heap.push (set0 w)).IsList l items := ⟨_, hol', rfl, nl, rfl⟩
        have llt : l < s.heap.objs.size := Heap.lt_size hol
        unfold Builtin.«set.__init__» noKeywords Builtin.Frozenset.updateFrom
        generalize hPI : pyIter = PI
        wp_walk
        subst hPI
        refine wpAny_pyIter_list hl1 ?_
        refine wpAny_bind (wpAny_runValue ?_)
        have hh3 : A.in1.in1.in1.handled = none := by simp [hh]
        have z1 : (s.heap.push (set0 w)).objs.size = s.heap.objs.size + 1 := Heap.size_push ..
        have ne1 : l ≠ (s.heap.push (set0 w)).objs.size := by rw [z1]; exact Nat.ne_of_lt (Nat.lt_succ_of_lt llt)
        have nin : s.heap.objs.size ∉ [(s.heap.push (set0 w)).objs.size, l] := by
          rw [z1]; simp only [List.mem_cons, List.not_mem_nil, or_false, not_or]
          exact ⟨Nat.ne_of_lt (Nat.lt_succ_self _), Nat.ne_of_gt llt⟩
        have hval : ∀ (i : Nat) (v : Value), items[i]? = some v → ∃ k t, ns[i]? = some k ∧ v = .int k t := fun i v hv => by
          have hi : i < ns.length := by rw [← size_is]; exact (Array.getElem?_eq_some_iff.mp hv).1
          obtain ⟨t, e⟩ := PyProof.Rows.IntsAre.int_at hit i v (by rw [Array.getElem?_toList]; exact hv)
          refine ⟨ns[i], t, List.getElem?_eq_getElem hi, ?_⟩
          rw [e, List.getD_eq_getElem?_getD, List.getElem?_eq_getElem hi] <;> rfl
        refine set_update_ints ((Walks.list hh3 _ l ne1 items).toS) s.heap.objs.size
          nin ns size_is hb hval (items.size - 0) 0 _ (by omega) (Nat.zero_le _)
          ⟨⟨_, Heap.get?_push_size _ rfl, rfl, rfl⟩, (hl1.push _)⟩ ?c0 ?c1
        case c0 =>
          exact ⟨0, Nat.le_refl 0, setR_new_at (Heap.get?_push_of_some _ at0)⟩
        case c1 =>
          intro s' c' hm hc' hS'
          obtain ⟨h', g2, d', tk', os'⟩ := s'
          have eg : g2 = s.gens := hm.gens
          have ed : d' = s.drawn := hm.drawn
          have eo : os' = s.os := hm.os
          subst eg; subst ed; subst eo
          show wpAny _ _ _ _ _ _
          refine wpAny_pure ?_
          show wpAny _ _ (ret Value.none) _ _ _
          rw [size_is] at hc'
          refine wpAny_pure ⟨rfl, h', tk', c', rfl, hS', hc', fun b o e => ?_⟩
          have hb0 : b < s.heap.objs.size := Heap.lt_size e
          refine hm.heap b o ?_ (Heap.get?_push_of_some _ (Heap.get?_push_of_some _ e))
          simp only [List.mem_cons, List.not_mem_nil, or_false, not_or]
          rw [z1]
          exact ⟨Nat.ne_of_lt hb0, Nat.ne_of_lt (Nat.lt_succ_of_lt hb0)⟩
      · cases r₂ with
        | error e => exact hr₂
        | ok fl₂ =>
          cases fl₂ with
          | ret r =>
            obtain ⟨rfl, h', tk, c', rfl, hS', hc', hk'⟩ := hr₂
            repeat (any_goals (first | assumption | wp_step))
            exact h _ _ _ hS' hc' hk'
          | _ => exact hr₂.elim
    | _ => exact hr.elim
end
end DL
end

section
set_option Elab.async false
set_option linter.all false
set_option maxRecDepth 100000
set_option maxHeartbeats 4000000
namespace DL
open PySem PySem.Spec PyProof.Rows L2
/-! ### sorted lists are unique -/
theorem sorted_uniq {α : Type} {le : α → α → Prop} (anti : ∀ a b, le a b → le b a → a = b) : ∀ {l m : List α}, l.Perm m → l.Pairwise le → m.Pairwise le → l = m
  | [], m, p, _, _ => (List.Perm.nil_eq p)
  | x :: l, m, p, hl, hm => by
    cases m with
    | nil => exact absurd p.length_eq (by simp)
    | cons y m =>
      obtain ⟨l1, l2⟩ := List.pairwise_cons.mp hl
      obtain ⟨m1, m2⟩ := List.pairwise_cons.mp hm
      have hx : x ∈ y :: m := p.mem_iff.mp List.mem_cons_self
      have hy : y ∈ x :: l := p.mem_iff.mpr List.mem_cons_self
      have e : x = y := by
        rcases List.mem_cons.mp hx with e | hx
        · exact e
        · rcases List.mem_cons.mp hy with e | hy
          · exact e.symm
          · exact anti _ _ (l1 _ hy) (m1 _ hx)
      subst e
      rw [sorted_uniq anti (List.perm_cons x |>.mp p) l2 m2]
def sortI (ns : List Int) : List Int := ns.mergeSort fun a b => decide (a ≤ b)
theorem sortI_perm (ns : List Int) : (sortI ns).Perm ns := List.mergeSort_perm _ _
theorem sortI_sorted (ns : List Int) : (sortI ns).Pairwise (· ≤ ·) := by
  have := List.pairwise_mergeSort (le := fun a b : Int => decide (a ≤ b)) (fun a b c h1 h2 => by simp at h1 h2 ⊢; omega) (fun a b => by simp; omega) ns
  exact this.imp fun h => by simpa using h
theorem sortI_eq {ns ns' : List Int} (p : ns'.Perm ns) (h : ns'.Pairwise (· ≤ ·)) : ns' = sortI ns :=
  sorted_uniq (fun a b h1 h2 => Int.le_antisymm h1 h2) (p.trans (sortI_perm ns).symm) h (sortI_sorted ns)
/-- pairs, by their first, then by their second -/
def leP (p q : Int × Int) : Bool := decide (p.1 < q.1) || (decide (p.1 = q.1) && decide (p.2 ≤ q.2))
theorem leP_iff {p q : Int × Int} : leP p q = true ↔ p.1 < q.1 ∨ (p.1 = q.1 ∧ p.2 ≤ q.2) := by simp [leP]
def sortP (ns : List (Int × Int)) : List (Int × Int) := ns.mergeSort leP
theorem sortP_perm (ns : List (Int × Int)) : (sortP ns).Perm ns := List.mergeSort_perm _ _
theorem sortP_sorted (ns : List (Int × Int)) : (sortP ns).Pairwise (fun p q => leP p q = true) :=
  List.pairwise_mergeSort (le := leP) (fun a b c h1 h2 => by rw [leP_iff] at h1 h2 ⊢; omega) (fun a b => by
    have : leP a b = true ∨ leP b a = true := by rw [leP_iff, leP_iff]; omega
    simpa using this) ns
theorem sortP_eq {ns ns' : List (Int × Int)} (p : ns'.Perm ns) (h : ns'.Pairwise (fun p q => leP p q = true)) : ns' = sortP ns :=
  sorted_uniq (fun a b h1 h2 => by
    rw [leP_iff] at h1 h2
    obtain ⟨a1, a2⟩ := a; obtain ⟨b1, b2⟩ := b
    dsimp only at h1 h2
    rw [Prod.mk.injEq]
    omega) (p.trans (sortP_perm ns).symm) h (sortP_sorted ns)

/-! ### sorted(xs), xs a list or a tuple -/
section
variable {P : Program} {w : World} {A : Around} {E : Value → Shared → Prop} {s : Shared}
/-- a list's or tuple's items stand at l -/
def SeqAtV (h : Heap) (l : Addr) (vs : List Value) : Prop := ∃ o n, h.get? l = some o ∧ (o.cls = .type "list" ∨ o.cls = .type "tuple") ∧ o.data = .seq vs.toArray n
theorem collect_seq {l : Addr} {vs : List Value} {Q : List Value → Shared → Prop} (hl : SeqAtV s.heap l vs) (hz : vs.length ≤ sizeLine)
    (h : Q vs { s with heap := (s.heap.push (seqObj "list" #[] 0)).update s.heap.objs.size (Obj.mapSeq (· ++ vs.toArray)) }) : wpAny (model P w) A (collect (.ref l)) Q E s := by
  obtain ⟨o, n, ho, hc, hd⟩ := id hl
  unfold collect
  refine wpAny_bind (wpAny_runValue (codeAny_builtin entry_proto_collect' ?_))
  show wpAny _ _ (do again (.builtin "list.__iadd__" ⟨[← newList [], .ref l], []⟩)) _ _ s
  refine wpAny_bind (wpAny_newList (wpAny_pure ⟨Code.quiet_builtin _ (by decide +kernel), codeAny_builtin entry_list_iadd' ?_⟩))
  show wpAny _ _ (Builtin.List.listExtendWith (.ref s.heap.objs.size) (.ref l) (.ref s.heap.objs.size)) _ _ { s with heap := s.heap.push (seqObj "list" #[] 0) }
  unfold Builtin.List.listExtendWith
  have old : (s.heap.push (seqObj "list" #[] 0)).get? l = some o := Heap.get?_push_of_some _ ho
  obtain ⟨T, hT, hTT⟩ : ∃ T, o.cls = .type T ∧ (Value.type T == Value.type "list" || Value.type T == Value.type "tuple") = true := by
    rcases hc with e | e
    · exact ⟨_, e, by decide⟩
    · exact ⟨_, e, by decide⟩
  refine wpAny_bind (wpAny_typeOf (T := T) ⟨o, old, hT⟩ ?_)
  rw [if_pos (by rw [Bool.or_assoc, hTT, Bool.or_true])]
  refine wpAny_bind (listItems_at old hd ?_)
  refine wpAny_bind (listItems_at (xs := #[]) (n := 0) (Heap.get?_push_size _ rfl) rfl ?_)
  rw [if_neg (by simp)]
  refine wpAny_bind (listUpdate_at (xs := #[]) (n := 0) (Heap.get?_push_size _ rfl) rfl ?_ (Nat.zero_le _) (by show (#[] ++ vs.toArray).size ≤ sizeLine + 1; simp only [Array.size_append, List.size_toArray, List.length_nil]; omega))
  refine wpAny_pure ?_
  show wpAny (model P w) A (do
      let o ← load s.heap.objs.size
      match o.data with
      | .seq xs _ => pure xs.toList
      | _ => unsupported "internal:collect") Q E { s with heap := (s.heap.push (seqObj "list" #[] 0)).update s.heap.objs.size (Obj.mapSeq (· ++ vs.toArray)) }
  refine wpAny_bind (wpAny_load (get?_update_seq (Heap.get?_push_size _ rfl) _) ?_)
  show wpAny _ _ (pure ((#[] : Array Value) ++ vs.toArray).toList) Q E _
  rw [show ((#[] : Array Value) ++ vs.toArray).toList = vs by simp]
  exact wpAny_pure h
theorem sorted_seq {l : Addr} {vs : List Value} {ltv : Value → Value → Bool} {Q : Value → Shared → Prop} (O : SrtO.Swo ltv) (hl : SeqAtV s.heap l vs) (hz : vs.length ≤ sizeLine)
    (hS : 2 ≤ vs.length → ∀ (h₁ : Heap) (a : Addr), h₁.get? a = some (seqObj "list" vs.toArray 0) → (∀ b o, s.heap.get? b = some o → b ≠ a ∧ h₁.get? b = some o) → SrtO.SortableO P w A.in1.in1 { s with heap := h₁ } a vs ltv)
    (h : ∀ out : List Value, SrtO.Srtd ltv out → SrtO.Stb ltv out vs → Q (.ref (s.heap.objs.size + 1)) { s with heap := sortedAll s.heap vs out.toArray }) :
    wpAny (model P w) A (call (.builtin "sorted") [.ref l]) Q E s := by
  refine Calls.call_function_entry kind_sorted plain_sorted entry_sorted (args_sorted1 _) ?_
  unfold Builtin.«sorted»
  refine wpAny_bind (m := checkCount "sorted" 1 1 _) (wpAny_pure ?_)
  refine wpAny_bind (collect_seq hl hz ?_)
  refine wpAny_bind (wpAny_newList ?_ hz)
  have z1 : ((s.heap.push (seqObj "list" #[] 0)).update s.heap.objs.size (Obj.mapSeq (· ++ vs.toArray))).objs.size = s.heap.objs.size + 1 := by
    rw [Heap.size_update, size_push']
  have at1 : (((s.heap.push (seqObj "list" #[] 0)).update s.heap.objs.size (Obj.mapSeq (· ++ vs.toArray))).push (seqObj "list" vs.toArray 0)).get? (s.heap.objs.size + 1) = some (seqObj "list" vs.toArray 0) := by
    rw [← z1]; exact Heap.get?_push_size _ rfl
  have stays : ∀ b o, s.heap.get? b = some o → b ≠ s.heap.objs.size + 1 ∧ (((s.heap.push (seqObj "list" #[] 0)).update s.heap.objs.size (Obj.mapSeq (· ++ vs.toArray))).push (seqObj "list" vs.toArray 0)).get? b = some o := fun b o q => by
    have lt : b < s.heap.objs.size := Heap.lt_size q
    refine ⟨Nat.ne_of_lt (Nat.lt_succ_of_lt lt), Heap.get?_push_of_some _ ?_⟩
    rw [Heap.get?_update_ne _ _ _ _ (Nat.ne_of_lt lt)]
    exact Heap.get?_push_of_some _ q
  show wpAny _ _ _ _ _ { s with heap := ((s.heap.push (seqObj "list" #[] 0)).update s.heap.objs.size (Obj.mapSeq (· ++ vs.toArray))).push (seqObj "list" vs.toArray 0) }
  rw [z1]
  refine wpAny_bind (wpAny_holding (wpAny_call_entry slot_list_sort ⟨_, at1, rfl⟩ entry_list_sort (SrtO.list_sort_ord O at1 hz (fun h2 => hS h2 _ _ at1 stays) fun out hs hb => ⟨_, rfl, ?_⟩) (args_list_sort _)))
  exact wpAny_pure ⟨_, rfl, h out hs hb⟩
end
section
variable {X : Cx}
theorem seqAtV {pins : List (Addr × Obj)} {σ : _root_.L2.St} {H : Hp} {s : Shared} {a : Addr} {xs : List V} (I : Inv X pins σ H s) (h : SqL X.K H a xs ∨ SqT X.K H a xs) : ∃ its : List Value, Vals xs its ∧ SeqAtV s.heap a its ∧ xs.length ≤ sizeLine := by
  rcases h with h | h
  · obtain ⟨its, r, pl, hz⟩ := I.list h
    obtain ⟨o, ho, hc, n, hd⟩ := pl.isList
    exact ⟨its, r, ⟨o, n, ho, .inl hc, hd⟩, hz⟩
  · obtain ⟨its, r, ⟨o, ho, hc, n, hd⟩, hz⟩ := I.tuple h
    exact ⟨its, r, ⟨o, n, ho, .inr hc, hd⟩, hz⟩
def rSortedI2 (K : PySem.W.Frag) : List V → Hp → VK → Prop := fun vs H Q => ∃ (a : Addr) (ns : List Int), vs = [V.ref a] ∧ (SqL K H a (ns.map V.int) ∨ SqT K H a (ns.map V.int)) ∧
  ∀ p : Addr, H p = none → Q (.ref p) (upd H p (.lst ((sortI ns).map V.int)))
theorem cr_sortedI2 : CallR X (.builtin "sorted") (rSortedI2 X.K) := by
  intro pins s σ H vs us Q I r h
  obtain ⟨a, ns, rfl, hs, q⟩ := h
  obtain ⟨its, rv, hl, hz⟩ := seqAtV I hs
  rw [Vals.ref1 r]
  have hi := rv.ints
  refine sorted_seq SrtO.swo_int hl (by rw [← rv.length]; exact hz) (fun h2 h₁ a' _ _ => SrtO.ints_sortable hi h2) fun out h1 h2 => ?_
  obtain ⟨k1, k2, k3⟩ := SrtO.ints_out hi h1 h2
  obtain ⟨ep, he'⟩ := PyProof.Rows.sortedAll_at s.heap its out.toArray
  have hlen : ((out.map SrtO.iv).map V.int).length ≤ sizeLine := by
    rw [List.length_map, k2.length_eq]
    rw [List.length_map] at hz
    exact hz
  have hq := q (s.heap.objs.size + 1) (I.hok.fresh (Nat.le_succ _))
  rw [← sortI_eq k2 k3] at hq
  exact ⟨.ref _, upd H (s.heap.objs.size + 1) (.lst ((out.map SrtO.iv).map V.int)), I.laid (t' := s.toks) (fun _ _ => PyProof.Rows.sortedAll_old) (Nat.le_succ _) ⟨hlen, out, ep, vals_of_ints k1, he'⟩, rfl, hq⟩
/-- what a raw value is as a pair of ints, read off the heap -/
def pairAt (h : Heap) : Value → Int × Int
  | .ref a => (match h.get? a with
    | some o => (match o.data with
      | .seq its _ => (SrtO.iv (its.getD 0 .none), SrtO.iv (its.getD 1 .none))
      | _ => (0, 0))
    | none => (0, 0))
  | _ => (0, 0)
def backR : Value → V
  | .ref a => .ref a
  | _ => .non
def fwdR : V → Value
  | .ref a => .ref a
  | _ => .none
def rSortedP2 (K : PySem.W.Frag) : List V → Hp → VK → Prop := fun vs H Q => ∃ (a : Addr) (xs : List V) (ps : List (Int × Int)), vs = [V.ref a] ∧ (SqL K H a xs ∨ SqT K H a xs) ∧ xs.length = ps.length ∧
  (∀ (i : Nat) x p, xs[i]? = some x → ps[i]? = some p → ∃ t, x = .ref t ∧ SqT K H t [.int p.1, .int p.2]) ∧
  ∀ (ys : List V) (f : V → Int × Int) (p : Addr), ys.Perm xs → xs.map f = ps → (ys.map f).Pairwise (fun p q => leP p q = true) → H p = none → Q (.ref p) (upd H p (.lst ys))
theorem refs_back2 : ∀ {xs : List V} {vs : List Value}, Vals xs vs → (∀ x ∈ xs, ∃ t, x = V.ref t) → xs = vs.map backR ∧ (∀ v ∈ vs, ∃ t, v = Value.ref t)
  | _, _, .nil, _ => ⟨rfl, by simp⟩
  | x :: xs, v :: vs, .cons r l, h => by
    obtain ⟨t, rfl⟩ := h x List.mem_cons_self
    cases r
    obtain ⟨h1, h2⟩ := refs_back2 l fun y hy => h y (List.mem_cons_of_mem _ hy)
    refine ⟨by rw [List.map_cons, ← h1]; rfl, fun u hu => ?_⟩
    rcases List.mem_cons.mp hu with rfl | hu
    · exact ⟨t, rfl⟩
    · exact h2 u hu
theorem vals_back2 : ∀ {vs : List Value}, (∀ v ∈ vs, ∃ t, v = Value.ref t) → Vals (vs.map backR) vs
  | [], _ => .nil
  | v :: vs, h => by
    obtain ⟨t, rfl⟩ := h v List.mem_cons_self
    exact .cons (show RelV (.ref t) (.ref t) from rfl) (vals_back2 fun y hy => h y (List.mem_cons_of_mem _ hy))
theorem cr_sortedP2 : CallR X (.builtin "sorted") (rSortedP2 X.K) := by
  intro pins s σ H vs us Q I r h
  obtain ⟨a, xs, ps, rfl, hs, hlen, hx, q⟩ := h
  obtain ⟨its, rv, hl, hz⟩ := seqAtV I hs
  rw [Vals.ref1 r]
  obtain ⟨e1, e2⟩ := refs_back2 rv fun x m => by
    obtain ⟨i, hi⟩ := List.mem_iff_getElem?.mp m
    have hlt : i < ps.length := by rw [← hlen]; exact (List.getElem?_eq_some_iff.mp hi).1
    obtain ⟨t, e, _⟩ := hx i x ps[i] hi (List.getElem?_eq_getElem hlt)
    exact ⟨t, e⟩
  -- each raw value is its pair
  have pr : ∀ (i : Nat) v p, its[i]? = some v → ps[i]? = some p → Srt.IsPair s.heap v p.1 p.2 ∧ pairAt s.heap v = p := fun i v p hv hp => by
    have hxi : xs[i]? = some (backR v) := by rw [e1, List.getElem?_map, hv]; rfl
    obtain ⟨t, et, hT⟩ := hx i _ p hxi hp
    obtain ⟨t', rfl⟩ := e2 v (List.mem_of_getElem? hv)
    have et : t' = t := V.ref.inj et
    subst et
    obtain ⟨its2, r2, ⟨o, ho, hc, n, hd⟩, _⟩ := I.tuple hT
    cases r2 with
    | cons ra l1 => cases l1 with
      | cons rb l2 =>
        cases l2
        obtain ⟨t1, rfl⟩ := ra
        obtain ⟨t2, rfl⟩ := rb
        refine ⟨⟨t', o, t1, t2, n, rfl, ho, hc, hd⟩, ?_⟩
        unfold pairAt
        simp only [ho, hd]
        rfl
  have lenv : its.length = ps.length := by rw [← hlen]; exact rv.length.symm
  have prs : ∀ v ∈ its, Srt.IsPair s.heap v (pairAt s.heap v).1 (pairAt s.heap v).2 := fun v hv => by
    obtain ⟨i, hi⟩ := List.mem_iff_getElem?.mp hv
    have hlt : i < ps.length := by rw [← lenv]; exact (List.getElem?_eq_some_iff.mp hi).1
    obtain ⟨h1, h2⟩ := pr i v ps[i] hi (List.getElem?_eq_getElem hlt)
    rw [h2]; exact h1
  have hmap : its.map (pairAt s.heap) = ps := by
    apply List.ext_getElem?
    intro i
    rw [List.getElem?_map]
    cases hv : its[i]? with
    | none =>
      have : ps.length ≤ i := by rw [← lenv]; exact List.getElem?_eq_none_iff.mp hv
      rw [List.getElem?_eq_none this]; rfl
    | some v =>
      have hlt : i < ps.length := by rw [← lenv]; exact (List.getElem?_eq_some_iff.mp hv).1
      rw [List.getElem?_eq_getElem hlt, Option.map_some, (pr i v ps[i] hv (List.getElem?_eq_getElem hlt)).2]
  refine sorted_seq (SrtO.swo_lex (pairAt s.heap)) hl (by rw [← rv.length]; exact hz) (fun h2 h₁ a' ha kk => ?_) fun out h1 h2 => ?_
  · refine SrtO.pairs_sortableO (s := { s with heap := h₁ }) (by omega) (fun v hm => (prs v hm).keeps fun b o e _ => (kk b o e).2) fun o e => ?_
    have e' : some o = some (seqObj "list" its.toArray 0) := e.symm.trans ha
    cases e'
    intro c
    exact absurd (Value.type.inj c) (by decide)
  · obtain ⟨n, hn⟩ := PyProof.Rows.sortedAll_at s.heap its out.toArray
    have h3 : ∀ u ∈ out, ∃ a, u = Value.ref a := fun u hu => e2 u (h2.perm.mem_iff.mp hu)
    have hfb : ∀ u : Value, (∃ a, u = Value.ref a) → (fun x => pairAt s.heap (fwdR x)) (backR u) = pairAt s.heap u := fun u ⟨a, e⟩ => by rw [e]; rfl
    refine ⟨.ref _, upd H (s.heap.objs.size + 1) (.lst (out.map backR)), I.laid (t' := s.toks) (fun _ _ => PyProof.Rows.sortedAll_old) (Nat.le_succ _) ⟨?_, out, n, vals_back2 h3, hn⟩, rfl, q _ (fun x => pairAt s.heap (fwdR x)) _ ?_ ?_ ?_ (I.hok.fresh (Nat.le_succ _))⟩
    · rw [List.length_map, h2.len, ← rv.length]; exact hz
    · rw [e1]; exact h2.perm.map _
    · rw [e1, List.map_map, ← hmap]
      exact List.map_congr_left fun u hu => hfb u (e2 u hu)
    · rw [List.map_map]
      have : out.map ((fun x => pairAt s.heap (fwdR x)) ∘ backR) = out.map (pairAt s.heap) := List.map_congr_left fun u hu => hfb u (h3 u hu)
      rw [this]
      refine List.pairwise_map.mpr (h1.imp fun {x y} hxy => ?_)
      have := SrtO.lexB_no.mp hxy
      rw [leP_iff]
      omega

/-! ### sorted(..) on data -/
def allPairs : List D → Option (List (Int × Int))
  | [] => some []
  | .tup [.int a, .int b] :: r => (allPairs r).map ((a, b) :: ·)
  | _ :: _ => none
def pairD (p : Int × Int) : D := .tup [.int p.1, .int p.2]
theorem allPairs_ok : ∀ {ds : List D} {ps : List (Int × Int)}, allPairs ds = some ps → ds = ps.map pairD
  | [], ns, h => by cases h; rfl
  | d :: r, ns, h => by
    unfold allPairs at h
    split at h
    · rename_i e; cases e
    · rename_i a b r' e
      cases e
      cases e2 : allPairs r with
      | none => rw [e2] at h; cases h
      | some ms => rw [e2] at h; cases h; rw [allPairs_ok e2]; rfl
    · cases h
theorem allPairs_map : ∀ ps : List (Int × Int), allPairs (ps.map pairD) = some ps
  | [] => rfl
  | p :: ps => by
    show (allPairs (ps.map pairD)).map ((p.1, p.2) :: ·) = some (p :: ps)
    rw [allPairs_map ps]; rfl
/-- the items of a list or a tuple -/
def viewS (μ : List MO) (s : S) : Option (List D) := match viewT s with
  | some ds => some ds
  | none => viewL μ s
def gSorted (mk : Bool) : GF := fun ss μ => match ss with
  | [s] => (match viewS μ s with
    | some ds => (match allInts ds with
      | some ns => newL mk ((sortI ns).map .int) μ
      | none => match allPairs ds with
        | some ps => newL mk ((sortP ps).map pairD) μ
        | none => none)
    | none => none)
  | _ => none
variable {K : PySem.W.Frag} {W : Wd} {E : XK}
theorem viewS_ok {F H : Hp} {L : List Addr} {μ : List MO} {v : V} {s : S} {ds : List D} (hr : Rep K W F L μ H) (hd : DenS K F L v s) (h : viewS μ s = some ds) : ∃ a xs, v = .ref a ∧ (SqL K H a xs ∨ SqT K H a xs) ∧ DenL K F xs ds := by
  unfold viewS at h
  split at h
  · rename_i e
    cases h
    obtain ⟨a, xs, rfl, fa, ha, da⟩ := viewT_ok hr hd e
    exact ⟨a, xs, rfl, .inr ha, da⟩
  · obtain ⟨a, xs, rfl, ha, da⟩ := viewL_ok hr hd h
    exact ⟨a, xs, rfl, .inl ha, da⟩
theorem c_sorted : CallR X (.builtin "sorted") (fun vs H Q => rSortedI2 X.K vs H Q ∨ rSortedP2 X.K vs H Q) := CallR.or cr_sortedI2 cr_sortedP2
theorem k_sorted {mk : Bool} : COk K W E (fun vs H Q => rSortedI2 K vs H Q ∨ rSortedP2 K vs H Q) (gSorted mk) := fun F L μ H vs ss res Q hr hd hg hp => by
  unfold gSorted at hg
  split at hg
  · obtain ⟨v, rfl, h⟩ := hd.one
    split at hg
    · rename_i ds ev
      obtain ⟨a, xs, rfl, ha, da⟩ := viewS_ok hr h ev
      split at hg
      · rename_i ns en
        have := allInts_ok en
        subst this
        have := da.ints
        subst this
        exact .inl ⟨a, ns, rfl, ha, fun p np => post_newL hr hg hp np (DenL.of_ints _)⟩
      · split at hg
        · rename_i ps ep
          have := allPairs_ok ep
          subst this
          have hlen : xs.length = ps.length := by rw [da.length, List.length_map]
          refine .inr ⟨a, xs, ps, rfl, ha, hlen, fun i x p hx hp' => ?_, fun ys f p p1 p2 p3 np => ?_⟩
          · obtain ⟨d, hd', hdd⟩ := da.getV hx
            rw [List.getElem?_map, hp'] at hd'
            cases hd'
            cases hdd with
            | tup h1 h2 =>
              have h3 : DenL K F _ ([p.1, p.2].map D.int) := h2
              have := h3.ints
              subst this
              exact ⟨_, rfl, Le.seqT hr.sub h1⟩
          · have q1 : (ys.map f) = sortP ps := by
              refine sortP_eq ?_ p3
              rw [← p2]; exact p1.map f
            rw [← q1] at hg
            refine post_newL hr hg hp np ?_
            have key : ∀ x ∈ xs, Den K F x (pairD (f x)) := fun x hx => by
              obtain ⟨i, hi⟩ := List.mem_iff_getElem?.mp hx
              obtain ⟨d, hd', hdd⟩ := da.getV hi
              rw [← p2, List.getElem?_map, List.getElem?_map, hi] at hd'
              cases hd'
              exact hdd
            have all : ∀ zs : List V, (∀ z ∈ zs, z ∈ xs) → DenL K F zs ((zs.map f).map pairD) := fun zs => by
              induction zs with
              | nil => exact fun _ => .nil
              | cons z zs ih => exact fun hz => .cons (key z (hz z List.mem_cons_self)) (ih fun y hy => hz y (List.mem_cons_of_mem _ hy))
            exact all ys fun y hy => p1.mem_iff.mp hy
        · cases hg
    · cases hg
  · cases hg

/-! ### sorted(set(..)), len(set(..)) of ints -/
/-- without later ones -/
def dedI (ns : List Int) : List Int := ns.foldl (fun acc n => if acc.contains n then acc else acc ++ [n]) []
theorem dedI_go : ∀ (ns acc : List Int), acc.Nodup → (ns.foldl (fun acc n => if acc.contains n then acc else acc ++ [n]) acc).Nodup ∧ ∀ k, k ∈ ns.foldl (fun acc n => if acc.contains n then acc else acc ++ [n]) acc ↔ k ∈ acc ∨ k ∈ ns
  | [], acc, h => ⟨h, by simp⟩
  | n :: ns, acc, h => by
    rw [List.foldl_cons]
    by_cases hc : n ∈ acc
    · have : acc.contains n = true := by simpa using hc
      rw [if_pos this]
      obtain ⟨h1, h2⟩ := dedI_go ns acc h
      refine ⟨h1, fun k => ?_⟩
      rw [h2 k, List.mem_cons]
      constructor
      · rintro (z | z)
        · exact .inl z
        · exact .inr (.inr z)
      · rintro (z | z | z)
        · exact .inl z
        · subst z; exact .inl hc
        · exact .inr z
    · have : ¬ acc.contains n = true := by simpa using hc
      rw [if_neg this]
      obtain ⟨h1, h2⟩ := dedI_go ns (acc ++ [n]) (by
        rw [List.nodup_append]
        refine ⟨h, by simp, fun a ha b hb => ?_⟩
        have : b = n := by simpa using hb
        subst this
        exact fun z => hc (z ▸ ha))
      refine ⟨h1, fun k => ?_⟩
      rw [h2 k, List.mem_cons, List.mem_append, List.mem_singleton]
      constructor
      · rintro ((z | z) | z)
        · exact .inl z
        · exact .inr (.inl z)
        · exact .inr (.inr z)
      · rintro (z | z | z)
        · exact .inl (.inl z)
        · exact .inl (.inr z)
        · exact .inr z
theorem dedI_nodup (ns : List Int) : (dedI ns).Nodup := (dedI_go ns [] List.nodup_nil).1
theorem dedI_mem (ns : List Int) (k : Int) : k ∈ dedI ns ↔ k ∈ ns := by
  exact ((dedI_go ns [] List.nodup_nil).2 k).trans ⟨fun h => h.resolve_left (by simp), .inr⟩
theorem nodup_len : ∀ {l m : List Int}, l.Nodup → m.Nodup → (∀ k, k ∈ l ↔ k ∈ m) → l.length = m.length := fun {l m} h1 h2 h =>
  ((List.perm_ext_iff_of_nodup h1 h2).mpr h).length_eq
theorem set_seq {pins : List (Addr × Obj)} {σ : _root_.L2.St} {H : Hp} {s : Shared} {E' : Value → Shared → Prop} (hc : X.calm = true) (I : Inv X pins σ H s) {l : Addr} {ns : List Int} (hq : SqL X.K H l (ns.map V.int) ∨ SqT X.K H l (ns.map V.int)) (hb : ns.length ≤ 4000) {Q : Value → Shared → Prop}
    (h : ∀ (h' : Heap) (tk c : Nat), SetR X.w h' s.heap.objs.size (fun j => decide (j ∈ ns)) c → c = (dedI ns).length → (∀ b o, s.heap.get? b = some o → h'.get? b = some o) → Q (.ref s.heap.objs.size) { s with heap := h', toks := tk }) :
    wpAny (model X.prog X.w) X.A (call (.type "set") [.ref l]) Q E' s := by
  have cnt : ∀ {h' : Heap} {a : Addr} {c : Nat}, SetR X.w h' a (fun j => decide (j ∈ ns)) c → c = (dedI ns).length := fun {h' a c} R => by
    obtain ⟨o, es, ep, t, ho, hex, hd, g, nd, hm, hb, hf, hn, hr, hl⟩ := R
    have := nodup_len nd (dedI_nodup ns) fun k => by
      rw [← hm k, dedI_mem]; simp
    rw [List.length_map, Array.length_toList] at this
    omega
  have hsb : ns.length + 1 < scanBound := by unfold scanBound; omega
  rcases hq with hq | hq
  · obtain ⟨its, r, pl, hz⟩ := I.list hq
    exact new_set_list (items := its.toArray) ns (I.ok.hd hc) pl.isList (by simpa using r.ints) hsb fun h' tk c R _ k => h h' tk c R (cnt R) k
  · obtain ⟨its, r, pt, hz⟩ := I.tuple hq
    exact call_set_tupI (items := its.toArray) ns (I.ok.hd hc) (show s.heap.IsTuple l its.toArray from pt) (by simpa using r.ints) hsb fun h' tk c R _ k => h h' tk c R (cnt R) k
def tLenSet2 (K : PySem.W.Frag) (ta : TE) : TE := fun σ H Q => ta σ H fun x H1 => ∃ (l : Addr) (ns : List Int), x = .ref l ∧ (SqL K H1 l (ns.map V.int) ∨ SqT K H1 l (ns.map V.int)) ∧ ns.length ≤ 4000 ∧ Q (.int (dedI ns).length) H1
theorem pe_lenSet2 {a : Expr} {ta : TE} {p p2 q pos : Pos} (hc : X.calm = true) (hg : Gl X "len") (hm : X.mg "len" = none) (hg2 : Gl X "set") (hm2 : X.mg "set" = none) (ha : PE X a ta)
    (na : starEach [a] X.env = (false, eval a X.env) :: starEach [] X.env := by rfl) : PE X (.Call (.Name "len" p) [.Call (.Name "set" p2) [a] [] q] [] pos) (tLenSet2 X.K ta) := by
  refine ⟨fun pins s σ H Q I h => ?_⟩
  refine Call_ (ld_blt I hg hm PySem.boot_len ?_)
  refine PyProof.Rows.callWith_builtin1 (PyProof.Rows.args_cons ?_ rfl) rfl rfl
  refine Call_ (ld_blt I hg2 hm2 PyProof.Rows.boot_set ?_)
  refine PyProof.Rows.callWith_type1 (PyProof.Rows.args_cons (thn (ha.run pins s σ H _ I h) fun v s1 ⟨x, H1, I1, r1, q1⟩ => PyProof.Rows.args_nil ?_) na) na rfl
  obtain ⟨l, ns, rfl, hq, hl, q1⟩ := q1
  cases r1
  refine set_seq hc I1 hq hl fun h' tk c R ec hk => ?_
  refine PyProof.Rows.args_nil ?_
  obtain ⟨o, es, ep, t, ho, hex, hd, g, nd, hm3, hb, hf, hn, hr, hl3⟩ := R
  have I2 : Inv X pins σ H1 { s1 with heap := h', toks := tk } := I1.kept fun b o e => hk b o e
  have hlen : es.size = (dedI ns).length := by omega
  have hle : es.size < scanBound := hb
  unfold scanBound at hle
  refine call_len_set ho hex hd hf (by omega) ⟨.int (dedI ns).length, H1, I2.tok _, ⟨_, by rw [hlen]⟩, q1⟩
def tSortedSet2 (K : PySem.W.Frag) (ta : TE) : TE := fun σ H Q => ta σ H fun x H1 => ∃ (l : Addr) (ns : List Int), x = .ref l ∧ (SqL K H1 l (ns.map V.int) ∨ SqT K H1 l (ns.map V.int)) ∧ ns.length ≤ 4000 ∧ (dedI ns).length < 64 ∧ ∀ p, H1 p = none → Q (.ref p) (upd H1 p (.lst ((sortI (dedI ns)).map V.int)))
theorem pe_sortedSet2 {a : Expr} {ta : TE} {p p2 q pos : Pos} (hc : X.calm = true) (hg : Gl X "sorted") (hm : X.mg "sorted" = none) (hg2 : Gl X "set") (hm2 : X.mg "set" = none) (ha : PE X a ta)
    (na : starEach [a] X.env = (false, eval a X.env) :: starEach [] X.env := by rfl) : PE X (.Call (.Name "sorted" p) [.Call (.Name "set" p2) [a] [] q] [] pos) (tSortedSet2 X.K ta) := by
  refine ⟨fun pins s σ H Q I h => ?_⟩
  refine Call_ (ld_blt I hg hm PyProof.Rows.boot_sorted ?_)
  refine PyProof.Rows.callWith_builtin1 (PyProof.Rows.args_cons ?_ rfl) rfl rfl
  refine Call_ (ld_blt I hg2 hm2 PyProof.Rows.boot_set ?_)
  refine PyProof.Rows.callWith_type1 (PyProof.Rows.args_cons (thn (ha.run pins s σ H _ I h) fun v s1 ⟨x, H1, I1, r1, q1⟩ => PyProof.Rows.args_nil ?_) na) na rfl
  obtain ⟨l, ns, rfl, hq, hl, h64, q1⟩ := q1
  cases r1
  refine set_seq hc I1 hq hl fun h' tk c R ec hk => ?_
  refine PyProof.Rows.args_nil ?_
  refine sorted_set (s := { s1 with heap := h', toks := tk }) R (I1.ok.hd hc) (by omega) fun s' p0 out c' ns' kp g1 o1 hsz hp hI pw mem len => ?_
  have hmem : ∀ k, k ∈ ns' ↔ k ∈ dedI ns := fun k => by rw [mem k, dedI_mem]; simp
  have nd' : ns'.Nodup := pw.imp fun {x y} h => Int.ne_of_lt h
  have e : ns' = sortI (dedI ns) := sortI_eq ((List.perm_ext_iff_of_nodup nd' (dedI_nodup ns)).mpr hmem) (pw.imp fun h => Int.le_of_lt h)
  have kall : ∀ b u, s1.heap.get? b = some u → s'.heap.get? b = some u := fun b u e => kp b u (hk b u e)
  have lt0 : s1.heap.objs.size ≤ p0 := Nat.le_trans (Nat.le_of_lt R.lt) hsz
  have J : Inv X pins σ (upd H1 p0 (.lst (ns'.map V.int))) { s1 with heap := s'.heap, gens := s'.gens, drawn := s'.drawn, toks := s'.toks } :=
    I1.call (ch := []) (Un.laid kall lt0 (I1.hok.fresh lt0)) (I1.hok.laid kall lt0 ⟨by rw [List.length_map, len, ec, sizeLine_eq]; omega, out.toList, c', vals_of_ints hI, hp⟩) (by rw [show s'.gens = s1.gens from g1]; exact I1.bare) (fun _ z => nomatch z)
  have es : s' = { s1 with heap := s'.heap, gens := s'.gens, drawn := s'.drawn, toks := s'.toks } := by
    cases s'
    cases o1
    rfl
  rw [es]
  exact ⟨.ref p0, _, J, rfl, by rw [e]; exact q1 p0 (I1.hok.fresh lt0)⟩
def eLenSet (f : EF) : EF := fun ρ μ => bE (f ρ μ) fun s μ1 => match (viewS μ1 s).bind allInts with
  | some ns => if ns.length ≤ 4000 then some (.ok (.d (.int (dedI ns).length)) μ1) else none
  | none => none
def eSortedSet (mk : Bool) (f : EF) : EF := fun ρ μ => bE (f ρ μ) fun s μ1 => match (viewS μ1 s).bind allInts with
  | some ns => if ns.length ≤ 4000 ∧ (dedI ns).length < 64 then newL mk ((sortI (dedI ns)).map .int) μ1 else none
  | none => none
theorem viewIntsS {F H : Hp} {L : List Addr} {μ : List MO} {v : V} {s : S} {ns : List Int} (hr : Rep K W F L μ H) (h : DenS K F L v s) (e : (viewS μ s).bind allInts = some ns) : ∃ a, v = .ref a ∧ (SqL K H a (ns.map V.int) ∨ SqT K H a (ns.map V.int)) := by
  cases ev : viewS μ s with
  | none => rw [ev] at e; cases e
  | some ds =>
    rw [ev] at e
    obtain ⟨a, xs, rfl, ha, da⟩ := viewS_ok hr h ev
    have hd := allInts_ok (show allInts ds = some ns from e)
    subst hd
    rw [da.ints] at ha
    exact ⟨a, rfl, ha⟩
theorem q_lenSet {a : Expr} {f : EF} {p p2 q pos : Pos} (hc : X.calm = true) (hm : X.mg "len" = none) (hm2 : X.mg "set" = none) (ha : PE X a (tOf X.K W E f)) (hg : Gl X "len" := by rfl) (hg2 : Gl X "set" := by rfl)
    (na : starEach [a] X.env = (false, eval a X.env) :: starEach [] X.env := by rfl) : PE X (.Call (.Name "len" p) [.Call (.Name "set" p2) [a] [] q] [] pos) (tOf X.K W E (eLenSet f)) := by
  refine PE.weak (pe_lenSet2 hc hg hm hg2 hm2 ha na) fun σ H Q h => ?_
  obtain ⟨F, L, μ, ρ, res, hr, hs, hf, hp⟩ := h
  show tOf X.K W E f σ H _
  refine tOf_ok hr hs hf hp fun s v μ1 F1 H1 L1 hk e1 r1 d1 p1 => ?_
  split at hk
  · rename_i ns en
    by_cases hl : ns.length ≤ 4000
    · rw [if_pos hl] at hk; cases hk
      obtain ⟨a, rfl, ha⟩ := viewIntsS r1 d1 en
      exact ⟨a, ns, rfl, ha, hl, post_d r1 p1 (.int _)⟩
    · rw [if_neg hl] at hk; cases hk
  · cases hk
theorem q_sortedSet {mk : Bool} {a : Expr} {f : EF} {p p2 q pos : Pos} (hc : X.calm = true) (hm : X.mg "sorted" = none) (hm2 : X.mg "set" = none) (ha : PE X a (tOf X.K W E f)) (hg : Gl X "sorted" := by rfl) (hg2 : Gl X "set" := by rfl)
    (na : starEach [a] X.env = (false, eval a X.env) :: starEach [] X.env := by rfl) : PE X (.Call (.Name "sorted" p) [.Call (.Name "set" p2) [a] [] q] [] pos) (tOf X.K W E (eSortedSet mk f)) := by
  refine PE.weak (pe_sortedSet2 hc hg hm hg2 hm2 ha na) fun σ H Q h => ?_
  obtain ⟨F, L, μ, ρ, res, hr, hs, hf, hp⟩ := h
  show tOf X.K W E f σ H _
  refine tOf_ok hr hs hf hp fun s v μ1 F1 H1 L1 hk e1 r1 d1 p1 => ?_
  split at hk
  · rename_i ns en
    by_cases hl : ns.length ≤ 4000 ∧ (dedI ns).length < 64
    · rw [if_pos hl] at hk
      obtain ⟨a, rfl, ha⟩ := viewIntsS r1 d1 en
      exact ⟨a, ns, rfl, ha, hl.1, hl.2, fun p np => post_newL r1 hk p1 np (DenL.of_ints _)⟩
    · rw [if_neg hl] at hk; cases hk
  · cases hk
end
end DL
end

section
set_option Elab.async false
set_option linter.all false
set_option maxRecDepth 100000
set_option maxHeartbeats 4000000
namespace DL
open PySem PySem.Spec PyProof.Rows L2
/-! ### xs[::-1] -/
section
variable {P : Program} {w : World} {A : Around} {E : Value → Shared → Prop} {s : Shared}
theorem rev_pick {α : Type} (items : Array α) : ((List.range items.size).filterMap fun (k : Nat) => items[(((items.size : Int) - 1) + (k : Int) * (-1)).toNat]?) = items.toList.reverse := by
  have go : ∀ n, n ≤ items.size → ((List.range n).filterMap fun (k : Nat) => items[(((items.size : Int) - 1) + (k : Int) * (-1)).toNat]?) = items.toList.reverse.take n := fun n => by
    induction n with
    | zero => intro _; simp
    | succ n ih =>
      intro hn
      have h2 : (((items.size : Int) - 1) + (n : Int) * (-1)).toNat = items.size - 1 - n := by omega
      have h3 : items.size - 1 - n < items.size := by omega
      rw [List.range_succ, List.filterMap_append, ih (by omega), List.take_add_one, List.getElem?_reverse (by rw [Array.length_toList]; exact hn), Array.length_toList, Array.getElem?_toList, Array.getElem?_eq_getElem h3]
      simp only [List.filterMap_cons, List.filterMap_nil]
      rw [h2, Array.getElem?_eq_getElem h3]
      rfl
  rw [go items.size (Nat.le_refl _)]
  exact List.take_of_length_le (by simp)
theorem sliceApplied_rev {sl : Addr} {u : Tok} {n : Nat} {Q : Int × Int × Nat → Shared → Prop} (hs : s.heap.IsSliceOf sl .none .none (.int (-1) u))
    (h : Q ((n : Int) - 1, -1, n) s) : wpAny (model P w) A (Builtin.Slice.sliceApplied (.ref sl) (pure (n : Int))) Q E s := by
  obtain ⟨os, hos, hcs, hds⟩ := hs
  unfold Builtin.Slice.sliceApplied Builtin.Slice.sliceFields
  refine wpAny_bind (wpAny_bind (wpAny_field hos hds (x := .none) rfl (wpAny_bind (wpAny_field hos hds (x := .none) rfl (wpAny_bind (wpAny_field hos hds (x := .int (-1) u) rfl (wpAny_pure ?_)))))))
  refine wpAny_bind (slicePart_int ?_)
  rw [if_neg (by decide)]
  refine wpAny_bind (slicePart_none (wpAny_bind (slicePart_none (wpAny_bind (wpAny_pure ?_)))))
  have e : Builtin.Slice.slicePlaces ((n : Int) - 1) (-1) (-1) = n := by
    unfold Builtin.Slice.slicePlaces
    rw [if_neg (by decide)]
    by_cases hn : ((n : Int) - 1) > -1
    · rw [if_pos hn]
      have : ((n : Int) - 1 - -1 - 1) / (- -1) + 1 = n := by
        have : ((n : Int) - 1 - -1 - 1) = (n : Int) - 1 := by omega
        rw [this, show (- -1 : Int) = 1 by decide, Int.ediv_one]; omega
      rw [this]; simp
    · rw [if_neg hn]; simp; omega
  show wpAny _ _ (pure ((n : Int) - 1, (-1 : Int), Builtin.Slice.slicePlaces ((n : Int) - 1) (-1) (-1))) _ _ s
  rw [e]
  exact wpAny_pure h
theorem getItem_tuple_rev {t sl : Addr} {items : Array Value} {u : Tok} {Q : Value → Shared → Prop} (ht : IsTup s.heap t items) (hs : s.heap.IsSliceOf sl .none .none (.int (-1) u))
    (h : Q (.ref s.heap.objs.size) { s with heap := s.heap.push { cls := .type "tuple", data := .seq items.toList.reverse.toArray } })
    (hsz : items.size ≤ sizeLine) : wpAny (model P w) A (getItem (.ref t) (.ref sl)) Q E s := by
  have htake : sizeOk (.seq items.toList.reverse.toArray) := by
    show items.toList.reverse.toArray.size ≤ sizeLine
    rw [List.size_toArray, List.length_reverse, Array.length_toList]
    exact hsz
  obtain ⟨os, hos, hcs, hds⟩ := id hs
  have hTs : s.TypeIs (.ref sl) "slice" := ⟨os, hos, hcs⟩
  unfold getItem
  try with_reducible refine wpAny_holding ?_
  first | refine wpAny_bind (wpAny_pure ?_) | skip
  refine wpAny_bind (wpAny_sequenceKey ht.typeIs (by decide) ?_)
  refine wpAny_bind (wpAny_callSpecial?_slot (name := Str.ofString "__getitem__") ht.typeIs PyProof.Rows.slot_tuple_getitem
    (wpAny_call_entry PyProof.Rows.slot_tuple_getitem ht.typeIs entry_tuple_getitem ?_ (args_tuple_getitem _ _)))
  show wpAny _ _ (Builtin.Tuple.tupleItemsOf (.ref t) >>= _) _ _ s
  refine wpAny_bind (tupleItemsOf_ ht ?_)
  refine wpAny_bind (wpAny_typeOf hTs ?_)
  rw [if_pos (by decide)]
  refine wpAny_bind (sliceApplied_rev hs ?_)
  show wpAny _ _ (if (((items.size : Int) - 1) == 0 && (-1 : Int) == 1 && items.size == items.size) = true then _ else _) _ _ s
  rw [if_neg (by simp), rev_pick]
  first
    | exact wpAny_bind (m := Builtin.Tuple.tupleExact _) (wpAny_newObj_type (wpAny_pure ⟨_, rfl, wpAny_pure h⟩) htake)
    | exact wpAny_bind (m := Builtin.Tuple.tupleExact _) (wpAny_newObj_type (wpAny_bind (wpAny_pure (wpAny_pure ⟨_, rfl, wpAny_pure h⟩))) htake)
    | exact wpAny_bind (wpAny_bind (m := Builtin.Tuple.tupleExact _) (wpAny_newObj_type (wpAny_pure (wpAny_pure ⟨_, rfl, wpAny_pure h⟩)) htake))
    | exact wpAny_bind (wpAny_bind (m := Builtin.Tuple.tupleExact _) (wpAny_newObj_type (wpAny_pure ⟨_, rfl, wpAny_pure h⟩) htake))
end
/-- a text backwards -/
def revS (z : Str) : Str := ⟨z.cps.toList.reverse.toArray⟩
section
variable {X : Cx} {W : Wd} {E : XK}
def tRev (K : PySem.W.Frag) (te : TE) : TE := fun σ H Q => te σ H fun x H1 => (∃ a xs, x = .ref a ∧ ((SqL K H1 a xs ∧ ∀ p, H1 p = none → Q (.ref p) (upd H1 p (.lst xs.reverse))) ∨ (SqT K H1 a xs ∧ ∀ p, H1 p = none → Q (.ref p) (upd H1 p (.tup xs.reverse))))) ∨
  ∃ z, x = .str z ∧ z.length ≤ sizeLine ∧ Q (.str (revS z)) H1
theorem pe_rev {e : Expr} {te : TE} {k : Nat} {p1 p2 p3 pos : Pos} (he : PE X e te) : PE X (.Subscript e (.Slice none none (some (.UnaryOp .USub (.Constant (.int 1) k p1) p2)) p3) pos) (tRev X.K te) := by
  refine ⟨fun pins s σ H Q I h => ?_⟩
  refine Subscript_ (thn (he.run pins s σ H _ I h) fun v s1 ⟨x, H1, I1, r1, q1⟩ => ?_)
  have hst : PO X (some (.UnaryOp .USub (.Constant (.int 1) k p1) p2)) (tPart (tUn (rU fun i => .int (-i)) (tC (.int 1)))) := po_some (pe_un un_neg pe_int)
  refine wpAny_Slice (thn (po_none.run pins s1 σ H1 (fun o H2 => o = none ∧ H2 = H1) I1 ⟨rfl, rfl⟩) fun vl s2 ⟨l, H2, I2, pl, el, e2⟩ => ?_)
  subst el e2
  refine thn (po_none.run pins s2 σ H2 (fun o H3 => o = none ∧ H3 = H2) I2 ⟨rfl, rfl⟩) fun vu s3 ⟨u, H3, I3, pu, eu, e3⟩ => ?_
  subst eu e3
  refine thn (hst.run pins s3 σ H3 (fun o H4 => o = some (-1) ∧ H4 = H3) I3 ⟨1, rfl, -1, rfl, rfl, rfl⟩) fun vs s4 ⟨o, H4, I4, ps, eo, e4⟩ => ?_
  subst eo e4
  have I5 : Inv X pins σ H4 { s4 with heap := s4.heap.push { cls := .type "slice", data := .fields #[vl, vu, vs] } } := I4.kept (t' := s4.toks) fun b ob q => Heap.get?_push_of_some _ q
  have hsl := Heap.IsSliceOf.new s4.heap vl vu vs
  rcases q1 with ⟨a, xs, ex, hx⟩ | ⟨z, ex, hz, q⟩
  · subst ex
    cases r1
    rcases hx with ⟨hx, q⟩ | ⟨hx, q⟩
    · obtain ⟨its, r, ht, hz⟩ := I5.list hx
      have hlen := r.length
      refine tail_any (ops := [.ref a, .ref s4.heap.objs.size]) ht.isList.typeIs (PySem.slot_list_getitem.lookup) ?_ (by with_unfolding_all rfl)
      refine wpAny_getItem_list_slice ht.isList hsl pl pu ps (by decide) ?_ (by rw [List.size_toArray]; omega)
      rw [PySem.W.krv_pick]
      exact ⟨.ref _, _, I5.laid (t' := s4.toks) (o := .lst xs.reverse) (fun b ob q => Heap.get?_push_of_some _ q) (Nat.le_refl _) ⟨by rw [List.length_reverse]; exact hz, _, 0, r.reverse, Heap.get?_push_size _ rfl⟩, rfl, q _ (I5.hok.fresh (Nat.le_refl _))⟩
    · obtain ⟨its, r, ht, hz⟩ := I5.tuple hx
      have hlen := r.length
      refine tail_any (ops := [.ref a, .ref s4.heap.objs.size]) ht.typeIs (PyProof.Rows.slot_tuple_getitem.lookup) ?_ (by with_unfolding_all rfl)
      cases pl
      cases pu
      cases ps
      refine getItem_tuple_rev ht hsl ?_ (by rw [List.size_toArray]; omega)
      exact ⟨.ref _, _, I5.laid (t' := s4.toks) (o := .tup xs.reverse) (fun b ob q => Heap.get?_push_of_some _ q) (Nat.le_refl _) ⟨by rw [List.length_reverse]; exact hz, _, r.reverse, ⟨_, Heap.get?_push_size _ rfl, rfl, 0, rfl⟩⟩, rfl, q _ (I5.hok.fresh (Nat.le_refl _))⟩
  · subst ex
    obtain ⟨t, rfl⟩ := r1
    have hps : ∃ u, vs = .int (-1) u := by cases ps; exact ⟨_, rfl⟩
    obtain ⟨u, rfl⟩ := hps
    cases pl
    cases pu
    refine tail_any (ops := [.str z t, .ref s4.heap.objs.size]) (typeIs_str _ z t) (PySem.F.slot_str_getitem.lookup) ?_ (by with_unfolding_all rfl)
    refine wpAny_getItem_str_slice (l := none) (u := none) (st := some (-1, u)) ⟨_, Heap.get?_push_size _ rfl, rfl, rfl⟩ rfl ?_
    have hpick : slicePicked z none none (some (-1, u)) = (List.range z.cps.size).map fun (k : Nat) => (((z.cps.size : Int) - 1) + (k : Int) * (-1)).toNat := by
      show sliceRange ((z.cps.size : Int) - 1) (-1) (-1) = _
      unfold sliceRange
      rw [if_neg (by decide)]
      have hcount : (if ((z.cps.size : Int) - 1) > -1 then ((z.cps.size : Int) - 1 - -1 - -1 - 1) / (- -1) else 0) = (z.cps.size : Int) := by
        rw [show (- -1 : Int) = 1 by decide, Int.ediv_one]
        split <;> omega
      simp only [hcount, Int.toNat_natCast]
      apply List.map_congr_left
      intro k _
      congr 1
      omega
    have hmade : sliceMade z t none none (some (-1, u)) = .str (revS z) := by
      unfold sliceMade
      rw [if_neg (by simp), hpick]
      have : ((List.range z.cps.size).map fun (k : Nat) => (((z.cps.size : Int) - 1) + (k : Int) * (-1)).toNat).filterMap (z.cps[·]?) = z.cps.toList.reverse := by
        rw [List.filterMap_map]
        exact rev_pick z.cps
      rw [this]; rfl
    rw [hmade]
    refine ⟨?_, .str (revS z), H4, I5.tok _, ⟨_, rfl⟩, q⟩
    show (revS z).cps.size ≤ sizeLine
    unfold revS
    rw [List.size_toArray, List.length_reverse, Array.length_toList]
    exact hz
def eRev (mk : Bool) (f : EF) : EF := fun ρ μ => bE (f ρ μ) fun s μ1 => match s with
  | .d (.str z) => if z.length ≤ small24 then some (.ok (.d (.str (revS z))) μ1) else none
  | s => match viewT s with
    | some ds => some (.ok (.d (.tup ds.reverse)) μ1)
    | none => match viewL μ1 s with
      | some ds => newL mk ds.reverse μ1
      | none => none
theorem q_rev {mk : Bool} {e : Expr} {f : EF} {k : Nat} {p1 p2 p3 pos : Pos} (he : PE X e (tOf X.K W E f)) : PE X (.Subscript e (.Slice none none (some (.UnaryOp .USub (.Constant (.int 1) k p1) p2)) p3) pos) (tOf X.K W E (eRev mk f)) := by
  refine PE.weak (pe_rev he) fun σ H Q h => ?_
  obtain ⟨F, L, μ, ρ, res, hr, hs, hf, hp⟩ := h
  show tOf X.K W E f σ H _
  refine tOf_ok hr hs hf hp fun s v μ1 F1 H1 L1 hk e1 r1 d1 p1 => ?_
  split at hk
  · rename_i z
    by_cases hz : z.length ≤ small24
    · rw [if_pos hz] at hk; cases hk
      cases d1
      exact .inr ⟨z, rfl, small24_line hz, post_d r1 p1 (.str _)⟩
    · rw [if_neg hz] at hk; cases hk
  · split at hk
    · rename_i ds ev
      cases hk
      obtain ⟨a, xs, rfl, fa, ha, da⟩ := viewT_ok r1 d1 ev
      exact .inl ⟨a, xs, rfl, .inr ⟨ha, fun p np => post_newT r1 p1 np da.reverse⟩⟩
    · split at hk
      · rename_i ds ev
        obtain ⟨a, xs, rfl, ha, da⟩ := viewL_ok r1 d1 ev
        exact .inl ⟨a, xs, rfl, .inl ⟨ha, fun p np => post_newL r1 hk p1 np da.reverse⟩⟩
      · cases hk

/-! ### calls by keywords only -/
def eCallK0 (n : Nat) (g : GF) (perm : List S → List S → List S) (fk : AF) : EF := fun ρ μ => bAE (fk ρ μ) fun zs μ2 => if (perm [] zs).length = n then onlyD (g (perm [] zs) μ2) else none
theorem pe_callK0 {CX : CXT} {f : Addr} {fd : FuncData} {k : Nat} {x : Str} {ps ks : List Str} {sp : Sp} {kws : List Keyword} {tk : TA} {p pos : Pos} {g : List Value → List Value → List Value} {gV : List V → List V → List V} (F : FnOk X.prog X.w X.K X.mg X.base CX k f fd ps sp) (hr : Room k X.A) (hg : Gl X x) (hm : X.mg x = some (.ref f)) (hk : PySem.W.keepIn X.K (.ref f) = true) (hb : KBinds X.K fd ps ks g gV) (hx : Passes CX X E)
    (hkw : PK X kws tk) (hall : (backToKw pos (keywordEach kws X.env)).all (·.1.isSome) = true) (hks : (backToKw pos (keywordEach kws X.env)).filterMap (·.1) = ks)
    (hdb : (x == ("__debug__" : Str)) = false)
    (hpl : ((backTo pos (starEach [] X.env)).any (·.1) || (backToKw pos (keywordEach kws X.env)).any (·.1.isNone)) = false) :
    PE X (.Call (.Name x p) [] kws pos) (fun σ H Q => tk σ H fun zs H2 => sp (gV [] zs) H2 Q E) := by
  refine ⟨fun pins s σ H Q I h => ?_⟩
  refine wpAny_Call_Name_kw (ld_glob I hg hm ?_ hdb)
  refine PySem.W.callWith_KW0 (h₀ := X.base) I.ok.mod.kin hk hall ?_ hpl
  refine thn (hkw.run pos pins s σ H _ I h) fun ws s2 ⟨zs, H2, I2, rz, q2⟩ => ⟨I2.kIn, ?_⟩
  rw [hks]
  exact run_fnk F hr hb hx I2 .nil rz q2
theorem q_callK0 {k : Nat} {x : Str} {st : Stmt} {ps : List Str} {g : GF} {kws : List Keyword} {ks : List Str} {fk : AF} {p pos : Pos} {perm : {α : Type} → List α → List α → List α} (C : Cal X.prog X.w X.K X.mg X.base W k x st ps g) (hr : Room k X.A) (hx : Passes (L2.CX X.prog X.w) X E) (hkw : PK X kws (aOf X.K W E fk))
    (hb : ∀ (kV doc pm : Value) (an : Option Addr) (cdv ct : Value) (us ws : List Value), (perm us ws).length = ps.length → bindArgs (PySem.W.fnOf x x (defArgs st) (defBody st) (defScope st) .none kV doc pm an cdv ct) ⟨us, ks.zip ws⟩ = pure (ps.zip (perm us ws)))
    (hrel : ∀ {vs : List V} {us : List Value} {zs : List V} {ws : List Value}, Vals vs us → Vals zs ws → Vals (perm vs zs) (perm us ws))
    (hden : ∀ {F : Hp} {L : List Addr} {vs zs : List V} {ss us : List S}, DenSs X.K F L vs ss → DenSs X.K F L zs us → DenSs X.K F L (perm vs zs) (perm ss us))
    (hg : Gl X x := by rfl) (hall : (backToKw pos (keywordEach kws X.env)).all (·.1.isSome) = true := by rfl) (hks : (backToKw pos (keywordEach kws X.env)).filterMap (·.1) = ks := by rfl)
    (hdb : (x == ("__debug__" : Str)) = false := by decide)
    (hpl : ((backTo pos (starEach [] X.env)).any (·.1) || (backToKw pos (keywordEach kws X.env)).any (·.1.isNone)) = false := by rfl) :
    PE X (.Call (.Name x p) [] kws pos) (tOf X.K W E (eCallK0 ps.length g perm fk)) := by
  obtain ⟨f, fd, hm, hF, hok⟩ := C.ex
  have kb : KBinds X.K fd ps ks perm perm := by
    obtain ⟨oc, od, kV, doc, pm, an, cdv, ct, osl, rfl, lk, hcd⟩ := hF.ex
    exact ⟨fun s us ws _ hl => .of_eq (hb kV doc pm an cdv ct us ws hl), hrel⟩
  refine PE.weak (pe_callK0 hok hr hg hm hF.kp kb hx hkw hall hks hdb hpl) fun σ H Q h => ?_
  obtain ⟨F, L, μ, ρ, res, hr, hs, hf, hp⟩ := h
  refine aOf_ok hr hs hf hp fun us zs μ2 F2 H2 L2' hk2 e2 r2 d2 p2 => ?_
  show spG X.K W ps.length g (perm [] zs) H2 Q E
  by_cases hl : (perm [] us).length = ps.length
  · rw [if_pos hl] at hk2
    exact spG_of r2 (hden .nil d2) hl hk2 p2
  · rw [if_neg hl] at hk2; cases hk2

/-! ### a block of two clauses -/
def lc2F (h : TF) (c : BF) (fi1 : IF) (h1 : TF) (c1 : BF) (e : EF) (ρ : List S) (vs1 : List Nat) : List D → List D → List MO → Option (List D × List MO)
  | [], acc, μ => some (acc, μ)
  | d :: ds, acc, μ => match h d ρ with
    | none => none
    | some ρ1 => match c ρ1 μ with
      | some (.ok true μ1) => (match fi1 ρ1 μ1 with
        | some (.ok items μ2) => (match lcF h1 c1 e (wipeS ρ1 vs1) items acc μ2 with
          | some (acc2, μ3) => lc2F h c fi1 h1 c1 e ρ vs1 ds acc2 μ3
          | none => none)
        | _ => none)
      | some (.ok false μ1) => lc2F h c fi1 h1 c1 e ρ vs1 ds acc μ1
      | _ => none
def eLc2 (mk : Bool) (vs vs1 : List Nat) (fi : IF) (h : TF) (c : BF) (fi1 : IF) (h1 : TF) (c1 : BF) (e : EF) : EF := fun ρ μ => match fi ρ μ with
  | some (.ok items μ1) => (match lc2F h c fi1 h1 c1 e (wipeS ρ vs) vs1 items [] μ1 with
    | some (acc, μ2) => if acc.length ≤ cap then newL mk acc μ2 else none
    | none => none)
  | some (.ex x μ1) => some (.ex x μ1)
  | none => none
theorem lcF_len {h : TF} {c : BF} {e : EF} {ρ : List S} : ∀ {items acc acc' : List D} {μ μ' : List MO}, lcF h c e ρ items acc μ = some (acc', μ') → acc.length ≤ acc'.length
  | [], acc, acc', μ, μ', hf => by cases hf; exact Nat.le_refl _
  | d :: ds, acc, acc', μ, μ', hf => by
    unfold lcF at hf
    split at hf
    · cases hf
    · split at hf
      · split at hf
        · have := lcF_len hf
          rw [List.length_append] at this
          omega
        · cases hf
      · exact lcF_len hf
      · cases hf
theorem lc2F_len {h : TF} {c : BF} {fi1 : IF} {h1 : TF} {c1 : BF} {e : EF} {ρ : List S} {vs1 : List Nat} : ∀ {items acc acc' : List D} {μ μ' : List MO}, lc2F h c fi1 h1 c1 e ρ vs1 items acc μ = some (acc', μ') → acc.length ≤ acc'.length
  | [], acc, acc', μ, μ', hf => by cases hf; exact Nat.le_refl _
  | d :: ds, acc, acc', μ, μ', hf => by
    unfold lc2F at hf
    split at hf
    · cases hf
    · split at hf
      · split at hf
        · split at hf
          · rename_i e1
            exact Nat.le_trans (lcF_len e1) (lc2F_len hf)
          · cases hf
        · cases hf
      · exact lc2F_len hf
      · cases hf
variable {K : PySem.W.Frag}
/-- an item's step -/
theorem walk_step {J : It} {items : List D} {F0 F' H' : Hp} {L' : List Addr} {μ' : List MO} (hw : WalkD K F0 J items) (ef : Le F0 F') (r1 : Rep K W F' L' μ' H') {i : Nat} (hlt : i < items.length) {x : V} {H2 : Hp} (y : J.yld i H' x H2) :
    ∃ F2, Ext F' H' L' F2 H2 L' ∧ Rep K W F2 L' μ' H2 ∧ Den K F2 x items[i] := by
  have hw1 := hw H' (fun a o q => r1.sub a o (ef a o q))
  have it := hw1.2.2 i x H2 items[i] (List.getElem?_eq_getElem hlt) y
  have it' : ItemAt K F' H' x H2 items[i] := by
    rcases it with ⟨a1, a2⟩ | ⟨T, ys, ds, a1, a2, a3, a4, a5⟩
    · exact .inl ⟨a1, a2.mono ef⟩
    · exact .inr ⟨T, ys, ds, a1, a2, a3, a4, a5.mono ef⟩
  exact it'.step r1
/-- the block's list stands through a step -/
theorem keepD {F' H' Fa Ha : Hp} {L' La : List Addr} {D0 : Addr} {xs : List V} (hD1 : H' D0 = some (.lst xs)) (hF1 : F' D0 = none) (hL1 : D0 ∉ L') (ea : Ext F' H' L' Fa Ha La) : Ha D0 = some (.lst xs) ∧ Fa D0 = none ∧ D0 ∉ La := by
  have hDn : Al H' D0 := ⟨_, hD1, lst_nt⟩
  refine ⟨ea.hh D0 _ hD1 hL1 lst_nt, ea.fr D0 hDn hF1, ?_⟩
  obtain ⟨N, en, nn⟩ := ea.lp
  rw [en]
  intro z
  rcases List.mem_append.mp z with z | z
  · exact hL1 z
  · exact nn D0 z hDn
theorem lcIn_core {J : It} {items : List D} {vs is : List Nat} {h : TF} {c : BF} {e : EF} {F0 H0 F H : Hp} {L0 L : List Addr} {μ μ2 : List MO} {ρ : List S} {σ : Sl} {acc acc0 : List D} {xs : List V} {D0 : Addr} {Nx : Hp → Prop} (hw : WalkD K F J items) (e0 : Ext F0 H0 L0 F H L) (hr : Rep K W F L μ H) (hs : SlotsOk K F L ρ σ) (hi : ∀ i ∈ is, i ∈ vs) (nD : ¬ Al H0 D0)
    (hD : H D0 = some (.lst xs)) (hFD : F D0 = none) (hLD : D0 ∉ L) (da : DenL K F xs acc) (hcap : acc0.length ≤ cap) (hf : lcF h c e (wipeS ρ vs) items acc μ = some (acc0, μ2))
    (hq : ∀ F' H' L' xs, Ext F0 H0 L0 F' H' L' → Le F F' → (∀ ρ' σ', SlotsOk K F L ρ' σ' → SlotsOk K F' L' ρ' σ') → Rep K W F' L' μ2 H' → H' D0 = some (.lst xs) → F' D0 = none → D0 ∉ L' → DenL K F' xs acc0 → Nx H') :
    ∃ W1 : Nat → Nat → Hp → Prop, (∃ m, W1 0 m H) ∧ ∀ j k H, W1 j k H →
      (J.stop j H ∧ Nx H) ∨ (J.go j H ∧ ∃ Nx1 : Hp → Prop, (∀ H', Nx1 H' → ∃ k', k' < k ∧ W1 (j + 1) k' H') ∧ ∀ x H', J.yld j H x H' → gI K W is h x (wipe σ vs) H' fun σ3 H5 => wipe σ3 vs = wipe σ vs ∧ bOf K W E0 c σ3 H5 fun b H6 =>
        if b = true then tOf K W E0 e σ3 H6 fun y H7 => ∃ acc, H7 D0 = some (.lst acc) ∧ acc.length < sizeLine ∧ Nx1 (upd H7 D0 (.lst (acc ++ [y]))) else Nx1 H6) := by
  have hs0 := hs
  refine ⟨fun i m H' => m = items.length - i ∧ i ≤ items.length ∧ ∃ F' L' μ' acc xs, Ext F0 H0 L0 F' H' L' ∧ Le F F' ∧ (∀ ρ' σ', SlotsOk K F L ρ' σ' → SlotsOk K F' L' ρ' σ') ∧ Rep K W F' L' μ' H' ∧ H' D0 = some (.lst xs) ∧ F' D0 = none ∧ D0 ∉ L' ∧ DenL K F' xs acc ∧ lcF h c e (wipeS ρ vs) (items.drop i) acc μ' = some (acc0, μ2),
    ⟨items.length, by simp, Nat.zero_le _, F, L, μ, acc, xs, e0, fun _ _ h => h, fun _ _ h => h, hr, hD, hFD, hLD, da, by simpa using hf⟩, ?_⟩
  rintro i m H' ⟨rfl, hi', F', L', μ', acc, xs, e1, ef, sl, r1, hD1, hF1, hL1, da, hf1⟩
  have hw1 := hw H' (fun a o q => r1.sub a o (ef a o q))
  by_cases hlt : i < items.length
  · refine .inr ⟨hw1.1 i hlt, fun H2 => ∃ F2 L2 μ2' acc2 xs2, Ext F0 H0 L0 F2 H2 L2 ∧ Le F F2 ∧ (∀ ρ' σ', SlotsOk K F L ρ' σ' → SlotsOk K F2 L2 ρ' σ') ∧ Rep K W F2 L2 μ2' H2 ∧ H2 D0 = some (.lst xs2) ∧ F2 D0 = none ∧ D0 ∉ L2 ∧ DenL K F2 xs2 acc2 ∧ lcF h c e (wipeS ρ vs) (items.drop (i + 1)) acc2 μ2' = some (acc0, μ2), fun H2 q => ⟨items.length - (i + 1), by omega, rfl, hlt, q⟩, fun x H2 y => ?_⟩
    obtain ⟨F2, e2, r2, d2⟩ := walk_step hw ef r1 hlt y
    rw [List.drop_eq_getElem_cons hlt] at hf1
    unfold lcF at hf1
    cases eh : h items[i] (wipeS ρ vs) with
    | none => rw [eh] at hf1; cases hf1
    | some ρ1 =>
      rw [eh] at hf1
      simp only at hf1
      refine ⟨F2, L', μ', wipeS ρ vs, items[i], ρ1, r2, ((sl _ _ hs).wipe vs).mono e2, d2, eh, fun σ3 s3 k3 => ⟨?_, ?_⟩⟩
      · exact (wipe_same hi k3.1 k3.2).trans wipe_wipe
      cases ec : c ρ1 μ' with
      | none => rw [ec] at hf1; cases hf1
      | some rc =>
        rw [ec] at hf1
        refine ⟨F2, L', μ', ρ1, rc, r2, s3, ec, ?_⟩
        cases rc with
        | ex x μ1 => cases hf1
        | ok b μ1 =>
          intro F3 H3 L3 e3 r3
          have e23 := e2.trans e3
          cases b with
          | false =>
            refine iteF ?_
            obtain ⟨k1, k2, k3⟩ := keepD hD1 hF1 hL1 e23
            exact ⟨F3, L3, μ1, acc, xs, e1.trans e23, fun a o q => e23.ff a o (ef a o q), fun ρ' σ' q => (sl ρ' σ' q).mono e23, r3, k1, k2, k3, da.mono e23.ff, hf1⟩
          | true =>
            refine iteT ?_
            simp only at hf1
            cases ee : e ρ1 μ1 with
            | none => rw [ee] at hf1; cases hf1
            | some re =>
              rw [ee] at hf1
              refine ⟨F3, L3, μ1, ρ1, re, r3, s3.mono e3, ee, ?_⟩
              cases re with
              | ex x μ2 => cases hf1
              | ok s μ2' =>
                cases s with
                | un => cases hf1
                | m j => cases hf1
                | d yd =>
                  intro v F4 H4 L4 e4 r4 d4 n4
                  have e24 := e23.trans e4
                  obtain ⟨k1, k2, k3⟩ := keepD hD1 hF1 hL1 e24
                  have hl := da.length
                  have hg := lcF_len hf1
                  rw [List.length_append, List.length_singleton] at hg
                  refine ⟨xs, k1, cap_line (by omega), F4, L4, μ2', acc ++ [yd], xs ++ [v], (e1.trans e24).updD nD, fun a o q => e24.ff a o (ef a o q), fun ρ' σ' q => (sl ρ' σ' q).mono e24, r4.updD k1 k2 k3 lst_nt lst_nc, upd_same, k2, k3, DenL.append (da.mono e24.ff) (.cons d4 .nil), hf1⟩
  · have e' : i = items.length := by omega
    subst e'
    rw [List.drop_length] at hf1
    cases hf1
    exact .inl ⟨hw1.2.1, hq F' H' L' xs e1 ef sl r1 hD1 hF1 hL1 da⟩
theorem tLc2_of {mk : Bool} {vs vs1 is is1 : List Nat} {fi fi1 : IF} {h h1 : TF} {c c1 : BF} {e : EF} (hi : ∀ i ∈ is, i ∈ vs) (hi1 : ∀ i ∈ is1, i ∈ vs1) {σ : Sl} {H : Hp} {Q : VK} (q : tOf K W E (eLc2 mk vs vs1 fi h c fi1 h1 c1 e) σ H Q) :
    tLc2 (iOf K W E fi) (gI K W is h) (bOf K W E0 c) (iOf K W E0 fi1) (gI K W is1 h1) (bOf K W E0 c1) (tOf K W E0 e) vs vs1 σ H Q := by
  obtain ⟨F, L, μ, ρ, res, hr, hs, hf, hp⟩ := q
  unfold eLc2 at hf
  show iOf K W E fi σ H _
  cases ea : fi ρ μ with
  | none => rw [ea] at hf; cases hf
  | some ra =>
    rw [ea] at hf
    refine ⟨F, L, μ, ρ, ra, hr, hs, ea, ?_⟩
    cases ra with
    | ex x μ1 => cases hf; exact hp
    | ok items μ1 =>
      simp only at hf
      intro J Fb Hb Lb eb rb w1 D0 hD
      have sb := hs.mono eb
      cases el : lc2F h c fi1 h1 c1 e (wipeS ρ vs) vs1 items [] μ1 with
      | none => rw [el] at hf; cases hf
      | some am =>
        obtain ⟨acc0, μ2⟩ := am
        rw [el] at hf
        simp only at hf
        by_cases hcap : acc0.length ≤ cap
        · rw [if_pos hcap] at hf
          have nD : ¬ Al H D0 := fun z => Al.no hD (eb.dom D0 z)
          refine ⟨fun i m H' => m = items.length - i ∧ i ≤ items.length ∧ ∃ F' L' μ' acc xs, Ext F H L F' H' L' ∧ Le Fb F' ∧ SlotsOk K F' L' ρ σ ∧ Rep K W F' L' μ' H' ∧ H' D0 = some (.lst xs) ∧ F' D0 = none ∧ D0 ∉ L' ∧ DenL K F' xs acc ∧ lc2F h c fi1 h1 c1 e (wipeS ρ vs) vs1 (items.drop i) acc μ' = some (acc0, μ2),
            ⟨items.length, by simp, Nat.zero_le _, Fb, Lb, μ1, [], [], eb.updD nD, fun _ _ h => h, sb, ?_, upd_same, rb.free hD, rb.notL hD, .nil, by simpa using el⟩, ?_⟩
          · exact { sub := fun a v q => by rw [upd_ne (ne_of_none (rb.sub a v q) hD)]; exact rb.sub a v q
                    ft := rb.ft
                    tabs := rb.tabs.ext (le_upd hD)
                    nd := rb.nd
                    len := rb.len
                    nf := rb.nf
                    obj := fun i a u e1 e2 => (rb.obj i a u e1 e2).mono (fun _ _ h => h) fun z hz => by rw [upd_ne (ne_of_none hz hD)]; exact hz }
          rintro i m H' ⟨rfl, hi', F', L', μ', acc, xs, e1, ef, sl, r1, hD1, hF1, hL1, da, hf1⟩
          have hw1 := w1 H' (fun a o q => r1.sub a o (ef a o q))
          by_cases hlt : i < items.length
          · refine .inr ⟨hw1.1 i hlt, fun H2 => ∃ F2 L2 μ2' acc2 xs2, Ext F H L F2 H2 L2 ∧ Le Fb F2 ∧ SlotsOk K F2 L2 ρ σ ∧ Rep K W F2 L2 μ2' H2 ∧ H2 D0 = some (.lst xs2) ∧ F2 D0 = none ∧ D0 ∉ L2 ∧ DenL K F2 xs2 acc2 ∧ lc2F h c fi1 h1 c1 e (wipeS ρ vs) vs1 (items.drop (i + 1)) acc2 μ2' = some (acc0, μ2), fun H2 q => ⟨items.length - (i + 1), by omega, rfl, hlt, q⟩, fun x H2 y => ?_⟩
            obtain ⟨F2, e2, r2, d2⟩ := walk_step w1 ef r1 hlt y
            rw [List.drop_eq_getElem_cons hlt] at hf1
            unfold lc2F at hf1
            cases eh : h items[i] (wipeS ρ vs) with
            | none => rw [eh] at hf1; cases hf1
            | some ρ1 =>
              rw [eh] at hf1
              simp only at hf1
              refine ⟨F2, L', μ', wipeS ρ vs, items[i], ρ1, r2, (sl.wipe vs).mono e2, d2, eh, fun σ3 s3 k3 => ⟨?_, ?_⟩⟩
              · exact (wipe_same hi k3.1 k3.2).trans wipe_wipe
              cases ec : c ρ1 μ' with
              | none => rw [ec] at hf1; cases hf1
              | some rc =>
                rw [ec] at hf1
                refine ⟨F2, L', μ', ρ1, rc, r2, s3, ec, ?_⟩
                cases rc with
                | ex x μ1 => cases hf1
                | ok b μ1 =>
                  intro F3 H3 L3 e3 r3
                  have e23 := e2.trans e3
                  cases b with
                  | false =>
                    refine iteF ?_
                    obtain ⟨k1, k2, k3⟩ := keepD hD1 hF1 hL1 e23
                    exact ⟨F3, L3, μ1, acc, xs, e1.trans e23, fun a o q => e23.ff a o (ef a o q), sl.mono e23, r3, k1, k2, k3, da.mono e23.ff, hf1⟩
                  | true =>
                    refine iteT ?_
                    simp only at hf1
                    cases ei : fi1 ρ1 μ1 with
                    | none => rw [ei] at hf1; cases hf1
                    | some ri =>
                      rw [ei] at hf1
                      refine ⟨F3, L3, μ1, ρ1, ri, r3, s3.mono e3, ei, ?_⟩
                      cases ri with
                      | ex x μ3 => cases hf1
                      | ok items1 μ3 =>
                        simp only at hf1
                        intro J1 F4 H4 L4 e4 r4 w4
                        have e24 := e23.trans e4
                        obtain ⟨k1, k2, k3⟩ := keepD hD1 hF1 hL1 e24
                        cases e5 : lcF h1 c1 e (wipeS ρ1 vs1) items1 acc μ3 with
                        | none => rw [e5] at hf1; cases hf1
                        | some am2 =>
                          obtain ⟨acc2, μ4⟩ := am2
                          rw [e5] at hf1
                          have hg := lc2F_len hf1
                          refine lcIn_core w4 (e1.trans e24) r4 ((s3.mono e3).mono e4) hi1 nD k1 k2 k3 (da.mono e24.ff) (by omega) e5 fun F5 H5 L5 xs5 e5' lf sf r5 hD5 hF5 hL5 d5 => ?_
                          exact ⟨F5, L5, μ4, acc2, xs5, e5', fun a o q => lf a o (e24.ff a o (ef a o q)), sf _ _ (sl.mono e24), r5, hD5, hF5, hL5, d5, hf1⟩
          · have e' : i = items.length := by omega
            subst e'
            rw [List.drop_length] at hf1
            cases hf1
            refine .inl ⟨hw1.2.1, ?_⟩
            exact post_newD e1 r1 hf hp nD hD1 hF1 hL1 da
        · rw [if_neg hcap] at hf; cases hf
theorem q_lc2 {mk : Bool} {elt tg iter tg1 iter1 : Expr} {ifs ifs1 : List Expr} {scope : Scope} {own : List (Str × Nat)} {vs1 : List Nat} {pos : Pos} {fi fi1 : IF} {is is1 : List Nat} {h h1 : TF} {c c1 : BF} {e : EF} (hc : X.calm = true) (hN : X.N.Nodup) (ok : BlkOk X.N X.env.scope scope own) (hi : PI X tg iter (iOf X.K W E fi))
    (hg : ∀ (s : Shared) (H : Hp) (C : Addr) (cl : List (Str × Addr)) (fp : List Addr), PG (X.blk s H scope (compEnvC scope cl C X.env) fp) tg (gI X.K W is h)) (ht : ∀ (s : Shared) (H : Hp) (C : Addr) (cl : List (Str × Addr)) (fp : List Addr), PTs (X.blk s H scope (compEnvC scope cl C X.env) fp) ifs (bOf X.K W E0 c))
    (hi1 : ∀ (s : Shared) (H : Hp) (C : Addr) (cl : List (Str × Addr)) (fp : List Addr), PI (X.blk s H scope (compEnvC scope cl C X.env) fp) tg1 iter1 (iOf X.K W E0 fi1))
    (hg1 : ∀ (s : Shared) (H : Hp) (C : Addr) (cl : List (Str × Addr)) (fp : List Addr), PG (X.blk s H scope (compEnvC scope cl C X.env) fp) tg1 (gI X.K W is1 h1)) (ht1 : ∀ (s : Shared) (H : Hp) (C : Addr) (cl : List (Str × Addr)) (fp : List Addr), PTs (X.blk s H scope (compEnvC scope cl C X.env) fp) ifs1 (bOf X.K W E0 c1))
    (he : ∀ (s : Shared) (H : Hp) (C : Addr) (cl : List (Str × Addr)) (fp : List Addr), PE (X.blk s H scope (compEnvC scope cl C X.env) fp) elt (tOf X.K W E0 e)) (his : ∀ i ∈ is, i ∈ own.map (·.2) := by decide) (his1 : ∀ i ∈ is1, i ∈ vs1 := by decide) (hv : ∀ i ∈ vs1, i ∈ own.map (·.2) := by decide) (hs : ∀ x, foldedSetIterable iter X.env x = pure x := by intro _; rfl) (hs1 : ∀ env x, foldedSetIterable iter1 env x = pure x := by intro _ _; rfl) :
    PE X (.ListComp elt [⟨tg, iter, ifs, 0⟩, ⟨tg1, iter1, ifs1, 0⟩] scope pos) (tOf X.K W E (eLc2 mk (own.map (·.2)) vs1 fi h c fi1 h1 c1 e)) :=
  PE.weak (pe_lc2 hc hN hi ok hv hg ht hi1 hg1 ht1 he hs hs1) fun _ _ _ q => tLc2_of his his1 q
theorem qs_setLc2 {mk : Bool} {i : Nat} {y : Str} {py : Pos} {elt tg iter tg1 iter1 : Expr} {ifs ifs1 : List Expr} {scope : Scope} {own : List (Str × Nat)} {vs1 : List Nat} {pos spos : Pos} {fi fi1 : IF} {is is1 : List Nat} {h h1 : TF} {c c1 : BF} {e : EF} (hc : X.calm = true) (hN : X.N.Nodup) (ok : BlkOk X.N X.env.scope scope own) (hi : PI X tg iter (iOf X.K W E fi))
    (hg : ∀ (s : Shared) (H : Hp) (C : Addr) (cl : List (Str × Addr)) (fp : List Addr), PG (X.blk s H scope (compEnvC scope cl C X.env) fp) tg (gI X.K W is h)) (ht : ∀ (s : Shared) (H : Hp) (C : Addr) (cl : List (Str × Addr)) (fp : List Addr), PTs (X.blk s H scope (compEnvC scope cl C X.env) fp) ifs (bOf X.K W E0 c))
    (hi1 : ∀ (s : Shared) (H : Hp) (C : Addr) (cl : List (Str × Addr)) (fp : List Addr), PI (X.blk s H scope (compEnvC scope cl C X.env) fp) tg1 iter1 (iOf X.K W E0 fi1))
    (hg1 : ∀ (s : Shared) (H : Hp) (C : Addr) (cl : List (Str × Addr)) (fp : List Addr), PG (X.blk s H scope (compEnvC scope cl C X.env) fp) tg1 (gI X.K W is1 h1)) (ht1 : ∀ (s : Shared) (H : Hp) (C : Addr) (cl : List (Str × Addr)) (fp : List Addr), PTs (X.blk s H scope (compEnvC scope cl C X.env) fp) ifs1 (bOf X.K W E0 c1))
    (he : ∀ (s : Shared) (H : Hp) (C : Addr) (cl : List (Str × Addr)) (fp : List Addr), PE (X.blk s H scope (compEnvC scope cl C X.env) fp) elt (tOf X.K W E0 e)) (hy : X.N[i]? = some y := by rfl) (hyl : X.env.scope.names.lookup y = some .local := by rfl)
    (hsw : swapsWith (.ListComp elt [⟨tg, iter, ifs, 0⟩, ⟨tg1, iter1, ifs1, 0⟩] scope pos) (some (.Name y py)) spos.line X.env = pure true := by exact sw_true rfl rfl rfl (by decide +kernel)) (his : ∀ i ∈ is, i ∈ own.map (·.2) := by decide) (his1 : ∀ i ∈ is1, i ∈ vs1 := by decide) (hv : ∀ i ∈ vs1, i ∈ own.map (·.2) := by decide) (hs : ∀ x, foldedSetIterable iter X.env x = pure x := by intro _; rfl) (hs1 : ∀ env x, foldedSetIterable iter1 env x = pure x := by intro _ _; rfl) :
    PS X (.Assign [.Name y py] (.ListComp elt [⟨tg, iter, ifs, 0⟩, ⟨tg1, iter1, ifs1, 0⟩] scope pos) spos) (sOf X.K W E (sSet i (eLc2 mk (own.map (·.2)) vs1 fi h c fi1 h1 c1 e))) := by
  refine PS.weak (ps_setLc2 hc hN hy hyl hsw hi ok hv hg ht hi1 hg1 ht1 he hs hs1) fun D σ H q => ?_
  obtain ⟨F, L, μ, ρ, r, hr, hs, hf, hp⟩ := q
  show tLc2 _ _ _ _ _ _ _ _ _ σ H _
  refine tLc2_of (mk := mk) (is := is) (is1 := is1) his his1 ?_
  have hf : bS (eLc2 mk (own.map (·.2)) vs1 fi h c fi1 h1 c1 e ρ μ) (fun s μ1 => some (.nx (ρ.set i s) μ1)) = some r := hf
  refine tS_ok hr hs hf hp fun s v μ1 F1 H1 L1 hk e1 r1 d1 n1 p1 => ?_
  cases hk
  exact p1 _ F1 H1 L1 .refl r1 ((hs.mono e1).set d1 i)
end
end DL
end

section
set_option Elab.async false
set_option linter.all false
set_option maxRecDepth 100000
set_option maxHeartbeats 4000000
/-! DLzip: zip of a list and a tuple. -/
namespace DL
open PySem PySem.Spec PyProof.Rows L2
open PySem.Sem (wp)
section
variable {P : Program} {w : World} {A : Around} {E : Value → Shared → Prop} {s : Shared}
/-- an iterator it over the items of l: I k h says where it stands -/
structure Src (P : Program) (w : World) (A : Around) (it l : Addr) (items : Array Value) (I : Nat → Heap → Prop) : Prop where
  far : ∀ {k h h' c}, I k h → Heap.ExtBut c h h' → it ≠ c → l ≠ c → I k h'
  item : ∀ {k : Nat} {s : Shared} {x : Value} {Q : Value → Shared → Prop} {E : Value → Shared → Prop}, I k s.heap → items[k]? = some x → (∀ h', I (k + 1) h' → Heap.SameBut it s.heap h' → Q x { s with heap := h' }) → wpAny (model P w) A (Builtin.SmallTypes.nextOf (.ref it)) Q E s
  stop : ∀ {k : Nat} {s : Shared} {Q : Value → Shared → Prop} {E : Value → Shared → Prop}, I k s.heap → items[k]? = none → (∀ h' e, Heap.ExtBut it s.heap h' → (∃ o, h'.get? e = some o ∧ o.cls = .type "StopIteration") → E (.ref e) { s with heap := h' }) → wpAny (model P w) A (Builtin.SmallTypes.nextOf (.ref it)) Q E s
theorem src_list (hh : A.handled = none) {it l : Addr} {items : Array Value} (hne : l ≠ it) : Src P w A it l items (fun k h => h.IsListIter it l k ∧ h.IsList l items) where
  far := fun st e h1 h2 => ⟨st.1.extBut e h1, st.2.extBut e h2⟩
  item := fun {k s x Q E} st hx hq => wpAny_nextOf_list_item st.1 st.2 hx fun h' h1 h2 => hq h' ⟨h1, st.2.extBut h2.extBut hne⟩ h2
  stop := fun {k s Q E} st hx hq => wpAny_nextOf_list_end hh st.1 st.2 hx hq
theorem src_tup (hh : A.handled = none) {it l : Addr} {items : Array Value} (hne : l ≠ it) : Src P w A it l items (fun k h => h.IsTupleIter it l k ∧ h.IsTuple l items) where
  far := fun st e h1 h2 => ⟨st.1.extBut e h1, st.2.extBut e h2⟩
  item := fun {k s x Q E} st hx hq => RZ.nextOf_tuple_item st.1 st.2 hx fun h' h1 h2 => hq h' ⟨h1, st.2.extBut h2.extBut hne⟩ h2
  stop := fun {k s Q E} st hx hq => RZ.nextOf_tuple_end hh st.1 st.2 hx hq
/-- what stays -/
def Stays (h h' : Heap) (z TO i1 i2 : Addr) : Prop := ∀ c o, c ≠ z → c ≠ TO → c ≠ i1 → c ≠ i2 → h.get? c = some o → h'.get? c = some o
theorem zipS_item {z TI TO i1 i2 l1 l2 : Addr} {k1 k2 : Nat} {xs ys : Array Value} {I1 I2 : Nat → Heap → Prop} {x y a b : Value} {Q : Option Value → Shared → Prop} (S1 : Src P w A.in1 i1 l1 xs I1) (S2 : Src P w A.in1 i2 l2 ys I2) (D : ZipApart z TI TO i1 i2 l1 l2)
    (hz : IsZip s.heap z TI TO .none) (hTI : IsPair s.heap TI (.ref i1) (.ref i2)) (hTO : IsPair s.heap TO a b) (h1 : I1 k1 s.heap) (h2 : I2 k2 s.heap) (hx : xs[k1]? = some x) (hy : ys[k2]? = some y)
    (hQ : ∀ h', IsZip h' z TI TO (rawInt s.heap.objs.size) → IsPair h' TO x y → I1 (k1 + 1) h' → I2 (k2 + 1) h' → IsPair h' s.heap.objs.size x y → Stays s.heap h' z TO i1 i2 → Q (some (.ref s.heap.objs.size)) { s with heap := h' }) :
    wpAny (model P w) A (pyNext (.ref z)) Q E s := by
  have hT : s.TypeIs (.ref z) "zip" := ⟨_, hz, rfl⟩
  unfold pyNext
  refine wpAny_bind (wpAny_attempt (wpAny_callSpecial?_slot (name := Str.ofString "__next__") hT F.slot_zip_next (wpAny_call_entry F.slot_zip_next hT F.entry_zip_next ?_ (F.args_zip_next_1 _))))
  show wpAny _ _ (field (.ref z) 2 >>= _) _ _ _
  refine wpAny_bind (wpAny_field hz rfl (x := .bool false) rfl ?_)
  refine wpAny_bind (wpAny_field hz rfl (x := .ref TI) rfl ?_)
  refine wpAny_bind (wpAny_seqItems hTI rfl ?_)
  show wpAny _ _ (Builtin.SmallTypes.ownedTupleIsFree (.ref z) >>= _) _ _ _
  unfold Builtin.SmallTypes.ownedTupleIsFree
  refine wpAny_bind (wpAny_bind (wpAny_field hz rfl (x := .none) rfl (wpAny_pure ?_)))
  simp only [if_true]
  refine wpAny_bind (wpAny_rule (wpAny_bind (wpAny_field hz rfl (x := .ref TO) rfl (wpAny_bind (wpAny_setField_rec hz (by simp) fun ha za sa => ?_)))))
  replace za : IsZip ha z TI TO .ellipsis := za
  refine wpAny_bind ?_
  simp only [List.zipIdx_cons, List.zipIdx_nil, List.forIn_cons, List.forIn_nil]
  refine wpAny_bind (wpAny_bind (wpAny_onRaise (wpAny_bind (S1.item (S1.far h1 sa.extBut D.i1z D.l1z) hx fun hb b1 sb => wpAny_pure ?_))))
  have TOb : IsPair hb TO a b := sb.extBut _ _ D.TOi1 (sa.extBut _ _ D.TOz hTO)
  refine wpAny_bind (wpAny_seqItems TOb rfl (wpAny_bind (wpAny_updateSeq_pair TOb fun hc TOc sc => ?_)))
  replace TOc : IsPair hc TO x b := TOc
  refine wpAny_bind (wpAny_letGo (wpAny_pure ?_))
  refine wpAny_bind (wpAny_bind (wpAny_onRaise (wpAny_bind (S2.item (S2.far (S2.far (S2.far h2 sa.extBut D.i2z D.l2z) sb.extBut D.i12.symm D.l2i1) sc.extBut D.TOi2.symm D.l2TO) hy fun hd d2 sd => wpAny_pure ?_))))
  have TOd : IsPair hd TO x b := sd.extBut _ _ D.TOi2 TOc
  refine wpAny_bind (wpAny_seqItems TOd rfl (wpAny_bind (wpAny_updateSeq_pair TOd fun he TOe se => ?_)))
  replace TOe : IsPair he TO x y := TOe
  refine wpAny_bind (wpAny_letGo (wpAny_pure (wpAny_pure (wpAny_bind (wpAny_seqItems TOe rfl (wpAny_bind (wpAny_newTuple ?_)))))))
  have size : he.objs.size = s.heap.objs.size := by rw [se.1, sd.1, sc.1, sb.1, sa.1]
  have ze : IsZip he z TI TO .ellipsis := se.extBut _ _ D.TOz.symm (sd.extBut _ _ D.i2z.symm (sc.extBut _ _ D.TOz.symm (sb.extBut _ _ D.i1z.symm za)))
  have ke : Stays s.heap he z TO i1 i2 := fun c o c1 c2 c3 c4 e => se.extBut _ _ c2 (sd.extBut _ _ c4 (sc.extBut _ _ c2 (sb.extBut _ _ c3 (sa.extBut _ _ c1 e))))
  have e1 : I1 (k1 + 1) he := S1.far (S1.far (S1.far b1 sc.extBut D.TOi1.symm D.l1TO) sd.extBut D.i12 D.l1i2) se.extBut D.TOi1.symm D.l1TO
  have e2 : I2 (k2 + 1) he := S2.far d2 se.extBut D.TOi2.symm D.l2TO
  have zlt : z < he.objs.size := Heap.lt_size ze
  show wpAny _ _ (Builtin.SmallTypes.ownedTupleHandOut (.ref z) (.ref he.objs.size) >>= _) _ _ _
  unfold Builtin.SmallTypes.ownedTupleHandOut
  have zf : IsZip (he.push { cls := .type "tuple", data := .seq #[x, y] }) z TI TO .ellipsis := Heap.get?_push_of_some _ ze
  refine wpAny_bind (wpAny_bind (wpAny_setField_rec zf (by simp) fun hg zg sg => ?_))
  replace zg : IsZip hg z TI TO (rawInt he.objs.size) := zg
  refine wpAny_setField_rec zg (by simp) fun hk zk sk => ?_
  replace zk : IsZip hk z TI TO (rawInt he.objs.size) := zk
  have pushed : Heap.ExtBut z he hk := fun c o c1 e => sk.extBut _ _ c1 (sg.extBut _ _ c1 (Heap.get?_push_of_some _ e))
  have pk : IsPair hk he.objs.size x y := sk.extBut _ _ (Nat.ne_of_gt zlt) (sg.extBut _ _ (Nat.ne_of_gt zlt) (Heap.get?_push_size _ rfl))
  rw [size] at zk pk
  refine wpAny_pure ⟨_, rfl, wpAny_pure ?_⟩
  rw [size]
  exact hQ hk zk (pushed _ _ D.TOz TOe) (S1.far e1 pushed D.i1z D.l1z) (S2.far e2 pushed D.i2z D.l2z) pk fun c o c1 c2 c3 c4 e => pushed c o c1 (ke c o c1 c2 c3 c4 e)
theorem zipS_end {z TI TO i1 i2 l1 l2 : Addr} {k1 k2 : Nat} {xs ys : Array Value} {I1 I2 : Nat → Heap → Prop} {a b : Value} {Q : Option Value → Shared → Prop} (S1 : Src P w A.in1 i1 l1 xs I1) (S2 : Src P w A.in1 i2 l2 ys I2) (D : ZipApart z TI TO i1 i2 l1 l2)
    (hz : IsZip s.heap z TI TO .none) (hTI : IsPair s.heap TI (.ref i1) (.ref i2)) (hTO : IsPair s.heap TO a b) (h1 : I1 k1 s.heap) (h2 : I2 k2 s.heap) (hend : xs[k1]? = none ∨ ys[k2]? = none)
    (hQ : ∀ h', Stays s.heap h' z TO i1 i2 → Q none { s with heap := h' }) :
    wpAny (model P w) A (pyNext (.ref z)) Q E s := by
  have hT : s.TypeIs (.ref z) "zip" := ⟨_, hz, rfl⟩
  have over : ∀ (h' : Heap) (e : Addr), Stays s.heap h' z TO i1 i2 → (∃ o, h'.get? e = some o ∧ o.cls = .type "StopIteration") → wpAny (model P w) A (isInstance (.ref e) (.type "StopIteration") >>= fun r => if r = true then pure none else throw (.ref e)) Q E { s with heap := h' } := fun h' e hk ⟨o, ho, hc⟩ =>
    wpAny_bind (wpAny_isInstance (T := "StopIteration") (b := true) ⟨o, ho, hc⟩ isSubtype_stop (wpAny_pure (hQ _ hk)))
  unfold pyNext
  refine wpAny_bind (wpAny_attempt (wpAny_callSpecial?_slot (name := Str.ofString "__next__") hT F.slot_zip_next (wpAny_call_entry F.slot_zip_next hT F.entry_zip_next ?_ (F.args_zip_next_1 _))))
  show wpAny _ _ (field (.ref z) 2 >>= _) _ _ _
  refine wpAny_bind (wpAny_field hz rfl (x := .bool false) rfl ?_)
  refine wpAny_bind (wpAny_field hz rfl (x := .ref TI) rfl ?_)
  refine wpAny_bind (wpAny_seqItems hTI rfl ?_)
  show wpAny _ _ (Builtin.SmallTypes.ownedTupleIsFree (.ref z) >>= _) _ _ _
  unfold Builtin.SmallTypes.ownedTupleIsFree
  refine wpAny_bind (wpAny_bind (wpAny_field hz rfl (x := .none) rfl (wpAny_pure ?_)))
  simp only [if_true]
  refine wpAny_bind (wpAny_rule (wpAny_bind (wpAny_field hz rfl (x := .ref TO) rfl (wpAny_bind (wpAny_setField_rec hz (by simp) fun ha za sa => ?_)))))
  replace za : IsZip ha z TI TO .ellipsis := za
  refine wpAny_bind ?_
  simp only [List.zipIdx_cons, List.zipIdx_nil, List.forIn_cons, List.forIn_nil]
  refine wpAny_bind (wpAny_bind (wpAny_onRaise ?_))
  cases hx : xs[k1]? with
  | none =>
    refine wpAny_bind (S1.stop (S1.far h1 sa.extBut D.i1z D.l1z) hx fun hb e sb he => ?_)
    obtain ⟨oe, hoe, hce⟩ := he
    have zb : IsZip hb z TI TO .ellipsis := sb _ _ D.i1z.symm za
    have ez : e ≠ z := fun x => by subst x; rw [zb] at hoe; cases hoe; simp at hce
    exact wpAny_setField_rec zb (by simp) fun hc _ sc => over _ e (fun c o c1 _ c3 _ x => sc.extBut _ _ c1 (sb _ _ c3 (sa.extBut _ _ c1 x))) ⟨oe, sc.extBut _ _ ez hoe, hce⟩
  | some x =>
    have hy : ys[k2]? = none := hend.resolve_left (by rw [hx]; simp)
    refine wpAny_bind (S1.item (S1.far h1 sa.extBut D.i1z D.l1z) hx fun hb b1 sb => wpAny_pure ?_)
    have TOb : IsPair hb TO a b := sb.extBut _ _ D.TOi1 (sa.extBut _ _ D.TOz hTO)
    refine wpAny_bind (wpAny_seqItems TOb rfl (wpAny_bind (wpAny_updateSeq_pair TOb fun hc TOc sc => ?_)))
    refine wpAny_bind (wpAny_letGo (wpAny_pure ?_))
    refine wpAny_bind (wpAny_bind (wpAny_onRaise (wpAny_bind (S2.stop (S2.far (S2.far (S2.far h2 sa.extBut D.i2z D.l2z) sb.extBut D.i12.symm D.l2i1) sc.extBut D.TOi2.symm D.l2TO) hy fun hd e sd he => ?_))))
    obtain ⟨oe, hoe, hce⟩ := he
    have zd : IsZip hd z TI TO .ellipsis := sd _ _ D.i2z.symm (sc.extBut _ _ D.TOz.symm (sb.extBut _ _ D.i1z.symm za))
    have ez : e ≠ z := fun x => by subst x; rw [zd] at hoe; cases hoe; simp at hce
    exact wpAny_setField_rec zd (by simp) fun hk _ sk => over _ e (fun c o c1 c2 c3 c4 x => sk.extBut _ _ c1 (sd _ _ c4 (sc.extBut _ _ c2 (sb.extBut _ _ c3 (sa.extBut _ _ c1 x))))) ⟨oe, sk.extBut _ _ ez hoe, hce⟩
end
/-! ### zip(list, tuple) -/
abbrev zA (h : Heap) (l : Addr) : Heap := h.push { cls := .type "list_iterator", data := .fields #[.ref l, .int 0 0] }
abbrev zB (h : Heap) (l t : Addr) : Heap := (zA h l).push { cls := .type "tuple_iterator", data := .fields #[.ref t, .int 0 0] }
abbrev zC (h : Heap) (l t : Addr) : Heap := (zB h l t).push { cls := .type "tuple", data := .seq #[.ref h.objs.size, .ref (zA h l).objs.size] }
abbrev zD (h : Heap) (l t : Addr) : Heap := (zC h l t).push { cls := .type "tuple", data := .seq #[.none, .none] }
abbrev zE (h : Heap) (l t : Addr) : Heap := (zD h l t).push { cls := .type "zip", data := .fields #[.none, .bool false, .bool false, .ref (zB h l t).objs.size, .ref (zC h l t).objs.size] }
theorem meets_zipLT (l t : Addr) (xs ys : Array Value) :
    Meets (Builtin.«zip.__new__» ⟨[.type "zip", .ref l, .ref t], []⟩) (fun _ R s => s.heap.IsList l xs ∧ s.heap.IsTuple t ys ∧ R (.ok (.ret (.ref (zD s.heap l t).objs.size))) { s with heap := zE s.heap l t }) :=
  .of_wp fun prog w A R s h => by
    obtain ⟨hp, g, d, tk, os⟩ := s; obtain ⟨hl1, hl2, h⟩ := h
    have hsub := sub_zip
    have hL1 : Heap.IsList (Shared.heap ⟨hp, g, d, tk, os⟩) l xs := hl1
    have hL2 : Heap.IsTuple (Shared.heap ⟨hp.push { cls := .type "list_iterator", data := .fields #[.ref l, .int 0 0] }, g, d, tk, os⟩) t ys := Heap.IsTuple.push hl2 _
    wp_walk using wpAny_pyIter_list hL1, wpAny_pyIter_tuple hL2
    exact ⟨_, rfl, h⟩
section
variable {P : Program} {w : World} {A : Around} {E : Value → Shared → Prop} {s : Shared}
theorem call_zipLT {l t : Addr} {xs ys : Array Value} {Q : Value → Shared → Prop} (hl1 : s.heap.IsList l xs) (hl2 : s.heap.IsTuple t ys)
    (h : ∀ h', IsZip h' (s.heap.objs.size + 4) (s.heap.objs.size + 2) (s.heap.objs.size + 3) .none → IsPair h' (s.heap.objs.size + 2) (.ref s.heap.objs.size) (.ref (s.heap.objs.size + 1)) →
      IsPair h' (s.heap.objs.size + 3) .none .none → h'.IsListIter s.heap.objs.size l 0 → h'.IsTupleIter (s.heap.objs.size + 1) t 0 → (∀ c o, s.heap.get? c = some o → h'.get? c = some o) → Q (.ref (s.heap.objs.size + 4)) { s with heap := h' }) :
    wpAny (model P w) A (call (.type "zip") [.ref l, .ref t]) Q E s := by
  refine callType_new F.called_zip (by decide) (F.typeCall_zip_2 _ _) (F.newCall_zip_2 _ _) (fun obj => F.args_object_init_3 obj _ _) F.entry_zip_new (meets_zipLT l t xs ys) ⟨hl1, hl2, ?_⟩
  have z1 : (zA s.heap l).objs.size = s.heap.objs.size + 1 := Heap.size_push ..
  have z2 : (zB s.heap l t).objs.size = s.heap.objs.size + 2 := by rw [Heap.size_push, z1]
  have z3 : (zC s.heap l t).objs.size = s.heap.objs.size + 3 := by rw [Heap.size_push, z2]
  have z4 : (zD s.heap l t).objs.size = s.heap.objs.size + 4 := by rw [Heap.size_push, z3]
  have up : ∀ {h : Heap} {o o' : Obj} {c : Addr}, h.get? c = some o → (h.push o').get? c = some o := fun e => Heap.get?_push_of_some _ e
  have g5 : (zE s.heap l t).get? (zD s.heap l t).objs.size = some _ := Heap.get?_push_size _ rfl
  have g4 : (zE s.heap l t).get? (zC s.heap l t).objs.size = some _ := up (Heap.get?_push_size _ rfl)
  have g3 : (zE s.heap l t).get? (zB s.heap l t).objs.size = some _ := up (up (Heap.get?_push_size _ rfl))
  have g2 : (zE s.heap l t).get? (zA s.heap l).objs.size = some _ := up (up (up (Heap.get?_push_size _ rfl)))
  have g1 : (zE s.heap l t).get? s.heap.objs.size = some _ := up (up (up (up (Heap.get?_push_size _ rfl))))
  show _ ∧ _
  rw [z2, z3, z4] at g5
  rw [z1, z2] at g3
  rw [z3] at g4
  rw [z1] at g2
  rw [z4]
  exact ⟨⟨_, g5, rfl⟩, h _ g5 g3 g4 ⟨_, g1, rfl, rfl⟩ ⟨_, g2, rfl, rfl⟩ fun c o x => up (up (up (up (up x))))⟩
end
def ItzM (K : PySem.W.Frag) (a b : Addr) : It :=
  ⟨fun i H => ∃ (xs ys : List V) (x y : V), SqL K H a xs ∧ SqT K H b ys ∧ xs[i]? = some x ∧ ys[i]? = some y,
    fun i H v H' => ∃ T x y, v = .ref T ∧ H T = none ∧ H' = upd H T (.tup [x, y]) ∧ (∀ xs, SqL K H a xs → xs[i]? = some x) ∧ ∀ ys, SqT K H b ys → ys[i]? = some y,
    fun i H => ∃ xs ys : List V, SqL K H a xs ∧ SqT K H b ys ∧ (xs.length ≤ i ∨ ys.length ≤ i)⟩
theorem turn_zipM {P : Program} {w : World} {K : PySem.W.Frag} {elts : List Expr} {kk : Nat} {tpos : Pos} {a b z TI TO i1 i2 : Addr} (D : ZipApart z TI TO i1 i2 a b) :
    Turn P w K (.Tuple elts kk tpos) (ItzM K a b) [z, TI, TO, i1, i2] z (fun i h => IsZip h z TI TO .none ∧ IsPair h TI (.ref i1) (.ref i2) ∧ (∃ x y, IsPair h TO x y) ∧ h.IsListIter i1 a i ∧ h.IsTupleIter i2 b i) where
  mem := List.mem_cons_self
  obj := fun i h st c hc => by
    obtain ⟨hz, hTI, ⟨x, y, hTO⟩, ⟨o1, e1, _, d1⟩, ⟨o2, e2, _, d2⟩⟩ := st
    simp only [List.mem_cons, List.not_mem_nil, or_false] at hc
    rcases hc with rfl | rfl | rfl | rfl | rfl
    · exact ⟨_, hz, fun v q => nomatch q⟩
    · exact ⟨_, hTI, fun v q => nomatch q⟩
    · exact ⟨_, hTO, fun v q => nomatch q⟩
    · exact ⟨o1, e1, fun v q => by rw [d1] at q; cases q⟩
    · exact ⟨o2, e2, fun v q => by rw [d2] at q; cases q⟩
  keep := fun i h h' st k => by
    obtain ⟨hz, hTI, ⟨x, y, hTO⟩, h1, h2⟩ := st
    exact ⟨k z (by simp) _ hz, k TI (by simp) _ hTI, ⟨x, y, k TO (by simp) _ hTO⟩, h1.at fun o q => k i1 (by simp) o q, h2.at fun o q => k i2 (by simp) o q⟩
  item := by
    intro X hP hw hK hc i pins s σ H E I hf st hg
    subst hP hw hK
    obtain ⟨hz, hTI, ⟨x0, y0, hTO⟩, h1, h2⟩ := st
    obtain ⟨xs, ys, x, y, hqx, hqy, hx, hy⟩ := hg
    obtain ⟨its, rv, p, _⟩ := I.list hqx
    obtain ⟨its2, rv2, p2, _⟩ := I.tuple hqy
    obtain ⟨u, hu, ru⟩ := rv.get hx
    obtain ⟨u2, hu2, ru2⟩ := rv2.get hy
    have hzl : z < s.heap.objs.size := Heap.lt_size hz
    have hin : X.A.in1.handled = none := I.ok.hd hc
    refine zipS_item (src_list hin D.l1i1) (src_tup hin D.l2i2) D hz hTI hTO (k1 := i) (k2 := i) ⟨h1, p.isList⟩ ⟨h2, show s.heap.IsTuple b its2.toArray from p2⟩ (x := u) (y := u2) (by simpa using hu) (by simpa using hu2) fun h' z' TO' h1' h2' hT hk => ?_
    refine ⟨_, rfl, wpAny_letOwnedTupleGo_zip (s := { s with heap := h' }) z' fun h'' z'' sb => ?_⟩
    have hT2 : h''.get? s.heap.objs.size = some { cls := .type "tuple", data := .seq #[u, u2] } := (sb.2 _ (Nat.ne_of_gt hzl)).trans hT
    have new : ObjOk X.prog X.w (upd H s.heap.objs.size (.tup [x, y])) h'' s.heap.objs.size (.tup [x, y]) :=
      ⟨by show 2 ≤ sizeLine; decide, [u, u2], .cons ru (.cons ru2 .nil), ⟨_, hT2, rfl, _, rfl⟩⟩
    have I1 : Inv X pins σ (upd H s.heap.objs.size (.tup [x, y])) { s with heap := h'' } :=
      I.turnedNew (t' := s.toks) (ch := [z, TI, TO, i1, i2]) (fun c o hb q => (sb.2 c (fun q' => hb (by simp [q']))).trans (hk c o (fun q' => hb (by simp [q'])) (fun q' => hb (by simp [q'])) (fun q' => hb (by simp [q'])) (fun q' => hb (by simp [q'])) q)) hf (Nat.le_refl _) new
    refine ⟨.ref s.heap.objs.size, _, I1, rfl, ⟨_, x, y, rfl, I.hok.fresh (Nat.le_refl _), rfl, fun l hl => by rw [I.list_inj hl hqx]; exact hx, fun l hl => by rw [I.tuple_inj hl hqy]; exact hy⟩, ⟨z'', ?_, ⟨u, u2, ?_⟩, ?_, ?_⟩, fun c hcm => ?_⟩
    · exact (sb.2 _ D.TIz).trans (hk _ _ D.TIz D.TITO D.TIi1 D.TIi2 hTI)
    · exact (sb.2 _ D.TOz).trans TO'
    · exact h1'.1.at fun o q => (sb.2 _ D.i1z).trans q
    · exact h2'.1.at fun o q => (sb.2 _ D.i2z).trans q
    · have hlt : c < s.heap.objs.size := by
        have hcm' := hcm
        simp only [List.mem_cons, List.not_mem_nil, or_false] at hcm'
        rcases hcm' with rfl | rfl | rfl | rfl | rfl
        · exact hzl
        · exact Heap.lt_size hTI
        · exact Heap.lt_size hTO
        · obtain ⟨_, e1, _⟩ := h1; exact Heap.lt_size e1
        · obtain ⟨_, e2, _⟩ := h2; exact Heap.lt_size e2
      rw [upd_ne (Nat.ne_of_lt hlt)]
      exact (hf c hcm).1
  done := by
    intro X hP hw hK hc i pins s σ H E I hf st hg
    subst hP hw hK
    obtain ⟨hz, hTI, ⟨x0, y0, hTO⟩, h1, h2⟩ := st
    obtain ⟨xs, ys, hqx, hqy, hend⟩ := hg
    obtain ⟨its, rv, p, _⟩ := I.list hqx
    obtain ⟨its2, rv2, p2, _⟩ := I.tuple hqy
    have l1 := rv.length
    have l2 := rv2.length
    have hin : X.A.in1.handled = none := I.ok.hd hc
    have he : its.toArray[i]? = none ∨ its2.toArray[i]? = none := by
      rcases hend with q | q
      · exact .inl (by simp; omega)
      · exact .inr (by simp; omega)
    exact zipS_end (src_list hin D.l1i1) (src_tup hin D.l2i2) D hz hTI hTO (k1 := i) (k2 := i) ⟨h1, p.isList⟩ ⟨h2, show s.heap.IsTuple b its2.toArray from p2⟩ he fun h' hk => ⟨rfl, I.turnedL (t' := s.toks) (ch := [z, TI, TO, i1, i2]) (fun c o hb q =>
      hk c o (fun q' => hb (by simp [q'])) (fun q' => hb (by simp [q'])) (fun q' => hb (by simp [q'])) (fun q' => hb (by simp [q'])) q) hf⟩
  self := fun A i s Q E st h => wpAny_pyIter_zip st.1 h
def iZipM (K : PySem.W.Frag) (ta : TA) : TI := fun σ H R => ta σ H fun vs H1 => ∃ a b xs ys, vs = [.ref a, .ref b] ∧ SqL K H1 a xs ∧ SqT K H1 b ys ∧ R (ItzM K a b) H1
theorem pi_zipM {X : Cx} {e e2 : Expr} {ta : TA} {p pos tpos : Pos} {elts : List Expr} {kk : Nat} (hg : Gl X "zip") (hm : X.mg "zip" = none) (ha : PA X [e, e2] ta)
    (hs : starEach [e, e2] X.env = (false, eval e X.env) :: starEach [e2] X.env := by rfl) (hpl : (backTo pos (starEach [e2] X.env)).any (·.1) = false := by rfl) :
    PI X (.Tuple elts kk tpos) (.Call (.Name "zip" p) [e, e2] [] pos) (iZipM X.K ta) := by
  refine ⟨fun pins s σ H R I h => ?_⟩
  refine Call_ (ld_blt I hg hm PyProof.Rows.boot_zip (PyProof.Rows.callWith_type1 (thn (ha.run pos pins s σ H _ I h) fun us s1 ⟨vs, H1, I1, r1, q1⟩ => ?_) hs hpl))
  obtain ⟨a, b, xs, ys, ex, hqx, hqy, q⟩ := q1
  subst ex
  obtain ⟨u1, r1', hus, ru1⟩ : ∃ u r, us = u :: r ∧ RelV (.ref a) u ∧ Vals [.ref b] r := by cases r1 with | cons p q => exact ⟨_, _, rfl, p, q⟩
  obtain ⟨ru1, rr⟩ := ru1
  subst hus
  obtain ⟨u2, rfl, ru2⟩ := rr.one
  cases ru1
  cases ru2
  obtain ⟨its, rv, p1, _⟩ := I1.list hqx
  obtain ⟨its2, rv2, p2, _⟩ := I1.tuple hqy
  obtain ⟨o2, ho2, _⟩ := id p2
  refine call_zipLT p1.isList (show s1.heap.IsTuple b its2.toArray from p2) fun h' hz hTI hTO h1 h2 hk => wpAny_pyIter_zip hz ?_
  have I2 : Inv X pins σ H1 { s1 with heap := h' } := I1.kept (t' := s1.toks) hk
  refine ⟨s1.heap.objs.size + 4, [s1.heap.objs.size + 4, s1.heap.objs.size + 2, s1.heap.objs.size + 3, s1.heap.objs.size, s1.heap.objs.size + 1], _, _, H1, rfl, I2, turn_zipM (PySem.W.ktu_apart s1.heap.objs.size a b p1.lt (Heap.lt_size ho2)), ⟨hz, hTI, ⟨_, _, hTO⟩, h1, h2⟩, fun c hcm => ?_, q⟩
  have hle : s1.heap.objs.size ≤ c := by
    simp only [List.mem_cons, List.not_mem_nil, or_false] at hcm
    rcases hcm with rfl | rfl | rfl | rfl | rfl <;> first | exact Nat.le_add_right _ _ | exact Nat.le_refl _
  exact I1.fpOk hle (I1.hok.fresh hle)
section
variable {X : Cx} {W : Wd} {E : XK} {K : PySem.W.Frag}
def iZip2 (fa : AF) : IF := fun ρ μ => match fa ρ μ with
  | some (.ok [s, u] μ1) => (match viewT s, viewT u with
    | some ds, some es => some (.ok (zipD ds es) μ1)
    | none, some es => (match s with
      | .d (.lst ds) => some (.ok (zipD ds es) μ1)
      | _ => none)
    | _, _ => match s, u with
      | .d (.lst ds), .d (.lst es) => some (.ok (zipD ds es) μ1)
      | _, _ => none)
  | some (.ex x μ1) => some (.ex x μ1)
  | _ => none
theorem walkD_zipM {F : Hp} {a b : Addr} {xs ys : List V} {ds es : List D} (h1 : SqL K F a xs) (h2 : SqT K F b ys) (d1 : DenL K F xs ds) (d2 : DenL K F ys es) : WalkD K F (ItzM K a b) (zipD ds es) := fun H hl => by
  have q1 := Le.seqL hl h1
  have q2 := Le.seqT hl h2
  have l1 := d1.length
  have l2 := d2.length
  have hz := zipD_length ds es
  refine ⟨fun i hi => ?_, ⟨xs, ys, q1, q2, by omega⟩, fun i x H' d hd y => ?_⟩
  · have i1 : i < xs.length := by omega
    have i2 : i < ys.length := by omega
    exact ⟨xs, ys, xs[i], ys[i], q1, q2, List.getElem?_eq_getElem i1, List.getElem?_eq_getElem i2⟩
  · obtain ⟨T, u, v, e1, e2, e3, e4, e5⟩ := y
    obtain ⟨p, q, f1, f2, rfl⟩ := zipD_get hd
    obtain ⟨v1, g1, g2⟩ := d1.get f1
    obtain ⟨v2, g3, g4⟩ := d2.get f2
    have e4 := e4 xs q1
    have e5 := e5 ys q2
    rw [g1] at e4; cases e4
    rw [g3] at e5; cases e5
    exact .inr ⟨T, [u, v], [p, q], e1, e2, e3, rfl, .cons g2 (.cons g4 .nil)⟩
theorem q_izip2 {e e2 : Expr} {fa : AF} {p pos tpos : Pos} {elts : List Expr} {kk : Nat} (hm : X.mg "zip" = none) (ha : PA X [e, e2] (aOf X.K W E fa)) (hg : Gl X "zip" := by rfl)
    (hs : starEach [e, e2] X.env = (false, eval e X.env) :: starEach [e2] X.env := by rfl) (hpl : (backTo pos (starEach [e2] X.env)).any (·.1) = false := by rfl) : PI X (.Tuple elts kk tpos) (.Call (.Name "zip" p) [e, e2] [] pos) (iOf X.K W E (iZip2 fa)) := by
  refine PI.weak (PI.or (RZ.pi_zipA hg hm ha hs hpl) (pi_zipM hg hm ha hs hpl)) fun σ H R h => ?_
  obtain ⟨F, L, μ, ρ, res, hr, hs, hf, hp⟩ := h
  unfold iZip2 at hf
  cases ea : fa ρ μ with
  | none => rw [ea] at hf; cases hf
  | some ra =>
    rw [ea] at hf
    cases ra with
    | ex x μ1 => cases hf; exact .inl ⟨F, L, μ, ρ, _, hr, hs, ea, hp⟩
    | ok ss μ1 =>
      match ss, ea, hf with
      | [s, u], ea, hf =>
        simp only at hf
        split at hf
        · rename_i ds es f1 f2
          cases hf
          refine .inl ⟨F, L, μ, ρ, _, hr, hs, ea, fun vs F1 H1 L1 e1 r1 d => ?_⟩
          obtain ⟨v, w, rfl, d1, d2⟩ := d.two
          obtain ⟨a, xs, rfl, fa1, ha, da⟩ := viewT_ok r1 d1 f1
          obtain ⟨b, ys, rfl, fb1, hb, db⟩ := viewT_ok r1 d2 f2
          exact ⟨a, b, xs, ys, rfl, .inr ⟨ha, hb, hp _ F1 H1 L1 e1 r1 (walkD_zipT fa1 fb1 da db)⟩⟩
        · rename_i es f1 f2
          split at hf
          · cases hf
            refine .inr ⟨F, L, μ, ρ, _, hr, hs, ea, fun vs F1 H1 L1 e1 r1 d => ?_⟩
            obtain ⟨v, w, rfl, d1, d2⟩ := d.two
            obtain ⟨b, ys, rfl, fb1, hb, db⟩ := viewT_ok r1 d2 f2
            cases d1 with
            | lst h1 h2 => exact ⟨_, b, _, ys, rfl, SqL.of (r1.sub _ _ h1), hb, hp _ F1 H1 L1 e1 r1 (walkD_zipM (SqL.of h1) fb1 h2 db)⟩
          · cases hf
        · split at hf
          · cases hf
            refine .inl ⟨F, L, μ, ρ, _, hr, hs, ea, fun vs F1 H1 L1 e1 r1 d => ?_⟩
            obtain ⟨v, w, rfl, d1, d2⟩ := d.two
            cases d1 with
            | lst h1 h2 =>
              cases d2 with
              | lst h3 h4 => exact ⟨_, _, _, _, rfl, .inl ⟨SqL.of (r1.sub _ _ h1), SqL.of (r1.sub _ _ h3), hp _ F1 H1 L1 e1 r1 (walkD_zip (SqL.of h1) (SqL.of h3) h2 h4)⟩⟩
          · cases hf
end
end DL
end

section
set_option Elab.async false
set_option linter.all false
set_option maxRecDepth 100000
set_option maxHeartbeats 4000000
/-! DLexc: an own error whose __init__ says super().__init__(v) and keeps v as a field. -/
namespace DL
open PySem PySem.W PySem.Calls PyProof.Rows PySem.HandSPX
/-- what the written part says of the class x, at C, of its __init__, at fI (cell cc, code cda) -/
structure ErrTxt (P : Program) (K : Frag) (mg : Str → Option Value) (x fld : Str) (C fI : Addr) : Prop where
  gC : mg x = some (.ref C)
  cls : ∃ nm q N bs bm sn sub ab col dd k0 k1 k2 k3 k5, K.lookup C = some (excClassObj nm q C N bs bm true sn sub ab col dd k0 k1 k2 k3 k5 "ValueError.__new__") ∧ refsVE bm = true
  sa : findIn K (.ref C) "__setattr__" = some (some (.builtin "object.__setattr__"))
  ga : findIn K (.ref C) "__getattribute__" = some (some (.builtin "BaseException.__getattribute__"))
  gg : findIn K (.ref C) "__getattr__" = some none
  noN : findIn K (.ref C) fld = some none
  iC : findIn K (.ref C) "__init__" = some (some (.ref fI))
  tC : typeIn K (.ref fI) = some (.type "function")
  kC : keepIn K (.ref C) = true
  exC : subIn K (.ref C) (.type "BaseException") = some true
  tyC : typeIn K (.ref C) = some (.type "type")
  hdC : hasDictIn K C = true
  te : exmOne K (.ref C) (.ref C) = some true
  ve : subIn K (.ref C) (.type "ValueError") = some true
  me : mroIn K C (.ref C) = some true
  su : ks_superIn K C C "__init__" = some (some (.builtin "ValueError.__init__"))
  th : nsIn K cStatics "thirdparty.any" = some none
  ns : nsIn K mainGlobals "super" = some none
  top : (P.main.scope.names.lookup ("super" : Str)).isSome = false
  fs : fld = "name" ∨ fld = "place"
  fn : ∃ (oc : Value) (od : Option Addr) (qual : Str) (kV doc pm : Value) (an : Option Addr) (cda cc : Addr) (ct : Value) (osl : Array (Option Value)) (p1 p2 q1 q2 q3 q4 q5 q6 q7 q8 q9 q10 : Pos) (scope : Scope) (ccl cl : Value) (cdd cld : Option Addr) (ccs csl : Array (Option Value)) (vs : Array Value) (file : Str) (tf : Tok),
    K.lookup fI = some ⟨oc, od, .func (ksFn "__init__" qual { posonlyargs := [], args := [{ arg := "self", annotation := none, pos := p1 }, { arg := fld, annotation := none, pos := p2 }], vararg := none, kwonlyargs := [], kw_defaults := [], kwarg := none, defaults := [] }
      [.Expr (.Call (.Attribute (.Call (.Name "super" q1) [] [] q2) "__init__" q3) [.Name fld q4] [] q5) q6, .Assign [.Attribute (.Name "self" q7) fld q8] (.Name fld q9) q10] scope .none kV doc pm an (.ref cda) ct cc), osl⟩ ∧ codeIn K (.ref cda) qual = true ∧
    (q3.endLine == q5.line) = true ∧ (scope.kind = .function ∧ scope.isCoroutine = false ∧ scope.isGenerator = false ∧ (∀ y ∈ scope.names, y.2 ≠ .cell) ∧ scope.names.lookup ("self" : Str) = some .local ∧ scope.names.lookup fld = some .local ∧ scope.names.lookup ("__class__" : Str) = some .free ∧ scope.names.lookup ("super" : Str) = some .globalImplicit) ∧
    K.lookup cda = some ⟨ccl, cdd, .fields vs, ccs⟩ ∧ vs[2]? = some (.str file tf) ∧ ((P.main.file : Str) == file) = true ∧
    K.lookup cc = some ⟨cl, cld, .cell (some (.ref C)), csl⟩
/-- what __init__ leaves of a fresh exception at xo -/
structure InitEnd (h h' : Heap) (xo C dx : Addr) (fld : Str) (v : Value) : Prop where
  keep : ∀ b o, b ≠ xo → h.get? b = some o → h'.get? b = some o
  obj : ∃ t1, h'.get? xo = some { cls := .ref C, dict := some dx, data := .fields #[.ref t1, .none, .none, .none, .bool false, .none] }
  dbig : h.objs.size ≤ dx
  dne : dx ≠ xo
  ns : h'.Ns1 dx (fun y => if y = fld then some v else none)
section
variable {P : Program} {w : World} {A : Around} {E : Value → Shared → Prop} {R : Result → Shared → Prop} {s : Shared} {K : Frag} {mg mb : Str → Option Value} {x fld : Str} {C fI : Addr}
theorem one_size (v : Value) : [v].length ≤ sizeLine := by
  rw [sizeLine_eq]
  exact (by decide : 1 ≤ 16777216)
theorem call_mw {xo u t0 : Addr} {nm q : Str} {C N : Addr} {bs bm : List Value} {hdct : Bool} {sn : List Str} {sub : List Value} {ab : Bool} {col : Option Bool} {dd : Option Addr} {k0 k1 k2 k3 k5 : Option Value} {h : Heap} {g : Array GenState} {d : Drawn} {t : Nat} {os : OsState} {rest : List Value} {Q : Value → Shared → Prop}
    (hu : h.get? u = some (kxs_mw "ValueError.__init__" xo)) (hC : h.get? C = some (excClassObj nm q C N bs bm hdct sn sub ab col dd k0 k1 k2 k3 k5 "ValueError.__new__")) (he : h.get? xo = some (excO C t0)) (hz : rest.length ≤ sizeLine)
    (hq : ∀ h' t1, (∀ b o, b ≠ xo → h.get? b = some o → h'.get? b = some o) → h'.get? xo = some (excO C t1) → Q .none ⟨h', g, d, t, os⟩) : wpAny (model P w) A (call (.ref u) rest) Q E ⟨h, g, d, t, os⟩ := by
  refine wpAny_call (codeAny_of_tree ?_)
  show wpAny _ A.in1 (callAny (.ref u) ⟨rest, []⟩) _ _ _
  simp only [callAny]
  refine wpAny_bind (wpAny_load hu ?_)
  simp only [kxs_mw, show (Value.type "method-wrapper" == Value.type "method" || Value.type "method-wrapper" == Value.type "builtin_function_or_method" || Value.type "method-wrapper" == Value.type "method-wrapper") = true by decide, if_true]
  refine KFB.if_so (by decide) ?_
  refine wpAny_bind (check_bound_init F.excBase_ValueError.toExcCallFacts hC he rfl ?_)
  refine wpAny_bind (wpAny_pure (wpAny_pure ?_))
  refine ⟨plainId_quiet F.excBase_ValueError.init.plain _, codeAny_builtin F.excBase_ValueError.initEntry ?_⟩
  exact exc_init_tree (cls := .ref C) (t0 := t0) (dv := none) (c2 := .none) (c3 := .none) (b4 := .bool false) he hz fun h' k e _ => hq h' _ k e
theorem err_init (T : ErrTxt P K mg x fld C fI) {xo t0 : Addr} {v : Value} (X : K.In s.heap) (G : s.heap.Ns mainGlobals mg) (gs : mg "super" = none) (B : s.heap.Ns builtinsNs mb) (bs : mb "super" = some (.type "super")) (hlim : s.heap.NoLimit) (hx : s.heap.get? xo = some (excO C t0)) (hnx : K.lookup xo = none) (hroom : A.depth < recursionLimit)
    (hq : ∀ h' tk dx, InitEnd s.heap h' xo C dx fld v → R (.ok (.ret .none)) { s with heap := h', toks := tk }) :
    codeAny (model P w) A (.call (.ref fI) ⟨[.ref xo, v], []⟩) R s := by
  obtain ⟨oc, od, qual, kV, doc, pm, an, cda, cc, ct, osl, p1, p2, q1, q2, q3, q4, q5, q6, q7, q8, q9, q10, scope, ccl, cl, cdd, cld, ccs, csl, vs, file, tf, ho, hcd, hline, ⟨sk, sc, sg, snc, s1, s2, s3, s4⟩, hcda, hvs, hfile, hcell⟩ := T.fn
  obtain ⟨nm, q, N, bs', bm, sn, sub, ab, col, dd, k0, k1, k2, k3, k5, hC, hbm⟩ := T.cls
  have hcl : clsIn K C = some { name := nm, bases := bs', mro := .ref C :: bm, ns := N, qualname := q, hasDict := true, slotNames := sn, subclasses := sub, abstract := ab, collection := col, hasDel := false } := by unfold clsIn; rw [hC] <;> rfl
  refine ks_codeAny_call_defAt (binds := [("self", .ref xo), (fld, v)]) hroom (X _ _ ho) rfl hlim (codeRec_of X hcd) rfl (BindsTo.of_eq ?_) snc (fun y hy => ?_) (fun h₁ hn k => ?_) sc sg sk
  · rcases T.fs with e | e <;> subst e <;> first | rfl | with_unfolding_all rfl
  · simp only [List.mem_cons, List.not_mem_nil, or_false] at hy
    rcases hy with rfl | rfl
    · exact s1
    · exact s2
  have hn' : h₁.Ns s.heap.objs.size (fun y => if y = fld then some v else if y = "self" then some (.ref xo) else none) := by
    have e : (fun y => if y = fld then some v else if y = ("self" : Str) then some (Value.ref xo) else none) = fun y => ([(("self" : Str), Value.ref xo), (fld, v)].reverse).lookup y := by
      funext y
      show _ = List.lookup y [(fld, v), (("self" : Str), Value.ref xo)]
      by_cases h1 : y = fld
      · subst h1; simp [List.lookup]
      · have : (y == fld) = false := by simpa using h1
        rw [if_neg h1]
        by_cases h2 : y = ("self" : Str)
        · subst h2; simp [List.lookup, this]
        · have h3 : (y == ("self" : Str)) = false := by simpa using h2
          simp [List.lookup, this, h2, h3]
    rw [e]; exact hn
  have X₁ : K.In h₁ := X.keeps k
  have hx₁ := k _ _ hx
  have nfs : fld ≠ "self" := by rcases T.fs with e | e <;> subst e <;> decide
  have nfd : (fld == ("__debug__" : Str)) = false := by rcases T.fs with e | e <;> subst e <;> decide
  refine ks_wpAt_execs_cons (ks_wpAt_Expr_any ?_ ?_ ?_)
  · refine ks_wpAt_MethodCall (pl := do return (← importBound (.Call (.Name "super" q1) [] [] q2) (ksEnv qual scope s.heap.objs.size fI (.ref cda) cc)).getD true) ?_ ?_
    · refine ks_wpAt_super_base (env := ksEnv qual scope s.heap.objs.size fI (.ref cda) cc) s4 s3 (by decide) rfl (X₁ _ _ ho) rfl rfl rfl (X₁ _ _ hcda) rfl hvs hfile T.top ?_
      refine ks_loadName_global sk s4 (loadGlobal_builtin (env := ksEnv qual scope s.heap.objs.size fI (.ref cda) cc) (G.keeps k) gs (B.keeps k) bs ⟨rfl, ?_⟩)
      refine wpAny_loadName_free sk s3 rfl ⟨_, X₁ _ _ hcell, rfl⟩ ?_
      refine wpAny_loadName_local sk s1 hn' (v := .ref xo) (by simp [nfs.symm]) ?_
      refine ks_wpAny_isType_cls (X₁ _ _ hC) rfl ⟨rfl, ?_⟩
      refine ks_wpAny_call_super (X₁ _ _ hC) rfl hx₁ rfl (fun c z => by cases z) (looks_mroIn X₁ T.me) (fun h₂ hso k₂ => ?_)
      have X₂ : K.In h₂ := X₁.keeps k₂
      have I₂ : InstAt h₂ xo (excO C t0) C none := ⟨k₂ _ _ hx₁, rfl, rfl, trivial⟩
      have hsu := T.su
      unfold ks_superIn at hsu
      rw [hcl] at hsu
      refine kxs_getMethod kxs_ValueError hso (looks_opaque X₂ T.th) (l₀ := .ref C :: bm) (fun A Q E s k q => wpAny_bind ((looks_clsIn X₂ hcl) A _ E s k (wpAny_pure q))) rfl X₂ hsu (I₂.type.andThen (looks_subIn X₂ T.ve)) (ks_ne X₂ I₂ hcl) (by decide) ?_
      show wpAny _ _ (callWith q5 (.ref h₂.objs.size) [] ((false, eval (.Name fld q4) (ksEnv qual scope s.heap.objs.size fI (.ref cda) cc)) :: []) []) _ _ _
      refine kxs_callWith (i := "ValueError.__init__") (x := xo) rfl (evalArgs_plain (spliced_cons ?_))
      have k₃ : ∀ b o, h₁.get? b = some o → (h₂.push (kxs_mw "ValueError.__init__" xo)).get? b = some o := fun b o e => Heap.get?_push_of_some _ (k₂ b o e)
      refine wpAny_Name (wpAny_loadName_local sk s2 (hn'.keeps k₃) (v := v) (by simp) ?_) nfd
      refine spliced_nil ⟨Heap.get?_push_size _ rfl, ?_⟩
      refine call_mw (P := P) (Heap.get?_push_size _ rfl) (k₃ _ _ (k _ _ (X _ _ hC))) (k₃ _ _ hx₁) (one_size v) fun h₄ t1 k₄ e₄ => ?_
      have xL : s.heap.objs.size ≠ xo := Nat.ne_of_gt (Heap.lt_size hx)
      have k₅ : ∀ b o, b ≠ xo → h₁.get? b = some o → h₄.get? b = some o := fun b o hb e => k₄ b o hb (k₃ b o e)
      have X₄ : K.In h₄ := fun a o e => k₅ a o (fun z => by rw [z, hnx] at e; cases e) (X₁ a o e)
      have hn₄ : h₄.Ns s.heap.objs.size (fun y => if y = fld then some v else if y = "self" then some (.ref xo) else none) := hn'.at fun o e => k₅ _ o xL e
      refine ks_wpAt_execs_cons (ks_wpAt_Assign_Attr (PySem.wpAt_of_wpAny ?_) rfl)
      refine wpAny_Name (wpAny_loadName_local sk s2 hn₄ (v := v) (by simp) ?_) nfd
      refine wpAny_Name (wpAny_loadName_local sk s1 hn₄ (v := .ref xo) (by simp [nfs.symm]) ?_) (by decide)
      refine set_plain X₄ (ox := excO C t1) (od := none) ⟨e₄, rfl, rfl, trivial⟩ T.sa ?_
      refine exc_osa X₄ e₄ hcl (show refsVE (.ref C :: bm) = true from hbm) rfl T.noN (fun h₆ tk₆ dx k₆ dn dne hx₆ hn₆ => ?_)
      refine PySem.wpAt_of_wpAny (wpAny_execs_nil (hq h₆ tk₆ dx ⟨fun b o hb e => k₆ b o hb (k₅ b o hb (k b o e)), ⟨t1, hx₆⟩, ?_, dne, hn₆⟩))
      have lt4 : s.heap.objs.size < h₄.objs.size := hn₄.lt
      exact Nat.le_of_lt (Nat.lt_of_lt_of_le lt4 dn)
    · rw [arm_eval_Call]
      unfold methodCall
      have hform : ∀ t : List (Bool × Sem Value), t = backTo q5 (starEach [.Name fld q4] (ksEnv qual scope s.heap.objs.size fI (.ref cda) cc)) → methodCallForm ([Expr.Name fld q4].length + ([] : List Keyword).length) t (backToKw q5 (keywordEach [] (ksEnv qual scope s.heap.objs.size fI (.ref cda) cc))) = true := fun t e => by subst e; rfl
      have hpos : methodCallPos true (.Call (.Name "super" q1) [] [] q2) (ksEnv qual scope s.heap.objs.size fI (.ref cda) cc) q3 q5 = pure q5 := by unfold methodCallPos; simp [hline]
      have hform := hform _ rfl
      show (do
        let ov ← attributeBase (.Call (.Name "super" q1) [] [] q2) "__init__" (ksEnv qual scope s.heap.objs.size fI (.ref cda) cc) _
        standAt q3.atName
        let (f, first) ← holding [ov] (calleeOf (methodCallForm ([Expr.Name fld q4].length + ([] : List Keyword).length) (backTo q5 (starEach [.Name fld q4] (ksEnv qual scope s.heap.objs.size fI (.ref cda) cc))) (backToKw q5 (keywordEach [] (ksEnv qual scope s.heap.objs.size fI (.ref cda) cc)))) (.Call (.Name "super" q1) [] [] q2) (ksEnv qual scope s.heap.objs.size fI (.ref cda) cc) ov "__init__")
        let callPos ← methodCallPos (methodCallForm ([Expr.Name fld q4].length + ([] : List Keyword).length) (backTo q5 (starEach [.Name fld q4] (ksEnv qual scope s.heap.objs.size fI (.ref cda) cc))) (backToKw q5 (keywordEach [] (ksEnv qual scope s.heap.objs.size fI (.ref cda) cc)))) (.Call (.Name "super" q1) [] [] q2) (ksEnv qual scope s.heap.objs.size fI (.ref cda) cc) q3 q5
        callWith callPos f first (backTo q5 (starEach [.Name fld q4] (ksEnv qual scope s.heap.objs.size fI (.ref cda) cc))) (backToKw q5 (keywordEach [] (ksEnv qual scope s.heap.objs.size fI (.ref cda) cc)))) = _
      rw [hform, hpos]
      simp only [pure_bind]
      rfl
  · show interactive (ksEnv qual scope s.heap.objs.size fI (.ref cda) cc) = false
    unfold interactive
    rw [show (ksEnv qual scope s.heap.objs.size fI (.ref cda) cc).scope.kind = .function from sk]
    rfl
  · rfl
/-- a made error -/
structure OwnMade (h h' : Heap) (e C d : Addr) (fld : Str) (v : Value) : Prop where
  keep : ∀ b o, h.get? b = some o → h'.get? b = some o
  new : h.objs.size ≤ e
  obj : ∃ oe vs, h'.get? e = some oe ∧ oe.cls = .ref C ∧ oe.dict = some d ∧ oe.data = .fields vs ∧ vs[1]? = some .none
  dbig : h.objs.size ≤ d
  dne : d ≠ e
  ns : h'.Ns1 d (fun y => if y = fld then some v else none)
theorem err_made (T : ErrTxt P K mg x fld C fI) {v : Value} (X : K.In s.heap) (G : s.heap.Ns mainGlobals mg) (gs : mg "super" = none) (B : s.heap.Ns builtinsNs mb) (bs : mb "super" = some (.type "super")) (hlim : s.heap.NoLimit) (hroom : A.depth + 1 < recursionLimit)
    (hq : ∀ h' tk e d, OwnMade s.heap h' e C d fld v → R (.ok (.ret (.ref e))) { s with heap := h', toks := tk }) :
    codeAny (model P w) A (.call (.ref C) ⟨[v], []⟩) R s := by
  obtain ⟨nm, q, N, bs', bm, sn, sub, ab, col, dd, k0, k1, k2, k3, k5, hC, hbm⟩ := T.cls
  obtain ⟨hp, g, dr, tk, os⟩ := s
  have up : ∀ b o, hp.get? b = some o → ((hp.push (kdv_tup [v])).push (excO C hp.objs.size)).get? b = some o := fun b o e => Heap.get?_push_of_some _ (Heap.get?_push_of_some _ e)
  have at1 : ((hp.push (kdv_tup [v])).push (excO C hp.objs.size)).get? (hp.objs.size + 1) = some (excO C hp.objs.size) := by heap_get
  have off : K.lookup (hp.objs.size + 1) = none := by
    cases e : K.lookup (hp.objs.size + 1) with
    | none => rfl
    | some o => exact absurd (Nat.lt_of_succ_lt (Heap.lt_size (show hp.get? (hp.objs.size + 1) = some o from X _ _ e))) (Nat.lt_irrefl _)
  refine call_own F.excBase_ValueError (fun X => refsVE_contains X bm hbm) (X _ _ hC) (looks_findIn X T.iC) (fun self => bind_fn X self T.tC) (one_size v) ?_
  refine err_init (s := ⟨(hp.push (kdv_tup [v])).push (excO C hp.objs.size), g, dr, tk, os⟩) T (X.keeps up) (G.keeps up) gs (B.keeps up) bs (hlim.keeps up) at1 off ?_ fun h' tk' dx ⟨k', ⟨t1, hx⟩, dn, dne, hns⟩ => ?_
  · exact hroom
  · have old : ∀ b o, hp.get? b = some o → h'.get? b = some o := fun b o e => k' b o (Nat.ne_of_lt (Nat.lt_succ_of_lt (Heap.lt_size e))) (up b o e)
    have z : hp.objs.size + 1 + 1 ≤ dx := by
      first
        | (simpa only [Heap.size_push] using dn)
        | exact dn
        | (have q := dn; rw [Heap.size_push, Heap.size_push] at q; exact q)
    exact ⟨rfl, hq h' tk' (hp.objs.size + 1) dx ⟨old, Nat.le_succ _, ⟨_, _, hx, rfl, rfl, rfl, rfl⟩, Nat.le_trans (Nat.le_trans (Nat.le_succ _) (Nat.le_succ _)) z, dne, hns⟩⟩
end
end DL
namespace DL
open PySem PySem.Spec PyProof.Rows L2
theorem relO_fld {v : V} {v' : Value} (fld : Str) (r : RelV v v') (f : Str) : RelO (List.lookup f [(fld, v)]) (if f = fld then some v' else none) := by
  by_cases hw : f = fld
  · subst hw
    rw [if_pos rfl, show List.lookup f [(f, v)] = some v by simp [List.lookup]]
    exact r
  · have qw : (f == fld) = false := by simpa using hw
    rw [if_neg hw, show List.lookup f [(fld, v)] = none by simp [List.lookup, qw]]
    trivial
section
variable {X : Cx} {C fI : Addr} {x fld : Str} {W : Wd} {E : XK}
def tMkErr (C : Addr) (fld : Str) (ta : TA) : _root_.L2.St → Hp → XK → Prop := fun σ H Q => ta σ H fun vs H1 => ∃ v, vs = [v] ∧ ∀ d, H1 d = none → Q (.ref C) (some d) (upd H1 d (.xd [(fld, v)]))
theorem pmk_err {a : Expr} {ta : TA} {p pos : Pos} {k : Nat} (T : ErrTxt X.prog X.K X.mg x fld C fI) (hr : Room k X.A) (ha : PA X [a] ta) (hs : X.mg "super" = none) (hg : Gl X x := by rfl) (hdb : (x == ("__debug__" : Str)) = false := by decide)
    (he : starEach (a :: []) X.env = (false, eval a X.env) :: starEach [] X.env := by rfl) (hpl : (backTo pos (starEach [] X.env)).any (·.1) = false := by rfl) :
    PMk X (.Call (.Name x p) [a] [] pos) (tMkErr C fld ta) := by
  intro pins s σ H Q I h
  refine wpAny_Call_Name_kw (ld_glob I hg T.gC ?_ hdb)
  refine PySem.W.callWith_K (h₀ := X.base) I.ok.mod.kin T.kC (thn (ha.run pos pins s σ H _ I h) fun us s1 hh => ?_) he hpl
  obtain ⟨vs, H1, I1, r1, v, rfl, q1⟩ := hh
  refine ⟨I1.kIn, ?_⟩
  obtain ⟨v', rfl, rv⟩ := r1.one
  show wpAny _ _ (call (.ref C) [v']) _ _ _
  have hlim := I1.nolimit
  obtain ⟨mb, b1, b2⟩ := I1.mod.blt
  obtain ⟨hp, g, dr, tk, os⟩ := s1
  refine wpAny_call (err_made T I1.kIn (I1.mod.glob.keeps I1.bk) hs (b1.keeps I1.bk) ((b2 "super" (by decide)).trans (by decide +kernel)) hlim (by have := hr.dp; omega) fun h' tk' e d M => ?_)
  show MkP X pins σ Q (.ref e) ⟨h', g, dr, tk', os⟩
  obtain ⟨oe, fv, hoe, hc, hd, hdat, h1⟩ := M.obj
  have hns := M.ns
  obtain ⟨G', g1, g2⟩ := restrict h' fun b => decide (b ≠ e)
  have gk : ∀ b, b ≠ e → G'.get? b = h'.get? b := fun b hb => g1 b (decide_eq_true hb)
  have ge : G'.get? e = none := g2 e (by simp)
  have old : ∀ b o, hp.get? b = some o → G'.get? b = some o := fun b o q => (gk b (Nat.ne_of_lt (Nat.lt_of_lt_of_le (Heap.lt_size q) M.new))).trans (M.keep b o q)
  have ob : ObjOk X.prog X.w (upd H1 d (.xd [(fld, v)])) G' d (.xd [(fld, v)]) :=
    ⟨_, hns.at (fun o q => (gk d M.dne).trans q), fun f => relO_fld fld rv f⟩
  have J : Inv X pins σ (upd H1 d (.xd [(fld, v)])) ⟨G', g, dr, tk', os⟩ := I1.laid (t' := tk') old M.dbig ob
  refine ⟨e, oe, fv, ⟨G', g, dr, tk', os⟩, _, .ref C, some d, rfl, J, fun b o q => ?_, ge, hoe, ⟨hc, hd⟩, hdat, h1, ?_, rfl, I1.bare, raises_own T.exC T.tyC, q1 d (I1.hok.fresh M.dbig)⟩
  · by_cases hb : b = e
    · have q' : G'.get? b = some o := q
      rw [hb, ge] at q'; cases q'
    · exact (gk b hb).symm.trans q
  · rw [upd_ne (Ne.symm M.dne)]
    exact I1.hok.fresh M.new
def sRaise (k : D → Ex) (f : EF) : SF := fun ρ μ => bS (f ρ μ) fun s μ1 => match s with
  | .d d => some (.ex (k d) μ1)
  | _ => none
theorem raise_post {K : PySem.W.Frag} {F H F1 H1 : Hp} {L L1 : List Addr} {μ1 : List MO} {z : Ex} {D : Ends} {v : V} {d : Addr} (e1 : Ext F H L F1 H1 L1) (r1 : Rep K W F1 L1 μ1 H1) (p : PostS K W E F1 L1 H1 (.ex z μ1) D) (dv : Den K F1 v z.val) (nd : H1 d = none) : E (.ref (z.cls W)) (some d) (upd H1 d (.xd [(z.fld, v)])) :=
  p v d (upd F1 d (.xd [(z.fld, v)])) _ L1 (ext_newF r1 nd) (r1.newF nd (by intro ps q; cases q)) upd_same (dv.mono (le_upd (r1.free nd)))
theorem qs_raise {a : Expr} {f : EF} {p pos pos2 : Pos} {k : Nat} {mkx : D → Ex} (T : ErrTxt X.prog X.K X.mg x fld C fI) (hC : ∀ z, (mkx z).cls W = C) (hF : ∀ z, (mkx z).fld = fld) (hV : ∀ z, (mkx z).val = z) (hs : X.mg "super" = none) (hc : X.calm = true) (hr : Room k X.A) (tk : Takes X (fun cls d _ H => E cls d H)) (ha : PE X a (tOf X.K W E f)) (hg : Gl X x := by rfl) (hdb : (x == ("__debug__" : Str)) = false := by decide)
    (he : starEach (a :: []) X.env = (false, eval a X.env) :: starEach [] X.env := by rfl) (hpl : (backTo pos (starEach [] X.env)).any (·.1) = false := by rfl) :
    PS X (.Raise (some (.Call (.Name x p) [a] [] pos)) none pos2) (sOf X.K W E (sRaise mkx f)) := by
  refine PS.weak (ps_raise hc tk (pmk_err T hr (pa_cons ha pa_nil he) hs hg hdb he hpl)) fun D σ H q => ?_
  obtain ⟨F, L, μ, ρ, r, hr, hs, hf, hp⟩ := q
  show tOf X.K W E f σ H _
  refine tS_ok hr hs hf hp fun s v μ1 F1 H1 L1 hk e1 r1 d1 n1 p1 => ?_
  split at hk
  · rename_i d
    cases hk
    refine ⟨v, rfl, fun a na => ?_⟩
    have := raise_post (E := E) e1 r1 p1 (v := v) (d := a) (by rw [hV]; exact d1) na
    rw [hC, hF] at this
    exact this
  · cases hk
theorem qs_raiseA {a : Expr} {f : EF} {p pos pos2 : Pos} {k : Nat} (T : ErrTxt X.prog X.K X.mg "BadArgument" "name" W.CA fI) (hs : X.mg "super" = none) (hc : X.calm = true) (hr : Room k X.A) (tk : Takes X (fun cls d _ H => E cls d H)) (ha : PE X a (tOf X.K W E f)) (hg : Gl X "BadArgument" := by rfl)
    (he : starEach (a :: []) X.env = (false, eval a X.env) :: starEach [] X.env := by rfl) (hpl : (backTo pos (starEach [] X.env)).any (·.1) = false := by rfl) :
    PS X (.Raise (some (.Call (.Name "BadArgument" p) [a] [] pos)) none pos2) (sOf X.K W E (sRaise Ex.arg f)) := qs_raise T (fun _ => rfl) (fun _ => rfl) (fun _ => rfl) hs hc hr tk ha hg (by decide) he hpl
theorem qs_raiseT {a : Expr} {f : EF} {p pos pos2 : Pos} {k : Nat} (T : ErrTxt X.prog X.K X.mg "BadText" "place" W.CT fI) (hs : X.mg "super" = none) (hc : X.calm = true) (hr : Room k X.A) (tk : Takes X (fun cls d _ H => E cls d H)) (ha : PE X a (tOf X.K W E f)) (hg : Gl X "BadText" := by rfl)
    (he : starEach (a :: []) X.env = (false, eval a X.env) :: starEach [] X.env := by rfl) (hpl : (backTo pos (starEach [] X.env)).any (·.1) = false := by rfl) :
    PS X (.Raise (some (.Call (.Name "BadText" p) [a] [] pos)) none pos2) (sOf X.K W E (sRaise Ex.txt f)) := qs_raise T (fun _ => rfl) (fun _ => rfl) (fun _ => rfl) hs hc hr tk ha hg (by decide) he hpl
end
end DL
end

section
set_option Elab.async false
set_option linter.all false
set_option maxRecDepth 100000
set_option maxHeartbeats 4000000
/-! DLlam: lambdas handed to a def that catches the error. -/
namespace DL
open PySem PySem.Spec PyProof.Rows L2
theorem takesLen {X : Cx} {Wx : WX} (t : Takes X Wx) : Takes X (fun c d σ H => σ.length = X.N.length → Wx c d σ H) := fun u s' ⟨a, B, sI, pins, σ, H, cls, d, e, I, nb, up, sky, na, os, ag, w⟩ =>
  t u s' ⟨a, B, sI, pins, σ, H, cls, d, e, I, nb, up, sky, na, os, ag, w I.len⟩
/-- try: call() / except C as e: return e.fld / return '' -/
def TRef (C : Addr) (fld : Str) : (XK → Hp → VK → Prop) → Hp → VK → Prop := fun tl H Q =>
  tl (fun cls d H' => cls = .ref C ∧ ∃ dd v, d = some dd ∧ H' dd = some (.xd [(fld, v)]) ∧ Q v H') H fun _ H' => Q (.str "") H'
theorem ref_gives {X : Cx} {Ng : List Str} {x a e cn q fld : Str} {sg : Scope} {g C fI : Addr} {cdg : Value} {j : Nat} {p1 p2 p3 p4 p5 p6 p7 p8 p9 p10 p11 : Pos} (T : ErrTxt X.prog X.K X.mg cn fld C fI) (hN : Ng = [a, e]) (hne : a ≠ e)
    (hgl : sg.names.lookup cn = some .globalImplicit) (hcd : (cn == ("__debug__" : Str)) = false) (hel : sg.names.lookup e = some .local) (hed : (e == ("__debug__" : Str)) = false) (hec : (e == ("__classdict__" : Str)) = false)
    (hsw : ∀ env : Env, swapsWith (.Call (.Name a p1) [] [] p2) none p3.line env = pure false := by intro _; rfl) :
    LamX.GivesTo X Ng x sg g cdg [.Try [.Expr (.Call (.Name a p1) [] [] p2) p3] [.ExceptHandler (some (.Name cn p4)) (some e) [.Return (some (.Attribute (.Name e p5) fld p6)) p7] p8] [] [] p9, .Return (some (.Constant (.str "") j p10)) p11] a q (TRef C fld) := by
  intro f c' s H Q tl act hc h
  subst hN
  have nd : [a, e].Nodup := by simp [hne]
  have hgl' : Gl (cxOf C8.CX0 X.prog X.w X.K X.mg X.base [a, e] x sg g cdg X.A X.stack s H C8.E0).nox cn := hgl
  have st0 : (L2.start [a, e] [V.ref f])[0]? = some (some (V.ref f)) := rfl
  refine ⟨_, pss_cons (ps_try_as (X := (cxOf C8.CX0 X.prog X.w X.K X.mg X.base [a, e] x sg g cdg X.A X.stack s H C8.E0).nox) (c := .ref C) (i := 1) (Wout := fun _ _ _ _ => False)
      (ts := fun a' cls d => tRet (tXf a' cls d C fld (tVar 1)))
      (tb := fun W D σ H => ∃ Ech : XK, (∀ cls d σ' H', σ'.length = 2 → Ech cls d H' → W cls d σ' H') ∧ σ[0]? = some (some (.ref f)) ∧ H c' = some (LamX.CodeO c' q) ∧ tl Ech H (fun _ H' => D.nx σ H'))
      rfl rfl nd rfl (show _ = _ from hel) ⟨hgl', hcd, .inl T.gC⟩ LamX.takes0 (fun W pn xe tk _ => ?_) (fun a' oe cls d pn hz hf => pss_one (ps_ret (pe_xf ⟨T.ga, T.gg, T.exC, T.hdC⟩ T.noN hz hf (pe_var rfl (.inl hel) hed hec) ?_)))) (pss_one (ps_ret pe_str)), ?_⟩
  · refine ⟨fun pins s' σ H' D I h' => ?_⟩
    obtain ⟨Ech, hW, h1, h2, h3⟩ := h'
    have hp := act (fun c d σ H => σ.length = 2 → W c d σ H) pn xe Ech p1 p2 (takesLen tk) (fun cls d σ' H' e1 e2 => hW cls d σ' H' e2 e1)
    exact (pss_one (ps_expr (pos := p3) hp (hsw _))).run pins s' σ H' D I ⟨h1, h2, h3⟩
  · rfl
  · refine ⟨fun cls d H' => cls = .ref C ∧ ∃ dd v, d = some dd ∧ H' dd = some (.xd [(fld, v)]) ∧ Q v H', fun cls d σ' H' hl ⟨e1, dd, v, e2, e3, e4⟩ => ?_, st0, hc, ?_⟩
    · subst e1
      refine ⟨true, T.te, fun _ a' na => ?_, fun z => by cases z⟩
      refine ⟨.ref a', ?_, rfl, rfl, dd, _, v, e2, e3, ?_, e4⟩
      · rw [List.getElem?_set_self (by omega)]
      · simp [List.lookup]
    · exact h
section
variable {K : PySem.W.Frag} {W : Wd} {F H H1 : Hp} {L : List Addr} {μ : List MO}
theorem Rep.extN (R : Rep K W F L μ H) (e : LamX.ExtN H H1) (t : LamX.Tabs W.T H1) : Rep K W F L μ H1 where
  sub := fun a o h => e a o (R.sub a o h) fun ps z => R.ft a ps (by rw [h, z])
  ft := R.ft
  tabs := t
  nd := R.nd
  len := R.len
  nf := R.nf
  obj := fun i a o e1 e2 => by
    have q := R.obj i a o e1 e2
    cases o with
    | ml ds => obtain ⟨xs, h1, h2⟩ := q; exact ⟨xs, e a _ h1 lst_nt, h2⟩
    | md ks => exact e a _ (show H a = _ from q) dT_nt
theorem ext_extN (e : LamX.ExtN H H1) : Ext F H L F H1 L :=
  ⟨fun _ _ h => h, fun b o h _ n => e b o h n, fun b ⟨o, h, n⟩ => ⟨o, e b o h n, n⟩, fun _ _ h => h, ⟨[], by simp, by simp⟩⟩
end
/-- what a def that makes lambdas has: its code object at c, the table at P -/
structure LamT (base : Heap) (mg : Str → Option Value) (W : Wd) (x : Str) (c P : Addr) : Prop where
  tb : LamX.TabB base mg c P
  mem : (P, (x ++ ".<locals>.") ++ "<lambda>") ∈ W.T
  un : ∀ p ∈ W.T, p.1 = P → p.2 = (x ++ ".<locals>.") ++ "<lambda>"
def eRefused (f : EF) : EF := fun ρ μ => match f ρ μ with
  | some (.ok _ μ1) => some (.ok (.d (.str "")) μ1)
  | some (.ex (.arg d) μ1) => some (.ok (.d d) μ1)
  | _ => none
section
variable {X : Cx} {W : Wd} {E : XK}
theorem q_refused {st : Stmt} {c P fI : Addr} {k : Nat} {params : Arguments} {body : Expr} {scope : Scope} {f : EF} {p lpos pos : Pos} {x : Str} {j : Nat} {p1 p2 p3 p4 p5 p6 p7 p8 p9 p10 p11 : Pos}
    (T : ErrTxt X.prog X.K X.mg "BadArgument" "name" W.CA fI) (R : St0 X.K X.mg "_law_refused" st) (LT : LamT X.base X.mg W x c P) (hcode : X.env.code = .ref c) (hq : X.env.qual = x ++ ".<locals>.") (hr : Room (k + 2) X.A)
    (hbody : ∀ (A : Around) (outer : List Env) (s : Shared) (H : Hp) (E : XK) (f' c' : Addr), Room k (A.deeper (LamX.lamEnv X scope s.heap.objs.size f' c')) → PE (LamX.lamCx X A outer s H E scope f' c') body (tOf X.K W E f))
    (hb : defBody st = [.Try [.Expr (.Call (.Name "call" p1) [] [] p2) p3] [.ExceptHandler (some (.Name "BadArgument" p4)) (some "e") [.Return (some (.Attribute (.Name "e" p5) "name" p6)) p7] p8] [] [] p9, .Return (some (.Constant (.str "") j p10)) p11] := by rfl)
    (bi : ∀ (kV doc pm : Value) (an : Option Addr) (cdv ct : Value) (us : List Value), us.length = (["call"] : List Str).length → bindArgs (PySem.W.fnOf "_law_refused" "_law_refused" (defArgs st) (defBody st) (defScope st) .none kV doc pm an cdv ct) ⟨us, []⟩ = pure ((["call"] : List Str).zip us) := by exact fun _ _ _ _ _ _ us hl => match us, hl with | [_], _ => rfl)
    (sc : FnScope ["call", "e"] ["call"] (defScope st) := by exact ⟨rfl, rfl, rfl, by decide +kernel, rfl, by decide +kernel, by decide +kernel⟩)
    (h1 : (defScope st).names.lookup ("BadArgument" : Str) = some .globalImplicit := by rfl) (h2 : (defScope st).names.lookup ("e" : Str) = some .local := by rfl) (h3 : (defScope st).names.lookup ("call" : Str) = some .local := by rfl)
    (hg : Gl X "_law_refused" := by rfl) (hL : LamX.lamSB X.env.scope scope = true := by rfl) (hdef : defaultsOf params X.env = ([], []) := by rfl)
    (hbind : ∀ (q : Str) (cl : List (Str × Addr)) (pm cv ctv : Value), bindArgs (PySem.W.kla_fn "<lambda>" q params body scope cl pm cv ctv) ⟨[], []⟩ = pure [] := by intros; rfl) :
    PE X (.Call (.Name "_law_refused" p) [.Lambda params body scope lpos] [] pos) (tOf X.K W E (eRefused f)) := by
  obtain ⟨g, gd, hm, hF⟩ := R.ex
  have hkp := hF.kp
  have hbs := Fun.binds (ps := (["call"] : List Str)) hF bi
  obtain ⟨oc, od, kV, doc, pm, an, cdv, ct, osl, rfl, lk, hcd⟩ := hF.ex
  have hG := ref_gives (X := X) (Ng := ["call", "e"]) (x := "_law_refused") (a := "call") (e := "e") (sg := defScope st) (g := g) (cdg := cdv) (q := X.env.qual ++ "<lambda>") (j := j) (p1 := p1) (p2 := p2) (p3 := p3) (p4 := p4) (p5 := p5) (p6 := p6) (p7 := p7) (p8 := p8) (p9 := p9) (p10 := p10) (p11 := p11) T rfl (by decide) h1 (by decide) h2 (by decide) (by decide)
  rw [← hb] at hG
  refine PE.weak (LamX.pe_lamcall (T := W.T) (t := fun E => tOf X.K W E f) (c := c) (P := P) hg hm hkp lk hcd hbs sc rfl (.inl h3) hG LT.tb hcode (by rw [hq]; exact LT.mem) (by rw [hq]; exact LT.un) hr (LamX.lamS_by hL) hdef hbind hbody) fun σ H Q h => ?_
  obtain ⟨F, L, μ, ρ, res, hr, hs, hf, hp⟩ := h
  refine ⟨hr.tabs, fun H1 eN T1 => ?_⟩
  have r1 := hr.extN eN T1
  have e1 : Ext F H L F H1 L := ext_extN eN
  unfold eRefused at hf
  show tOf X.K W _ f σ H1 _
  cases ea : f ρ μ with
  | none => rw [ea] at hf; cases hf
  | some ra =>
    rw [ea] at hf
    refine ⟨F, L, μ, ρ, ra, r1, hs, ea, ?_⟩
    cases ra with
    | ok s μ1 =>
      cases hf
      exact fun v F2 H2 L2 e2 r2 _ _ => hp _ F2 H2 L2 (e1.trans e2) r2 (.str "") (by simp)
    | ex z μ1 =>
      cases z with
      | arg d =>
        cases hf
        exact fun v dd F2 H2 L2 e2 r2 h2 d2 => ⟨rfl, dd, v, rfl, h2, hp v F2 H2 L2 (e1.trans e2) r2 (show Den X.K F2 v d from d2) (by simp)⟩
      | txt d => cases hf
end
end DL
end

section
set_option Elab.async false
set_option linter.all false
set_option maxRecDepth 100000
set_option maxHeartbeats 4000000
/-! DLend: orders of keywords; defs with lambdas. -/
namespace DL
open PySem PySem.Spec PyProof.Rows L2
def pmF {α : Type} (p q : Nat) (ix : List (Bool × Nat)) (us ws : List α) : List α := if us.length = p ∧ ws.length = q then ix.filterMap fun z => if z.1 then ws[z.2]? else us[z.2]? else []
theorem pmF_some {α : Type} {p q : Nat} {ix : List (Bool × Nat)} {us ws : List α} (h : (pmF p q ix us ws).length ≠ 0) : us.length = p ∧ ws.length = q := by
  unfold pmF at h
  split at h
  · assumption
  · exact absurd rfl h
theorem pmF_vals {p q : Nat} {ix : List (Bool × Nat)} {vs zs : List V} {us ws : List Value} (h1 : Vals vs us) (h2 : Vals zs ws) : Vals (pmF p q ix vs zs) (pmF p q ix us ws) := by
  unfold pmF
  rw [h1.length, h2.length]
  split
  · induction ix with
    | nil => exact .nil
    | cons z ix ih =>
      have key : (∃ v u, (if z.1 then zs[z.2]? else vs[z.2]?) = some v ∧ (if z.1 then ws[z.2]? else us[z.2]?) = some u ∧ RelV v u) ∨ ((if z.1 then zs[z.2]? else vs[z.2]?) = none ∧ (if z.1 then ws[z.2]? else us[z.2]?) = none) := by
        have one : ∀ {as : List V} {bs : List Value}, Vals as bs → (∃ v u, as[z.2]? = some v ∧ bs[z.2]? = some u ∧ RelV v u) ∨ (as[z.2]? = none ∧ bs[z.2]? = none) := fun {as bs} h => by
          cases e : as[z.2]? with
          | none => exact .inr ⟨rfl, by rw [List.getElem?_eq_none_iff] at e ⊢; rw [← h.length]; exact e⟩
          | some v =>
            obtain ⟨u, h1, h2⟩ := h.get e
            exact .inl ⟨v, u, rfl, h1, h2⟩
        cases z.1 with
        | true => exact one h2
        | false => exact one h1
      rw [List.filterMap_cons, List.filterMap_cons]
      rcases key with ⟨v, u, e1, e2, r⟩ | ⟨e1, e2⟩
      · rw [e1, e2]; exact .cons r ih
      · rw [e1, e2]; exact ih
  · exact .nil
theorem DenSs.get {K : PySem.W.Frag} {F : Hp} {L : List Addr} : ∀ {vs : List V} {ss : List S} {i : Nat} {v : V}, DenSs K F L vs ss → vs[i]? = some v → ∃ s, ss[i]? = some s ∧ DenS K F L v s
  | _, _, _, _, .nil, e => by simp at e
  | _, _, 0, _, .cons h _, e => by simp at e; subst e; exact ⟨_, rfl, h⟩
  | _, _, i + 1, v, .cons _ l, e => by
    obtain ⟨s, h1, h2⟩ := DenSs.get (i := i) (v := v) l (by simpa using e)
    exact ⟨s, by simpa using h1, h2⟩
theorem pmF_den {K : PySem.W.Frag} {F : Hp} {L : List Addr} {p q : Nat} {ix : List (Bool × Nat)} {vs zs : List V} {ss us : List S} (h1 : DenSs K F L vs ss) (h2 : DenSs K F L zs us) : DenSs K F L (pmF p q ix vs zs) (pmF p q ix ss us) := by
  unfold pmF
  rw [h1.length, h2.length]
  split
  · induction ix with
    | nil => exact .nil
    | cons z ix ih =>
      have key : (∃ v u, (if z.1 then zs[z.2]? else vs[z.2]?) = some v ∧ (if z.1 then us[z.2]? else ss[z.2]?) = some u ∧ DenS K F L v u) ∨ ((if z.1 then zs[z.2]? else vs[z.2]?) = none ∧ (if z.1 then us[z.2]? else ss[z.2]?) = none) := by
        have one : ∀ {as : List V} {bs : List S}, DenSs K F L as bs → (∃ v u, as[z.2]? = some v ∧ bs[z.2]? = some u ∧ DenS K F L v u) ∨ (as[z.2]? = none ∧ bs[z.2]? = none) := fun {as bs} h => by
          cases e : as[z.2]? with
          | none => exact .inr ⟨rfl, by rw [List.getElem?_eq_none_iff] at e ⊢; rw [← h.length]; exact e⟩
          | some v =>
            obtain ⟨u, h1, h2⟩ := h.get e
            exact .inl ⟨v, u, rfl, h1, h2⟩
        cases z.1 with
        | true => exact one h2
        | false => exact one h1
      rw [List.filterMap_cons, List.filterMap_cons]
      rcases key with ⟨v, u, e1, e2, r⟩ | ⟨e1, e2⟩
      · rw [e1, e2]; exact .cons r ih
      · rw [e1, e2]; exact ih
  · exact .nil
/-- where a def stands whose code object is at c -/
structure St0C (K : PySem.W.Frag) (mg : Str → Option Value) (x : Str) (st : Stmt) (c : Addr) : Prop where
  ex : ∃ f fd, mg x = some (.ref f) ∧ Fun K x x st f fd ∧ fd.code = .ref c
section
variable {P : Program} {w : World} {K : PySem.W.Frag} {mg : Str → Option Value} {base : Heap} {W : Wd}
theorem fn_keepsC {x qual : Str} {st : Stmt} {f c : Addr} {fd : FuncData} {N ps : List Str} {k : Nat} {g : GF} {fb : SF} (Fn : Fun K x qual st f fd) (hc : fd.code = .ref c) (Sc : FnScope N ps (defScope st))
    (hbody : ∀ (A : Around) (outer : List Env) (s : Shared) (H : Hp) (E : XK), Room k (A.deeper (envOfC qual (defScope st) s.heap.objs.size f (.ref c))) → PSs (bodyCx P w K mg base N qual (defScope st) f (.ref c) A outer s H E) (defBody st) (sOf K W E fb))
    (hsem : ∀ (ss : List S) (μ : List MO) (r : ER), ss.length = ps.length → g ss μ = some r → fin μ.length (fb (startS N.length ss) μ) = some r) : FnOk P w K mg base (L2.CX P w) (k + 1) f fd ps (spG K W ps.length g) := by
  obtain ⟨oc, od, kV, doc, pm, an, cdv, ct, osl, rfl, lk, hcd⟩ := Fn.ex
  have hc : cdv = .ref c := hc
  subst hc
  refine fn_of lk hcd Sc (fun vs H Q E h => h.1) fun A outer s H vs Q E hr h => ⟨sOf K W E fb, hbody A outer s H E hr, ?_⟩
  obtain ⟨hl, F, L, μ, ss, r, hr, hs, hg, hp⟩ := h
  have hse := hsem ss μ r (by rw [← hs.length]; exact hl) hg
  cases eb : fb (startS N.length ss) μ with
  | none => rw [eb] at hse; cases hse
  | some rs =>
    rw [eb] at hse
    exact ⟨F, L, μ, _, rs, hr, .start hs, eb, fin_post hr.len.symm hse hp⟩
end
end DL
end

section
set_option Elab.async false
set_option linter.all false
set_option maxRecDepth 100000
set_option maxHeartbeats 4000000
/-! DLhead: the facts that the head hands over. -/
namespace DL
open PySem PySem.Spec PyProof.Rows L2
/-! ### the error class, checked in K -/
def clsB (K : PySem.W.Frag) (C : Addr) : Bool := match K.lookup C with
  | some ⟨.type "type", _, .cls cd, sl⟩ => (match cd.mro, sl.toList with
    | .ref C' :: bm, [_, _, _, _, some (.builtin n), _] => C' == C && n == "ValueError.__new__" && !cd.hasDel && cd.hasDict && HandSPX.refsVE bm
    | _, _ => false)
  | _ => false
theorem clsB_ok {K : PySem.W.Frag} {C : Addr} (q : clsB K C = true) : ∃ nm q N bs bm sn sub ab col dd k0 k1 k2 k3 k5, K.lookup C = some (excClassObj nm q C N bs bm true sn sub ab col dd k0 k1 k2 k3 k5 "ValueError.__new__") ∧ HandSPX.refsVE bm = true := by
  unfold clsB at q
  split at q
  · rename_i dd cd sl ho
    split at q
    · rename_i C' bm k0 k1 k2 k3 n k5 hm hs
      simp only [Bool.and_eq_true, beq_iff_eq, Bool.not_eq_true'] at q
      obtain ⟨⟨⟨⟨rfl, rfl⟩, hdel⟩, hdict⟩, ht⟩ := q
      obtain ⟨nm, bs, mro, ns, qn, hd, sn, sub, ab, col, del⟩ := cd
      dsimp only at hm hdel hdict
      subst hm hdel hdict
      have hsl : sl = #[k0, k1, k2, k3, some (.builtin "ValueError.__new__"), k5] := by
        rw [← hs]
      subst hsl
      exact ⟨nm, qn, ns, bs, bm, sn, sub, ab, col, dd, k0, k1, k2, k3, k5, ho, ht⟩
    · cases q
  · cases q
/-- the def __init__ of the error class as it must be written -/
def initB (P : Program) (K : PySem.W.Frag) (C fI : Addr) (fld : Str) : Bool := match K.lookup fI with
  | some ⟨_, _, .func fd, _⟩ => (match fd.params, fd.body, fd.closure, fd.defaults, fd.code with
    | { posonlyargs := [], args := [{ arg := a1, annotation := none, pos := _ }, { arg := a2, annotation := none, pos := _ }], vararg := none, kwonlyargs := [], kw_defaults := [], kwarg := none, defaults := [] },
      .stmts [.Expr (.Call (.Attribute (.Call (.Name n1 _) [] [] _) n2 q3) [.Name n3 _] [] q5) _, .Assign [.Attribute (.Name n4 _) n5 _] (.Name n6 _) _], [(cn, cc)], .none, .ref cda =>
      decide (a1 = "self") && decide (a2 = fld) && decide (n1 = "super") && decide (n2 = "__init__") && decide (n3 = fld) && decide (n4 = "self") && decide (n5 = fld) && decide (n6 = fld) && decide (cn = "__class__") && decide (fd.name = "__init__") &&
      decide (fd.globals = mainGlobals) && decide (fd.builtins = builtinsNs) && PySem.W.codeIn K fd.code fd.qualname && (q3.endLine == q5.line) && decide (fd.scope.kind = .function) && !fd.scope.isCoroutine && !fd.scope.isGenerator && (fd.scope.names.all fun y => !decide (y.2 = .cell)) &&
      decide (fd.scope.names.lookup ("self" : Str) = some .local) && decide (fd.scope.names.lookup fld = some .local) && decide (fd.scope.names.lookup ("__class__" : Str) = some .free) && decide (fd.scope.names.lookup ("super" : Str) = some .globalImplicit) &&
      (match K.lookup cda with
        | some ⟨_, _, .fields vs, _⟩ => (match (vs[2]? : Option Value) with
          | some (Value.str file _) => ((P.main.file : Str) == file)
          | _ => false)
        | _ => false) &&
      (match K.lookup cc with
        | some ⟨_, _, .cell (some (.ref D)), _⟩ => D == C
        | _ => false)
    | _, _, _, _, _ => false)
  | _ => false
theorem initB_ok {P : Program} {K : PySem.W.Frag} {C fI : Addr} {fld : Str} (q : initB P K C fI fld = true) : ∃ (oc : Value) (od : Option Addr) (qual : Str) (kV doc pm : Value) (an : Option Addr) (cda cc : Addr) (ct : Value) (osl : Array (Option Value)) (p1 p2 q1 q2 q3 q4 q5 q6 q7 q8 q9 q10 : Pos) (scope : Scope) (ccl cl : Value) (cdd cld : Option Addr) (ccs csl : Array (Option Value)) (vs : Array Value) (file : Str) (tf : Tok),
    K.lookup fI = some ⟨oc, od, .func (PySem.W.ksFn "__init__" qual { posonlyargs := [], args := [{ arg := "self", annotation := none, pos := p1 }, { arg := fld, annotation := none, pos := p2 }], vararg := none, kwonlyargs := [], kw_defaults := [], kwarg := none, defaults := [] }
      [.Expr (.Call (.Attribute (.Call (.Name "super" q1) [] [] q2) "__init__" q3) [.Name fld q4] [] q5) q6, .Assign [.Attribute (.Name "self" q7) fld q8] (.Name fld q9) q10] scope .none kV doc pm an (.ref cda) ct cc), osl⟩ ∧ PySem.W.codeIn K (.ref cda) qual = true ∧
    (q3.endLine == q5.line) = true ∧ (scope.kind = .function ∧ scope.isCoroutine = false ∧ scope.isGenerator = false ∧ (∀ y ∈ scope.names, y.2 ≠ .cell) ∧ scope.names.lookup ("self" : Str) = some .local ∧ scope.names.lookup fld = some .local ∧ scope.names.lookup ("__class__" : Str) = some .free ∧ scope.names.lookup ("super" : Str) = some .globalImplicit) ∧
    K.lookup cda = some ⟨ccl, cdd, .fields vs, ccs⟩ ∧ vs[2]? = some (.str file tf) ∧ ((P.main.file : Str) == file) = true ∧
    K.lookup cc = some ⟨cl, cld, .cell (some (.ref C)), csl⟩ := by
  unfold initB at q
  split at q
  · rename_i oc od fd osl ho
    obtain ⟨nm, qn, params, body, scope, globals, closure, defaults, kwd, doc, pm, an, code, ct, blt⟩ := fd
    dsimp only at q
    split at q
    · rename_i a1 p1 a2 p2 n1 q1 q2 n2 q3 n3 q4 q5 q6 n4 q7 n5 q8 n6 q9 q10 cn cc cda
      simp only [Bool.and_eq_true, decide_eq_true_eq, Bool.not_eq_true', List.all_eq_true, decide_eq_false_iff_not] at q
      obtain ⟨⟨⟨⟨⟨⟨⟨⟨⟨⟨⟨⟨⟨⟨⟨⟨⟨⟨⟨⟨⟨⟨⟨b1, b2⟩, b3⟩, b4⟩, b5⟩, b6⟩, b7⟩, b8⟩, b9⟩, b10⟩, b11⟩, b12⟩, b13⟩, b14⟩, b15⟩, b16⟩, b17⟩, b18⟩, b19⟩, b20⟩, b21⟩, b22⟩, b23⟩, b24⟩ := q
      subst b1 b2 b3 b4 b5 b6 b7 b8 b9 b10 b11 b12
      split at b23
      · rename_i ccl cdd vs ccs hcda
        split at b23
        · rename_i file tf hvs
          split at b24
          · rename_i cl cld D csl hcell
            have hD : D = C := by simpa using b24
            subst hD
            exact ⟨_, _, _, _, _, _, _, _, _, _, _, _, _, _, _, _, _, _, _, _, _, _, _, _, _, _, _, _, _, _, _, _, _, ho, b13, b14, ⟨b15, b16, b17, b18, b19, b20, b21, b22⟩, hcda, hvs, b23, hcell⟩
          · cases b24
        · cases b23
      · cases b23
    · cases q
  · cases q
def errB (P : Program) (K : PySem.W.Frag) (x fld : Str) : Bool :=
  let C := He.ga K x
  let fI := He.ma K C "__init__"
  decide (PySem.W.nsIn K mainGlobals x = some (some (.ref C))) && clsB K C && decide (PySem.W.findIn K (.ref C) "__setattr__" = some (some (.builtin "object.__setattr__"))) && decide (PySem.W.findIn K (.ref C) "__getattribute__" = some (some (.builtin "BaseException.__getattribute__"))) &&
  decide (PySem.W.findIn K (.ref C) "__getattr__" = some none) && decide (PySem.W.findIn K (.ref C) fld = some none) && decide (PySem.W.findIn K (.ref C) "__init__" = some (some (.ref fI))) && decide (PySem.W.typeIn K (.ref fI) = some (.type "function")) && PySem.W.keepIn K (.ref C) &&
  decide (PySem.W.subIn K (.ref C) (.type "BaseException") = some true) && decide (PySem.W.typeIn K (.ref C) = some (.type "type")) && PySem.W.hasDictIn K C && decide (PySem.W.exmOne K (.ref C) (.ref C) = some true) && decide (PySem.W.subIn K (.ref C) (.type "ValueError") = some true) &&
  decide (PySem.W.mroIn K C (.ref C) = some true) && decide (PySem.W.ks_superIn K C C "__init__" = some (some (.builtin "ValueError.__init__"))) && decide (PySem.W.nsIn K cStatics "thirdparty.any" = some none) && decide (PySem.W.nsIn K mainGlobals "super" = some none) && initB P K C fI fld
theorem errB_ok {P : Program} {K : PySem.W.Frag} {h : Heap} {mg : Str → Option Value} {x fld : Str} (X : K.In h) (G : h.Ns mainGlobals mg) (q : errB P K x fld = true) (hf : fld = "name" ∨ fld = "place") (htop : (P.main.scope.names.lookup ("super" : Str)).isSome = false) : ErrTxt P K mg x fld (He.ga K x) (He.ma K (He.ga K x) "__init__") := by
  unfold errB at q
  simp only [Bool.and_eq_true, decide_eq_true_eq] at q
  obtain ⟨⟨⟨⟨⟨⟨⟨⟨⟨⟨⟨⟨⟨⟨⟨⟨⟨⟨a1, a2⟩, a3⟩, a4⟩, a5⟩, a6⟩, a7⟩, a8⟩, a9⟩, a10⟩, a11⟩, a12⟩, a13⟩, a14⟩, a15⟩, a16⟩, a17⟩, a18⟩, a19⟩ := q
  exact ⟨PySem.W.mg_of X G a1, clsB_ok a2, a3, a4, a5, a6, a7, a8, a9, a10, a11, a12, a13, a14, a15, a16, a17, a18, htop, hf, initB_ok a19⟩
/-- the program's own text: super is no name of the top -/
def superB (P : Program) : Bool := !(P.main.scope.names.lookup ("super" : Str)).isSome
/-! ### a Hook whose part holds the statics too -/
def frY (g : Addr → Option Obj) (n : Nat) : PySem.W.Frag := He.frT g (cStatics :: He.asD g n)
def obsY (n : Nat) (fa : List He.Fa) (fn : List He.DefD) (ts : List He.Tab) (tf : List He.Defn) (ex : PySem.W.Frag → Bool) (g : Addr → Option Obj) : He.AlX := (He.obsT fa fn ts (frY g n), ex (frY g n) && He.tabsB g tf (frY g n))
theorem saysY_of {n : Nat} {fa : List He.Fa} {fn : List He.DefD} {ts : List He.Tab} {tf : List He.Defn} {ex : PySem.W.Frag → Bool} {w : World} {h : Heap} (e : obsY n fa fn ts tf ex h.get? = He.valX fn ts w) : He.SaysX fa fn ts tf ex w h (frY h.get? n) := by
  have hb : (ex (frY h.get? n) && He.tabsB h.get? tf (frY h.get? n)) = true := congrArg Prod.snd e
  obtain ⟨b1, b2⟩ := He.ba hb
  have each : ∀ p ∈ tf, PySem.W.codeHdIn (frY h.get? n) (He.cT (frY h.get? n) p).1 (He.cT (frY h.get? n) p).2 = true ∧ ∃ o, h.get? (He.cT (frY h.get? n) p).2 = some o ∧ He.emptyTab o = true := fun p hp => by
    obtain ⟨c1, c2⟩ := He.ba (List.all_eq_true.mp b2 p hp)
    refine ⟨c1, ?_⟩
    split at c2
    · rename_i o q
      exact ⟨o, q, c2⟩
    · cases c2
  refine ⟨congrArg Prod.fst e, b1, fun p hp => (each p hp).1, fun p hp => ?_, fun p hp => ?_⟩
  · obtain ⟨_, o, q, z⟩ := each p hp
    exact He.frT_none q z
  · obtain ⟨_, o, q, z⟩ := each p hp
    rw [q, He.emptyTab_eq z]
def hookY (n : Nat) (fa : List He.Fa) (fn : List He.DefD) (ts : List He.Tab) (tf : List He.Defn) (ex : PySem.W.Frag → Bool) : PySem.W.Hook where
  α := He.AlX
  obs := fun s => obsY n fa fn ts tf ex s.heap.get?
  val := fun w => He.valX fn ts w
  says := fun w h => ∃ K : PySem.W.Frag, K.In h ∧ He.SaysX fa fn ts tf ex w h K
  of := fun _ _ e => ⟨_, He.frT_in, saysY_of e⟩
  keeps := fun _ _ _ ⟨K, hK, c⟩ k => ⟨K, PySem.W.Frag.In.keeps hK k, ⟨c.t, c.more, c.hd, c.out, fun p hp => k _ _ (c.empty p hp)⟩⟩
theorem obsY_eq {n : Nat} {fa : List He.Fa} {fn : List He.DefD} {ts : List He.Tab} {tf : List He.Defn} {ex : PySem.W.Frag → Bool} {g : Addr → Option Obj} {s : Shared} (h : ∀ a, g a = s.heap.get? a) : obsY n fa fn ts tf ex g = (hookY n fa fn ts tf ex).obs s := by
  have e : g = s.heap.get? := funext h
  rw [e] <;> rfl
/-! ### defs by their places -/
section
variable {K : PySem.W.Frag} {mg : Str → Option Value} {h : Heap}
def dOf (top : Nat → Stmt) (p : Str × Nat) : He.DefD := ⟨(p.1, none), p.1, p.1, defArgs (top p.2), defBody (top p.2), defScope (top p.2), [], []⟩
theorem fun_of {x qual : Str} {st : Stmt} {f : Addr} {fd : FuncData} (F : FunD K x qual (defArgs st) (defBody st) (defScope st) [] [] f fd) : Fun K x qual st f fd := by
  obtain ⟨oc, od, dV, kV, doc, pm, an, cdv, ct, osl, e, lk, hc, hd, _⟩ := F.ex
  have hdV : dV = .none := by
    rcases hd with ⟨_, e⟩ | ⟨z, _⟩
    · exact e
    · exact absurd rfl z
  subst hdV
  exact ⟨⟨oc, od, kV, doc, pm, an, cdv, ct, osl, e, lk, hc⟩, F.kp⟩
theorem st0_of {top : Nat → Stmt} {fa : List He.Fa} {fn : List He.DefD} (c : He.SaysD fa fn K) (X : K.In h) (G : h.Ns mainGlobals mg) (p : Str × Nat) (i j : Nat) (h1 : fn[i]? = some (dOf top p)) (h2 : fa[j]? = some (He.Fa.glo p.1)) : St0 K mg p.1 (top p.2) := by
  obtain ⟨fd, F⟩ := c.def_ i h1
  exact ⟨_, fd, He.glo_ok X G (c.fact j h2), fun_of F⟩
theorem st0C_of {top : Nat → Stmt} {fa : List He.Fa} {fn : List He.DefD} (c : He.SaysD fa fn K) (X : K.In h) (G : h.Ns mainGlobals mg) (p : Str × Nat) (i j : Nat) (h1 : fn[i]? = some (dOf top p)) (h2 : fa[j]? = some (He.Fa.glo p.1)) : St0C K mg p.1 (top p.2) (He.cT K (p.1, none)).1 := by
  obtain ⟨fd, F⟩ := c.def_ i h1
  have F' := fun_of F
  refine ⟨_, fd, He.glo_ok X G (c.fact j h2), F', ?_⟩
  obtain ⟨oc, od, kV, doc, pm, an, cdv, ct, osl, e, lk, hc⟩ := F'.ex
  obtain ⟨cc, ec⟩ := He.codeIn_ref hc
  subst ec
  have e1 : fd.code = .ref cc := by rw [e]
  rw [e1]
  exact congrArg Value.ref (He.codeOf_eq (p := (p.1, none)) lk e1).symm
end
/-! ### the end -/
def startF (H : Hp) : Hp := fun b => match H b with
  | some (.tbl _) => none
  | o => o
theorem startF_le (H : Hp) : Le (startF H) H := fun a o e => by
  unfold startF at e
  split at e
  · cases e
  · exact e
theorem law_sp {K : PySem.W.Frag} {W : Wd} {g : GF} {H : Hp} {a : Addr} {ns : List Int} (tabs : LamX.Tabs W.T H) (hS : SqL K H a (ns.map V.int)) (hg : ∃ μ', g [.d (.scr ns)] [] = some (.ok (.d (.bl true)) μ')) : spG K W 1 g [.ref a] H (fun v _ => v = .bl true) (fun _ _ _ => False) := by
  obtain ⟨μ', hg⟩ := hg
  refine ⟨rfl, startF H, [], [], [.d (.scr ns)], _, ⟨startF_le H, fun b ps e => ?_, tabs, List.nodup_nil, rfl, (by simp), (by simp)⟩, .cons (show Den K (startF H) (.ref a) (.scr ns) from .scr ?_) .nil, hg, fun v F' H' _ _ hd => ?_⟩
  · unfold startF at e
    split at e
    · cases e
    · rename_i hn
      exact hn ps e
  · have up : ∀ o, H a = some o → (∀ ps, o ≠ .tbl ps) → startF H a = some o := fun o e n => by
      unfold startF
      split
      · rename_i ps e2
        rw [e] at e2
        exact absurd (Option.some.inj e2) (n ps)
      · exact e
    rcases hS with (h | ⟨o, h⟩) | h
    · exact .inl (.inl (up _ h (fun ps z => by cases z)))
    · exact .inl (.inr ⟨o, up _ h (fun ps z => by cases z)⟩)
    · exact .inr h
  · cases hd; rfl
theorem noCX {P : Program} {w : World} {outer : List Env} {H : Hp} {s : Shared} {e : Value} {s' : Shared} (h : L2.CX P w outer H s (fun _ _ _ => False) e s') : False := by
  obtain ⟨_, _, _, _, _, _, _, _, _, _, _, _, z⟩ := h
  exact z
theorem fun_uniq {K : PySem.W.Frag} {x q : Str} {st : Stmt} {f : Addr} {fd fd' : FuncData} (a : Fun K x q st f fd) (b : Fun K x q st f fd') : fd = fd' := by
  obtain ⟨_, _, _, _, _, _, _, _, _, _, l1, _⟩ := a.ex
  obtain ⟨_, _, _, _, _, _, _, _, _, _, l2, _⟩ := b.ex
  rw [l1] at l2
  cases l2
  rfl
end DL
end

section
set_option Elab.async false
set_option linter.all false
set_option maxRecDepth 100000
set_option maxHeartbeats 4000000
namespace K03
open PySem PySem.Spec PyProof.Rows L2 DL
def topS (i : Nat) : Stmt := PySem.Challenge.pw_surebag_k03_whole_holes_and_bins.main.body.getD i (.Pass ⟨0, 0, 0, 0⟩)
structure Nm (K : PySem.W.Frag) (mg : Str → Option Value) (W : Wd) : Prop where
  abs : mg "abs" = none
  all : mg "all" = none
  any : mg "any" = none
  bool : mg "bool" = none
  int : mg "int" = none
  isinstance : mg "isinstance" = none
  len : mg "len" = none
  list : mg "list" = none
  max : mg "max" = none
  min : mg "min" = none
  range : mg "range" = none
  set : mg "set" = none
  sorted : mg "sorted" = none
  sum : mg "sum" = none
  super : mg "super" = none
  tuple : mg "tuple" = none
  zip : mg "zip" = none
  MOST_KINDS : ∃ t, mg "MOST_KINDS" = some (.int (6) t)
  SLOTS : ∃ t, mg "SLOTS" = some (.int (8) t)
  MOST_COINS : ∃ t, mg "MOST_COINS" = some (.int (1800) t)
  MOST_WIDTH : ∃ t, mg "MOST_WIDTH" = some (.int (1000) t)
  MOST_HOLES : ∃ t, mg "MOST_HOLES" = some (.int (7) t)
  MOST_BIN : ∃ t, mg "MOST_BIN" = some (.int (20000) t)
section
variable {P : Program} {w : World} {K : PySem.W.Frag} {mg : Str → Option Value} {base : Heap} {W : Wd}
/-! ### is_in -/
abbrev st_is_in : Stmt := topS 7
abbrev N_is_in : List Str := ["value", "low", "high"]
theorem sc_is_in : FnScope N_is_in ["value", "low", "high"] (defScope st_is_in) := ⟨rfl, rfl, rfl, by decide +kernel, rfl, by decide +kernel, by decide +kernel⟩
theorem bi_is_in (kV doc pm : Value) (an : Option Addr) (cdv ct : Value) (us : List Value) (hl : us.length = 3) : bindArgs (PySem.W.fnOf "is_in" "is_in" (defArgs st_is_in) (defBody st_is_in) (defScope st_is_in) .none kV doc pm an cdv ct) ⟨us, []⟩ = pure ((["value", "low", "high"] : List Str).zip us) :=
  match us, hl with | [_, _, _], _ => rfl
def fb_is_in : SF := sRet (eAnd (eIsi "int" (eV 0)) (eAnd (eNot (eIsi "bool" (eV 0))) (eChain gLe gLe (eV 1) (eV 0) (eV 2))))
def g_is_in : GF := fun ss μ => if ss.length = 3 then fin μ.length (fb_is_in (startS 3 ss) μ) else none
theorem ok_is_in (T : Nm K mg W)  (h : St0 K mg "is_in" st_is_in) : Cal P w K mg base W 1 "is_in" st_is_in ["value", "low", "high"] g_is_in := by
  obtain ⟨f, fd, hm, hF⟩ := h.ex
  refine ⟨f, fd, hm, hF, fn_keeps (N := N_is_in) (fb := fb_is_in) hF sc_is_in (fun cdv A outer s H E hr => ?_) (fun ss μ r hl hg => by have hl : ss.length = 3 := hl; unfold g_is_in at hg; rw [if_pos hl] at hg; exact hg)⟩
  have hu65 := hr.u65
  exact qs_one (by exact qs_ret (by exact q_and (by exact q_isi T.isinstance T.int (by decide +kernel) (by exact q_v 0) (cn := "int")) (by exact q_and (by exact q_not (by exact q_isi T.isinstance T.bool (by decide +kernel) (by exact q_v 0) (cn := "bool"))) (by exact q_one (by exact q_chain op_le o2_le op_le o2_le (by exact q_v 1) (by exact q_v 0) (by exact q_v 2))))))

/-! ### are_in -/
abbrev st_are_in : Stmt := topS 8
abbrev N_are_in : List Str := ["value", "least", "most", "low", "high", "part"]
theorem sc_are_in : FnScope N_are_in ["value", "least", "most", "low", "high"] (defScope st_are_in) := ⟨rfl, rfl, rfl, by decide +kernel, rfl, by decide +kernel, by decide +kernel⟩
theorem bi_are_in (kV doc pm : Value) (an : Option Addr) (cdv ct : Value) (us : List Value) (hl : us.length = 5) : bindArgs (PySem.W.fnOf "are_in" "are_in" (defArgs st_are_in) (defBody st_are_in) (defScope st_are_in) .none kV doc pm an cdv ct) ⟨us, []⟩ = pure ((["value", "least", "most", "low", "high"] : List Str).zip us) :=
  match us, hl with | [_, _, _, _, _], _ => rfl
def fb_are_in : SF := sRet (eAnd (eIsi "tuple" (eV 0)) (eAnd (eChain gLe gLe (eV 1) (eB (gLen) (aCons (eV 0) aNil)) (eV 2)) (eB (gOnBls fun bs => bs.all id) (aCons (eLc false [5] (iSeq (eV 0)) (hName 5) bYes (eCall 3 g_is_in (aCons (eV 5) (aCons (eV 3) (aCons (eV 4) aNil))))) aNil))))
def g_are_in : GF := fun ss μ => if ss.length = 5 then fin μ.length (fb_are_in (startS 6 ss) μ) else none
theorem ok_are_in (T : Nm K mg W) (C_is_in : Cal P w K mg base W 1 "is_in" st_is_in ["value", "low", "high"] g_is_in) (h : St0 K mg "are_in" st_are_in) : Cal P w K mg base W 2 "are_in" st_are_in ["value", "least", "most", "low", "high"] g_are_in := by
  obtain ⟨f, fd, hm, hF⟩ := h.ex
  refine ⟨f, fd, hm, hF, fn_keeps (N := N_are_in) (fb := fb_are_in) hF sc_are_in (fun cdv A outer s H E hr => ?_) (fun ss μ r hl hg => by have hl : ss.length = 5 := hl; unfold g_are_in at hg; rw [if_pos hl] at hg; exact hg)⟩
  have hu65 := hr.u65
  exact qs_one (by exact qs_ret (by exact q_and (by exact q_isi T.isinstance T.tuple (by decide +kernel) (by exact q_v 0) (cn := "tuple")) (by exact q_and (by exact q_chain op_le o2_le op_le o2_le (by exact q_v 1) (by exact q_bi c_len k_len T.len (by decide +kernel) (by exact qa_cons (by exact q_v 0) qa_nil)) (by exact q_v 2)) (by exact q_one (by exact q_bi (cr_all rfl) k_all T.all (by decide +kernel) (by exact qa_cons (by exact q_lc (mk := false) (own := [("part", 5)]) rfl sc_are_in.nd (blkOk_by (own := [("part", 5)]) (N := N_are_in) (sc := defScope st_are_in) (by decide +kernel)) (by exact q_iseq (by exact q_v 0)) (fun _ _ _ _ _ => by exact q_tname sc_are_in.nd (i := 5)) (fun _ _ _ _ _ => by exact qts_nil) (fun _ _ _ _ _ => by exact q_call (ps := ["value", "low", "high"]) C_is_in (hr.mono (by decide)) passL (by exact qa_cons (by exact q_v 5) (by exact qa_cons (by exact q_v 3) (by exact qa_cons (by exact q_v 4) qa_nil))) bi_is_in)) qa_nil))))))

/-! ### is_ascending -/
abbrev st_is_ascending : Stmt := topS 9
abbrev N_is_ascending : List Str := ["values", "one", "two"]
theorem sc_is_ascending : FnScope N_is_ascending ["values"] (defScope st_is_ascending) := ⟨rfl, rfl, rfl, by decide +kernel, rfl, by decide +kernel, by decide +kernel⟩
theorem bi_is_ascending (kV doc pm : Value) (an : Option Addr) (cdv ct : Value) (us : List Value) (hl : us.length = 1) : bindArgs (PySem.W.fnOf "is_ascending" "is_ascending" (defArgs st_is_ascending) (defBody st_is_ascending) (defScope st_is_ascending) .none kV doc pm an cdv ct) ⟨us, []⟩ = pure ((["values"] : List Str).zip us) :=
  match us, hl with | [_], _ => rfl
def fb_is_ascending : SF := sRet (eB (gOnBls fun bs => bs.all id) (aCons (eLc false [1, 2] (iZip2 (aCons (eV 0) (aCons (eCut false (eV 0) (some (eC (.int 1))) none) aNil))) (hTup 2 (hsCons (hName 1) (hsCons (hName 2) hsNil))) bYes (e2 gLt (eV 1) (eV 2))) aNil))
def g_is_ascending : GF := fun ss μ => if ss.length = 1 then fin μ.length (fb_is_ascending (startS 3 ss) μ) else none
theorem ok_is_ascending (T : Nm K mg W)  (h : St0 K mg "is_ascending" st_is_ascending) : Cal P w K mg base W 1 "is_ascending" st_is_ascending ["values"] g_is_ascending := by
  obtain ⟨f, fd, hm, hF⟩ := h.ex
  refine ⟨f, fd, hm, hF, fn_keeps (N := N_is_ascending) (fb := fb_is_ascending) hF sc_is_ascending (fun cdv A outer s H E hr => ?_) (fun ss μ r hl hg => by have hl : ss.length = 1 := hl; unfold g_is_ascending at hg; rw [if_pos hl] at hg; exact hg)⟩
  have hu65 := hr.u65
  exact qs_one (by exact qs_ret (by exact q_bi (cr_all rfl) k_all T.all (by decide +kernel) (by exact qa_cons (by exact q_lc (mk := false) (own := [("one", 1), ("two", 2)]) rfl sc_is_ascending.nd (blkOk_by (own := [("one", 1), ("two", 2)]) (N := N_is_ascending) (sc := defScope st_is_ascending) (by decide +kernel)) (by exact q_izip2 T.zip (by exact qa_cons (by exact q_v 0) (by exact qa_cons (by exact q_cut (mk := false) (by exact q_v 0) (by exact qp_some q_int) qp_none) qa_nil))) (fun _ _ _ _ _ => by exact q_ttup rfl (by exact q_tcons (by exact q_tname sc_is_ascending.nd (i := 1)) (by exact q_tcons (by exact q_tname sc_is_ascending.nd (i := 2)) q_tnil)) (n := 2)) (fun _ _ _ _ _ => by exact qts_nil) (fun _ _ _ _ _ => by exact q_cmp op_lt o2_lt (by exact q_v 1) (by exact q_v 2) (nomark _))) qa_nil)))

/-! ### demand -/
abbrev st_demand : Stmt := topS 10
abbrev N_demand : List Str := ["is_good", "name"]
theorem sc_demand : FnScope N_demand ["is_good", "name"] (defScope st_demand) := ⟨rfl, rfl, rfl, by decide +kernel, rfl, by decide +kernel, by decide +kernel⟩
theorem bi_demand (kV doc pm : Value) (an : Option Addr) (cdv ct : Value) (us : List Value) (hl : us.length = 2) : bindArgs (PySem.W.fnOf "demand" "demand" (defArgs st_demand) (defBody st_demand) (defScope st_demand) .none kV doc pm an cdv ct) ⟨us, []⟩ = pure ((["is_good", "name"] : List Str).zip us) :=
  match us, hl with | [_, _], _ => rfl
def fb_demand : SF := sIf (bNot (tst (eV 0))) (sRaise Ex.arg (eV 1)) sNx
def g_demand : GF := fun ss μ => if ss.length = 2 then fin μ.length (fb_demand (startS 2 ss) μ) else none
theorem ok_demand (T : Nm K mg W) {fA : Addr} (TA : ErrTxt P K mg "BadArgument" "name" W.CA fA)  (h : St0 K mg "demand" st_demand) : Cal P w K mg base W 1 "demand" st_demand ["is_good", "name"] g_demand := by
  obtain ⟨f, fd, hm, hF⟩ := h.ex
  refine ⟨f, fd, hm, hF, fn_keeps (N := N_demand) (fb := fb_demand) hF sc_demand (fun cdv A outer s H E hr => ?_) (fun ss μ r hl hg => by have hl : ss.length = 2 := hl; unfold g_demand at hg; rw [if_pos hl] at hg; exact hg)⟩
  have hu65 := hr.u65
  exact qs_one (by exact qs_if (by exact qt_not (by exact qt_val (by exact q_v 0))) (by exact qs_one (by exact qs_raiseA TA T.super rfl hr (takes_of rfl rfl rfl rfl) (by exact q_v 1))) qs_nil)

/-! ### are_slots -/
abbrev st_are_slots : Stmt := topS 11
abbrev N_are_slots : List Str := ["value", "least"]
theorem sc_are_slots : FnScope N_are_slots ["value", "least"] (defScope st_are_slots) := ⟨rfl, rfl, rfl, by decide +kernel, rfl, by decide +kernel, by decide +kernel⟩
theorem bi_are_slots (kV doc pm : Value) (an : Option Addr) (cdv ct : Value) (us : List Value) (hl : us.length = 2) : bindArgs (PySem.W.fnOf "are_slots" "are_slots" (defArgs st_are_slots) (defBody st_are_slots) (defScope st_are_slots) .none kV doc pm an cdv ct) ⟨us, []⟩ = pure ((["value", "least"] : List Str).zip us) :=
  match us, hl with | [_, _], _ => rfl
def fb_are_slots : SF := sRet (eAnd (eCall 5 g_are_in (aCons (eV 0) (aCons (eV 1) (aCons (eC (.int (8))) (aCons (eC (.int 0)) (aCons (e2 (gSub) (eC (.int (8))) (eC (.int 1))) aNil)))))) (eCall 1 g_is_ascending (aCons (eV 0) aNil)))
def g_are_slots : GF := fun ss μ => if ss.length = 2 then fin μ.length (fb_are_slots (startS 2 ss) μ) else none
theorem ok_are_slots (T : Nm K mg W) (C_are_in : Cal P w K mg base W 2 "are_in" st_are_in ["value", "least", "most", "low", "high"] g_are_in) (C_is_ascending : Cal P w K mg base W 1 "is_ascending" st_is_ascending ["values"] g_is_ascending) (h : St0 K mg "are_slots" st_are_slots) : Cal P w K mg base W 3 "are_slots" st_are_slots ["value", "least"] g_are_slots := by
  obtain ⟨f, fd, hm, hF⟩ := h.ex
  refine ⟨f, fd, hm, hF, fn_keeps (N := N_are_slots) (fb := fb_are_slots) hF sc_are_slots (fun cdv A outer s H E hr => ?_) (fun ss μ r hl hg => by have hl : ss.length = 2 := hl; unfold g_are_slots at hg; rw [if_pos hl] at hg; exact hg)⟩
  have hu65 := hr.u65
  exact qs_one (by exact qs_ret (by exact q_and (by exact q_call (ps := ["value", "least", "most", "low", "high"]) C_are_in (hr.mono (by decide)) (passes_call (takes_of rfl rfl rfl rfl) fun _ _ _ _ h => h) (by exact qa_cons (by exact q_v 0) (by exact qa_cons (by exact q_v 1) (by exact qa_cons (by exact q_gint T.SLOTS) (by exact qa_cons q_int (by exact qa_cons (by exact q_op op_sub o2_sub (by exact q_gint T.SLOTS) q_int) qa_nil))))) bi_are_in) (by exact q_one (by exact q_call (ps := ["values"]) C_is_ascending (hr.mono (by decide)) (passes_call (takes_of rfl rfl rfl rfl) fun _ _ _ _ h => h) (by exact qa_cons (by exact q_v 0) qa_nil) bi_is_ascending))))

/-! ### is_machine -/
abbrev st_is_machine : Stmt := topS 12
abbrev N_is_machine : List Str := ["value", "slots"]
theorem sc_is_machine : FnScope N_is_machine ["value"] (defScope st_is_machine) := ⟨rfl, rfl, rfl, by decide +kernel, rfl, by decide +kernel, by decide +kernel⟩
theorem bi_is_machine (kV doc pm : Value) (an : Option Addr) (cdv ct : Value) (us : List Value) (hl : us.length = 1) : bindArgs (PySem.W.fnOf "is_machine" "is_machine" (defArgs st_is_machine) (defBody st_is_machine) (defScope st_is_machine) .none kV doc pm an cdv ct) ⟨us, []⟩ = pure ((["value"] : List Str).zip us) :=
  match us, hl with | [_], _ => rfl
def fb_is_machine : SF := sRet (eAnd (eIsi "tuple" (eV 0)) (eAnd (eChain gLe gLe (eC (.int 1)) (eB (gLen) (aCons (eV 0) aNil)) (eC (.int (6)))) (eB (gOnBls fun bs => bs.all id) (aCons (eLc false [1] (iSeq (eV 0)) (hName 1) bYes (eCall 2 g_are_slots (aCons (eV 1) (aCons (eC (.int 1)) aNil)))) aNil))))
def g_is_machine : GF := fun ss μ => if ss.length = 1 then fin μ.length (fb_is_machine (startS 2 ss) μ) else none
theorem ok_is_machine (T : Nm K mg W) (C_are_slots : Cal P w K mg base W 3 "are_slots" st_are_slots ["value", "least"] g_are_slots) (h : St0 K mg "is_machine" st_is_machine) : Cal P w K mg base W 4 "is_machine" st_is_machine ["value"] g_is_machine := by
  obtain ⟨f, fd, hm, hF⟩ := h.ex
  refine ⟨f, fd, hm, hF, fn_keeps (N := N_is_machine) (fb := fb_is_machine) hF sc_is_machine (fun cdv A outer s H E hr => ?_) (fun ss μ r hl hg => by have hl : ss.length = 1 := hl; unfold g_is_machine at hg; rw [if_pos hl] at hg; exact hg)⟩
  have hu65 := hr.u65
  exact qs_one (by exact qs_ret (by exact q_and (by exact q_isi T.isinstance T.tuple (by decide +kernel) (by exact q_v 0) (cn := "tuple")) (by exact q_and (by exact q_chain op_le o2_le op_le o2_le q_int (by exact q_bi c_len k_len T.len (by decide +kernel) (by exact qa_cons (by exact q_v 0) qa_nil)) (by exact q_gint T.MOST_KINDS)) (by exact q_one (by exact q_bi (cr_all rfl) k_all T.all (by decide +kernel) (by exact qa_cons (by exact q_lc (mk := false) (own := [("slots", 1)]) rfl sc_is_machine.nd (blkOk_by (own := [("slots", 1)]) (N := N_is_machine) (sc := defScope st_is_machine) (by decide +kernel)) (by exact q_iseq (by exact q_v 0)) (fun _ _ _ _ _ => by exact q_tname sc_is_machine.nd (i := 1)) (fun _ _ _ _ _ => by exact qts_nil) (fun _ _ _ _ _ => by exact q_call (ps := ["value", "least"]) C_are_slots (hr.mono (by decide)) passL (by exact qa_cons (by exact q_v 1) (by exact qa_cons q_int qa_nil)) bi_are_slots)) qa_nil))))))

/-! ### is_bag -/
abbrev st_is_bag : Stmt := topS 13
abbrev N_is_bag : List Str := ["machine", "value"]
theorem sc_is_bag : FnScope N_is_bag ["machine", "value"] (defScope st_is_bag) := ⟨rfl, rfl, rfl, by decide +kernel, rfl, by decide +kernel, by decide +kernel⟩
theorem bi_is_bag (kV doc pm : Value) (an : Option Addr) (cdv ct : Value) (us : List Value) (hl : us.length = 2) : bindArgs (PySem.W.fnOf "is_bag" "is_bag" (defArgs st_is_bag) (defBody st_is_bag) (defScope st_is_bag) .none kV doc pm an cdv ct) ⟨us, []⟩ = pure ((["machine", "value"] : List Str).zip us) :=
  match us, hl with | [_, _], _ => rfl
def fb_is_bag : SF := sRet (eCall 5 g_are_in (aCons (eV 1) (aCons (eB (gLen) (aCons (eV 0) aNil)) (aCons (eB (gLen) (aCons (eV 0) aNil)) (aCons (eC (.int 0)) (aCons (eC (.int (1800))) aNil))))))
def g_is_bag : GF := fun ss μ => if ss.length = 2 then fin μ.length (fb_is_bag (startS 2 ss) μ) else none
theorem ok_is_bag (T : Nm K mg W) (C_are_in : Cal P w K mg base W 2 "are_in" st_are_in ["value", "least", "most", "low", "high"] g_are_in) (h : St0 K mg "is_bag" st_is_bag) : Cal P w K mg base W 3 "is_bag" st_is_bag ["machine", "value"] g_is_bag := by
  obtain ⟨f, fd, hm, hF⟩ := h.ex
  refine ⟨f, fd, hm, hF, fn_keeps (N := N_is_bag) (fb := fb_is_bag) hF sc_is_bag (fun cdv A outer s H E hr => ?_) (fun ss μ r hl hg => by have hl : ss.length = 2 := hl; unfold g_is_bag at hg; rw [if_pos hl] at hg; exact hg)⟩
  have hu65 := hr.u65
  exact qs_one (by exact qs_ret (by exact q_call (ps := ["value", "least", "most", "low", "high"]) C_are_in (hr.mono (by decide)) (passes_call (takes_of rfl rfl rfl rfl) fun _ _ _ _ h => h) (by exact qa_cons (by exact q_v 1) (by exact qa_cons (by exact q_bi c_len k_len T.len (by decide +kernel) (by exact qa_cons (by exact q_v 0) qa_nil)) (by exact qa_cons (by exact q_bi c_len k_len T.len (by decide +kernel) (by exact qa_cons (by exact q_v 0) qa_nil)) (by exact qa_cons q_int (by exact qa_cons (by exact q_gint T.MOST_COINS) qa_nil))))) bi_are_in))

/-! ### are_widths -/
abbrev st_are_widths : Stmt := topS 18
abbrev N_are_widths : List Str := ["value"]
theorem sc_are_widths : FnScope N_are_widths ["value"] (defScope st_are_widths) := ⟨rfl, rfl, rfl, by decide +kernel, rfl, by decide +kernel, by decide +kernel⟩
theorem bi_are_widths (kV doc pm : Value) (an : Option Addr) (cdv ct : Value) (us : List Value) (hl : us.length = 1) : bindArgs (PySem.W.fnOf "are_widths" "are_widths" (defArgs st_are_widths) (defBody st_are_widths) (defScope st_are_widths) .none kV doc pm an cdv ct) ⟨us, []⟩ = pure ((["value"] : List Str).zip us) :=
  match us, hl with | [_], _ => rfl
def fb_are_widths : SF := sRet (eAnd (eCall 5 g_are_in (aCons (eV 0) (aCons (eC (.int 1)) (aCons (eC (.int (7))) (aCons (eC (.int 1)) (aCons (eC (.int (1000))) aNil)))))) (eCall 1 g_is_ascending (aCons (eV 0) aNil)))
def g_are_widths : GF := fun ss μ => if ss.length = 1 then fin μ.length (fb_are_widths (startS 1 ss) μ) else none
theorem ok_are_widths (T : Nm K mg W) (C_are_in : Cal P w K mg base W 2 "are_in" st_are_in ["value", "least", "most", "low", "high"] g_are_in) (C_is_ascending : Cal P w K mg base W 1 "is_ascending" st_is_ascending ["values"] g_is_ascending) (h : St0 K mg "are_widths" st_are_widths) : Cal P w K mg base W 3 "are_widths" st_are_widths ["value"] g_are_widths := by
  obtain ⟨f, fd, hm, hF⟩ := h.ex
  refine ⟨f, fd, hm, hF, fn_keeps (N := N_are_widths) (fb := fb_are_widths) hF sc_are_widths (fun cdv A outer s H E hr => ?_) (fun ss μ r hl hg => by have hl : ss.length = 1 := hl; unfold g_are_widths at hg; rw [if_pos hl] at hg; exact hg)⟩
  have hu65 := hr.u65
  exact qs_one (by exact qs_ret (by exact q_and (by exact q_call (ps := ["value", "least", "most", "low", "high"]) C_are_in (hr.mono (by decide)) (passes_call (takes_of rfl rfl rfl rfl) fun _ _ _ _ h => h) (by exact qa_cons (by exact q_v 0) (by exact qa_cons q_int (by exact qa_cons (by exact q_gint T.MOST_HOLES) (by exact qa_cons q_int (by exact qa_cons (by exact q_gint T.MOST_WIDTH) qa_nil))))) bi_are_in) (by exact q_one (by exact q_call (ps := ["values"]) C_is_ascending (hr.mono (by decide)) (passes_call (takes_of rfl rfl rfl rfl) fun _ _ _ _ h => h) (by exact qa_cons (by exact q_v 0) qa_nil) bi_is_ascending))))

/-! ### is_size -/
abbrev st_is_size : Stmt := topS 19
abbrev N_is_size : List Str := ["value"]
theorem sc_is_size : FnScope N_is_size ["value"] (defScope st_is_size) := ⟨rfl, rfl, rfl, by decide +kernel, rfl, by decide +kernel, by decide +kernel⟩
theorem bi_is_size (kV doc pm : Value) (an : Option Addr) (cdv ct : Value) (us : List Value) (hl : us.length = 1) : bindArgs (PySem.W.fnOf "is_size" "is_size" (defArgs st_is_size) (defBody st_is_size) (defScope st_is_size) .none kV doc pm an cdv ct) ⟨us, []⟩ = pure ((["value"] : List Str).zip us) :=
  match us, hl with | [_], _ => rfl
def fb_is_size : SF := sSeq (sIf (bOr (bNot (tst (eIsi "tuple" (eV 0)))) (bOr (tst (e2 gNe (eB (gLen) (aCons (eV 0) aNil)) (eC (.int 2)))) (bNot (tst (eCall 3 g_is_in (aCons (e2 gIx (eV 0) (eC (.int 0))) (aCons (eC (.int 1)) (aCons (eC (.int (1000))) aNil)))))))) (sRet (eC (.bl false))) sNx) (sRet (eCall 3 g_is_in (aCons (e2 gIx (eV 0) (eC (.int 1))) (aCons (e2 gIx (eV 0) (eC (.int 0))) (aCons (eC (.int (1000))) aNil)))))
def g_is_size : GF := fun ss μ => if ss.length = 1 then fin μ.length (fb_is_size (startS 1 ss) μ) else none
theorem ok_is_size (T : Nm K mg W) (C_is_in : Cal P w K mg base W 1 "is_in" st_is_in ["value", "low", "high"] g_is_in) (h : St0 K mg "is_size" st_is_size) : Cal P w K mg base W 2 "is_size" st_is_size ["value"] g_is_size := by
  obtain ⟨f, fd, hm, hF⟩ := h.ex
  refine ⟨f, fd, hm, hF, fn_keeps (N := N_is_size) (fb := fb_is_size) hF sc_is_size (fun cdv A outer s H E hr => ?_) (fun ss μ r hl hg => by have hl : ss.length = 1 := hl; unfold g_is_size at hg; rw [if_pos hl] at hg; exact hg)⟩
  have hu65 := hr.u65
  exact qs_cons (by exact qs_if (by exact PW.pt (by exact qw_or (by exact qt_not (by exact qt_val (by exact q_isi T.isinstance T.tuple (by decide +kernel) (by exact q_v 0) (cn := "tuple")))) (by exact qw_or (by exact qt_cmp (op_neD hr.units) o2_ne (by exact q_bi c_len k_len T.len (by decide +kernel) (by exact qa_cons (by exact q_v 0) qa_nil)) q_int (nomark _)) (by exact qw_or1 (by exact qt_not (by exact qt_val (by exact q_call (ps := ["value", "low", "high"]) C_is_in (hr.mono (by decide)) (passes_call (takes_of rfl rfl rfl rfl) fun _ _ _ _ h => h) (by exact qa_cons (by exact q_ix (by exact q_v 0) q_int) (by exact qa_cons q_int (by exact qa_cons (by exact q_gint T.MOST_WIDTH) qa_nil))) bi_is_in))))))) (by exact qs_one (by exact qs_ret q_bl)) qs_nil) (by exact qs_one (by exact qs_ret (by exact q_call (ps := ["value", "low", "high"]) C_is_in (hr.mono (by decide)) (passes_call (takes_of rfl rfl rfl rfl) fun _ _ _ _ h => h) (by exact qa_cons (by exact q_ix (by exact q_v 0) q_int) (by exact qa_cons (by exact q_ix (by exact q_v 0) q_int) (by exact qa_cons (by exact q_gint T.MOST_WIDTH) qa_nil))) bi_is_in)))

/-! ### are_sizes -/
abbrev st_are_sizes : Stmt := topS 20
abbrev N_are_sizes : List Str := ["value", "size"]
theorem sc_are_sizes : FnScope N_are_sizes ["value"] (defScope st_are_sizes) := ⟨rfl, rfl, rfl, by decide +kernel, rfl, by decide +kernel, by decide +kernel⟩
theorem bi_are_sizes (kV doc pm : Value) (an : Option Addr) (cdv ct : Value) (us : List Value) (hl : us.length = 1) : bindArgs (PySem.W.fnOf "are_sizes" "are_sizes" (defArgs st_are_sizes) (defBody st_are_sizes) (defScope st_are_sizes) .none kV doc pm an cdv ct) ⟨us, []⟩ = pure ((["value"] : List Str).zip us) :=
  match us, hl with | [_], _ => rfl
def fb_are_sizes : SF := sRet (eAnd (eIsi "tuple" (eV 0)) (eAnd (eChain gLe gLe (eC (.int 1)) (eB (gLen) (aCons (eV 0) aNil)) (eC (.int (6)))) (eB (gOnBls fun bs => bs.all id) (aCons (eLc false [1] (iSeq (eV 0)) (hName 1) bYes (eCall 1 g_is_size (aCons (eV 1) aNil))) aNil))))
def g_are_sizes : GF := fun ss μ => if ss.length = 1 then fin μ.length (fb_are_sizes (startS 2 ss) μ) else none
theorem ok_are_sizes (T : Nm K mg W) (C_is_size : Cal P w K mg base W 2 "is_size" st_is_size ["value"] g_is_size) (h : St0 K mg "are_sizes" st_are_sizes) : Cal P w K mg base W 3 "are_sizes" st_are_sizes ["value"] g_are_sizes := by
  obtain ⟨f, fd, hm, hF⟩ := h.ex
  refine ⟨f, fd, hm, hF, fn_keeps (N := N_are_sizes) (fb := fb_are_sizes) hF sc_are_sizes (fun cdv A outer s H E hr => ?_) (fun ss μ r hl hg => by have hl : ss.length = 1 := hl; unfold g_are_sizes at hg; rw [if_pos hl] at hg; exact hg)⟩
  have hu65 := hr.u65
  exact qs_one (by exact qs_ret (by exact q_and (by exact q_isi T.isinstance T.tuple (by decide +kernel) (by exact q_v 0) (cn := "tuple")) (by exact q_and (by exact q_chain op_le o2_le op_le o2_le q_int (by exact q_bi c_len k_len T.len (by decide +kernel) (by exact qa_cons (by exact q_v 0) qa_nil)) (by exact q_gint T.MOST_KINDS)) (by exact q_one (by exact q_bi (cr_all rfl) k_all T.all (by decide +kernel) (by exact qa_cons (by exact q_lc (mk := false) (own := [("size", 1)]) rfl sc_are_sizes.nd (blkOk_by (own := [("size", 1)]) (N := N_are_sizes) (sc := defScope st_are_sizes) (by decide +kernel)) (by exact q_iseq (by exact q_v 0)) (fun _ _ _ _ _ => by exact q_tname sc_are_sizes.nd (i := 1)) (fun _ _ _ _ _ => by exact qts_nil) (fun _ _ _ _ _ => by exact q_call (ps := ["value"]) C_is_size (hr.mono (by decide)) passL (by exact qa_cons (by exact q_v 1) qa_nil) bi_is_size)) qa_nil))))))

/-! ### hole_of -/
abbrev st_hole_of : Stmt := topS 21
abbrev N_hole_of : List Str := ["widths", "width", "hole"]
theorem sc_hole_of : FnScope N_hole_of ["widths", "width"] (defScope st_hole_of) := ⟨rfl, rfl, rfl, by decide +kernel, rfl, by decide +kernel, by decide +kernel⟩
theorem bi_hole_of (kV doc pm : Value) (an : Option Addr) (cdv ct : Value) (us : List Value) (hl : us.length = 2) : bindArgs (PySem.W.fnOf "hole_of" "hole_of" (defArgs st_hole_of) (defBody st_hole_of) (defScope st_hole_of) .none kV doc pm an cdv ct) ⟨us, []⟩ = pure ((["widths", "width"] : List Str).zip us) :=
  match us, hl with | [_, _], _ => rfl
def fb_hole_of : SF := sRet (eB (gLen) (aCons (eLc false [2] (iSeq (eV 0)) (hName 2) (tst (e2 gLt (eV 2) (eV 1))) (eV 2)) aNil))
def g_hole_of : GF := fun ss μ => if ss.length = 2 then fin μ.length (fb_hole_of (startS 3 ss) μ) else none
theorem ok_hole_of (T : Nm K mg W)  (h : St0 K mg "hole_of" st_hole_of) : Cal P w K mg base W 1 "hole_of" st_hole_of ["widths", "width"] g_hole_of := by
  obtain ⟨f, fd, hm, hF⟩ := h.ex
  refine ⟨f, fd, hm, hF, fn_keeps (N := N_hole_of) (fb := fb_hole_of) hF sc_hole_of (fun cdv A outer s H E hr => ?_) (fun ss μ r hl hg => by have hl : ss.length = 2 := hl; unfold g_hole_of at hg; rw [if_pos hl] at hg; exact hg)⟩
  have hu65 := hr.u65
  exact qs_one (by exact qs_ret (by exact q_bi c_len k_len T.len (by decide +kernel) (by exact qa_cons (by exact q_lc (mk := false) (own := [("hole", 2)]) rfl sc_hole_of.nd (blkOk_by (own := [("hole", 2)]) (N := N_hole_of) (sc := defScope st_hole_of) (by decide +kernel)) (by exact q_iseq (by exact q_v 0)) (fun _ _ _ _ _ => by exact q_tname sc_hole_of.nd (i := 2)) (fun _ _ _ _ _ => by exact qts_one (by exact qt_cmp op_lt o2_lt (by exact q_v 2) (by exact q_v 1) (nomark _))) (fun _ _ _ _ _ => by exact q_v 2)) qa_nil)))

/-! ### made_of -/
abbrev st_made_of : Stmt := topS 22
abbrev N_made_of : List Str := ["widths", "sizes", "least", "most"]
theorem sc_made_of : FnScope N_made_of ["widths", "sizes"] (defScope st_made_of) := ⟨rfl, rfl, rfl, by decide +kernel, rfl, by decide +kernel, by decide +kernel⟩
theorem bi_made_of (kV doc pm : Value) (an : Option Addr) (cdv ct : Value) (us : List Value) (hl : us.length = 2) : bindArgs (PySem.W.fnOf "made_of" "made_of" (defArgs st_made_of) (defBody st_made_of) (defScope st_made_of) .none kV doc pm an cdv ct) ⟨us, []⟩ = pure ((["widths", "sizes"] : List Str).zip us) :=
  match us, hl with | [_, _], _ => rfl
def fb_made_of : SF := sRet (eB (gTup) (aCons (eLc false [2, 3] (iSeq (eV 1)) (hTup 2 (hsCons (hName 2) (hsCons (hName 3) hsNil))) bYes (eTupRg (eCall 2 g_hole_of (aCons (eV 0) (aCons (eV 2) aNil))) (e2 (gAdd false) (eCall 2 g_hole_of (aCons (eV 0) (aCons (eV 3) aNil))) (eC (.int 1))))) aNil))
def g_made_of : GF := fun ss μ => if ss.length = 2 then fin μ.length (fb_made_of (startS 4 ss) μ) else none
theorem ok_made_of (T : Nm K mg W) (C_hole_of : Cal P w K mg base W 1 "hole_of" st_hole_of ["widths", "width"] g_hole_of) (h : St0 K mg "made_of" st_made_of) : Cal P w K mg base W 2 "made_of" st_made_of ["widths", "sizes"] g_made_of := by
  obtain ⟨f, fd, hm, hF⟩ := h.ex
  refine ⟨f, fd, hm, hF, fn_keeps (N := N_made_of) (fb := fb_made_of) hF sc_made_of (fun cdv A outer s H E hr => ?_) (fun ss μ r hl hg => by have hl : ss.length = 2 := hl; unfold g_made_of at hg; rw [if_pos hl] at hg; exact hg)⟩
  have hu65 := hr.u65
  exact qs_one (by exact qs_ret (by exact q_ty call_tuple_of k_tup T.tuple (by decide +kernel) (by exact qa_cons (by exact q_lc (mk := false) (own := [("least", 2), ("most", 3)]) rfl sc_made_of.nd (blkOk_by (own := [("least", 2), ("most", 3)]) (N := N_made_of) (sc := defScope st_made_of) (by decide +kernel)) (by exact q_iseq (by exact q_v 1)) (fun _ _ _ _ _ => by exact q_ttup rfl (by exact q_tcons (by exact q_tname sc_made_of.nd (i := 2)) (by exact q_tcons (by exact q_tname sc_made_of.nd (i := 3)) q_tnil)) (n := 2)) (fun _ _ _ _ _ => by exact qts_nil) (fun _ _ _ _ _ => by exact q_tupRg rfl T.tuple T.range (by exact q_call (ps := ["widths", "width"]) C_hole_of (hr.mono (by decide)) passL (by exact qa_cons (by exact q_v 0) (by exact qa_cons (by exact q_v 2) qa_nil)) bi_hole_of) (by exact q_op op_addAll (o2_add (mk := false)) (by exact q_call (ps := ["widths", "width"]) C_hole_of (hr.mono (by decide)) passL (by exact qa_cons (by exact q_v 0) (by exact qa_cons (by exact q_v 3) qa_nil)) bi_hole_of) q_int))) qa_nil)))

/-! ### machine_of -/
abbrev st_machine_of : Stmt := topS 23
abbrev N_machine_of : List Str := ["widths", "sizes"]
theorem sc_machine_of : FnScope N_machine_of ["widths", "sizes"] (defScope st_machine_of) := ⟨rfl, rfl, rfl, by decide +kernel, rfl, by decide +kernel, by decide +kernel⟩
theorem bi_machine_of (kV doc pm : Value) (an : Option Addr) (cdv ct : Value) (us : List Value) (hl : us.length = 2) : bindArgs (PySem.W.fnOf "machine_of" "machine_of" (defArgs st_machine_of) (defBody st_machine_of) (defScope st_machine_of) .none kV doc pm an cdv ct) ⟨us, []⟩ = pure ((["widths", "sizes"] : List Str).zip us) :=
  match us, hl with | [_, _], _ => rfl
def fb_machine_of : SF := sSeq (sDrop (eCall 2 g_demand (aCons (eCall 1 g_are_widths (aCons (eV 0) aNil)) (aCons (eC (.str "widths")) aNil)))) (sSeq (sDrop (eCall 2 g_demand (aCons (eCall 1 g_are_sizes (aCons (eV 1) aNil)) (aCons (eC (.str "sizes")) aNil)))) (sRet (eCall 2 g_made_of (aCons (eV 0) (aCons (eV 1) aNil)))))
def g_machine_of : GF := fun ss μ => if ss.length = 2 then fin μ.length (fb_machine_of (startS 2 ss) μ) else none
theorem ok_machine_of (T : Nm K mg W) (C_demand : Cal P w K mg base W 1 "demand" st_demand ["is_good", "name"] g_demand) (C_are_widths : Cal P w K mg base W 3 "are_widths" st_are_widths ["value"] g_are_widths) (C_are_sizes : Cal P w K mg base W 3 "are_sizes" st_are_sizes ["value"] g_are_sizes) (C_made_of : Cal P w K mg base W 2 "made_of" st_made_of ["widths", "sizes"] g_made_of) (h : St0 K mg "machine_of" st_machine_of) : Cal P w K mg base W 4 "machine_of" st_machine_of ["widths", "sizes"] g_machine_of := by
  obtain ⟨f, fd, hm, hF⟩ := h.ex
  refine ⟨f, fd, hm, hF, fn_keeps (N := N_machine_of) (fb := fb_machine_of) hF sc_machine_of (fun cdv A outer s H E hr => ?_) (fun ss μ r hl hg => by have hl : ss.length = 2 := hl; unfold g_machine_of at hg; rw [if_pos hl] at hg; exact hg)⟩
  have hu65 := hr.u65
  exact qs_cons (by exact qs_expr (by exact q_call (ps := ["is_good", "name"]) C_demand (hr.mono (by decide)) (passes_call (takes_of rfl rfl rfl rfl) fun _ _ _ _ h => h) (by exact qa_cons (by exact q_call (ps := ["value"]) C_are_widths (hr.mono (by decide)) (passes_call (takes_of rfl rfl rfl rfl) fun _ _ _ _ h => h) (by exact qa_cons (by exact q_v 0) qa_nil) bi_are_widths) (by exact qa_cons q_str qa_nil)) bi_demand)) (by exact qs_cons (by exact qs_expr (by exact q_call (ps := ["is_good", "name"]) C_demand (hr.mono (by decide)) (passes_call (takes_of rfl rfl rfl rfl) fun _ _ _ _ h => h) (by exact qa_cons (by exact q_call (ps := ["value"]) C_are_sizes (hr.mono (by decide)) (passes_call (takes_of rfl rfl rfl rfl) fun _ _ _ _ h => h) (by exact qa_cons (by exact q_v 1) qa_nil) bi_are_sizes) (by exact qa_cons q_str qa_nil)) bi_demand)) (by exact qs_one (by exact qs_ret (by exact q_call (ps := ["widths", "sizes"]) C_made_of (hr.mono (by decide)) (passes_call (takes_of rfl rfl rfl rfl) fun _ _ _ _ h => h) (by exact qa_cons (by exact q_v 0) (by exact qa_cons (by exact q_v 1) qa_nil)) bi_made_of))))

/-! ### parted -/
abbrev st_parted : Stmt := topS 24
abbrev N_parted : List Str := ["sizes", "order", "one", "two", "size"]
theorem sc_parted : FnScope N_parted ["sizes"] (defScope st_parted) := ⟨rfl, rfl, rfl, by decide +kernel, rfl, by decide +kernel, by decide +kernel⟩
theorem bi_parted (kV doc pm : Value) (an : Option Addr) (cdv ct : Value) (us : List Value) (hl : us.length = 1) : bindArgs (PySem.W.fnOf "parted" "parted" (defArgs st_parted) (defBody st_parted) (defScope st_parted) .none kV doc pm an cdv ct) ⟨us, []⟩ = pure ((["sizes"] : List Str).zip us) :=
  match us, hl with | [_], _ => rfl
def fb_parted : SF := sSeq (sDrop (eCall 2 g_demand (aCons (eCall 1 g_are_sizes (aCons (eV 0) aNil)) (aCons (eC (.str "sizes")) aNil)))) (sSeq (sSet 1 (eB (gSorted false) (aCons (eV 0) aNil))) (sSeq (sIf (tst (eB (gOnBls fun bs => bs.any id) (aCons (eLc false [2, 3] (iZip2 (aCons (eV 1) (aCons (eCut false (eV 1) (some (eC (.int 1))) none) aNil))) (hTup 2 (hsCons (hName 2) (hsCons (hName 3) hsNil))) bYes (e2 gGe (e2 gIx (eV 2) (eC (.int 1))) (e2 gIx (eV 3) (eC (.int 0))))) aNil))) (sRet (eC .non)) sNx) (sRet (eIf (tst (e2 gGt (eB (gLen) (aCons (eV 1) aNil)) (eC (.int 1)))) (eB (gTup) (aCons (eLc false [4] (iSeq (eCut false (eV 1) none (some (eNeg (eC (.int 1)))))) (hName 4) bYes (e2 gIx (eV 4) (eC (.int 1)))) aNil)) (eTup (aCons (eC (.int (1000))) aNil))))))
def g_parted : GF := fun ss μ => if ss.length = 1 then fin μ.length (fb_parted (startS 5 ss) μ) else none
theorem ok_parted (T : Nm K mg W) (C_demand : Cal P w K mg base W 1 "demand" st_demand ["is_good", "name"] g_demand) (C_are_sizes : Cal P w K mg base W 3 "are_sizes" st_are_sizes ["value"] g_are_sizes) (h : St0 K mg "parted" st_parted) : Cal P w K mg base W 4 "parted" st_parted ["sizes"] g_parted := by
  obtain ⟨f, fd, hm, hF⟩ := h.ex
  refine ⟨f, fd, hm, hF, fn_keeps (N := N_parted) (fb := fb_parted) hF sc_parted (fun cdv A outer s H E hr => ?_) (fun ss μ r hl hg => by have hl : ss.length = 1 := hl; unfold g_parted at hg; rw [if_pos hl] at hg; exact hg)⟩
  have hu65 := hr.u65
  exact qs_cons (by exact qs_expr (by exact q_call (ps := ["is_good", "name"]) C_demand (hr.mono (by decide)) (passes_call (takes_of rfl rfl rfl rfl) fun _ _ _ _ h => h) (by exact qa_cons (by exact q_call (ps := ["value"]) C_are_sizes (hr.mono (by decide)) (passes_call (takes_of rfl rfl rfl rfl) fun _ _ _ _ h => h) (by exact qa_cons (by exact q_v 0) qa_nil) bi_are_sizes) (by exact qa_cons q_str qa_nil)) bi_demand)) (by exact qs_cons (by exact qs_set (i := 1) sc_parted.nd (by exact q_bi c_sorted (k_sorted (mk := false)) T.sorted (by decide +kernel) (by exact qa_cons (by exact q_v 0) qa_nil))) (by exact qs_cons (by exact qs_if (by exact qt_val (by exact q_bi (cr_any rfl) k_any T.any (by decide +kernel) (by exact qa_cons (by exact q_lc (mk := false) (own := [("one", 2), ("two", 3)]) rfl sc_parted.nd (blkOk_by (own := [("one", 2), ("two", 3)]) (N := N_parted) (sc := defScope st_parted) (by decide +kernel)) (by exact q_izip2 T.zip (by exact qa_cons (by exact q_v 1) (by exact qa_cons (by exact q_cut (mk := false) (by exact q_v 1) (by exact qp_some q_int) qp_none) qa_nil))) (fun _ _ _ _ _ => by exact q_ttup rfl (by exact q_tcons (by exact q_tname sc_parted.nd (i := 2)) (by exact q_tcons (by exact q_tname sc_parted.nd (i := 3)) q_tnil)) (n := 2)) (fun _ _ _ _ _ => by exact qts_nil) (fun _ _ _ _ _ => by exact q_cmp op_ge o2_ge (by exact q_ix (by exact q_v 2) q_int) (by exact q_ix (by exact q_v 3) q_int) (nomark _))) qa_nil))) (by exact qs_one (by exact qs_ret q_non)) qs_nil) (by exact qs_one (by exact qs_ret (by exact q_if (by exact qt_cmp op_gt o2_gt (by exact q_bi c_len k_len T.len (by decide +kernel) (by exact qa_cons (by exact q_v 1) qa_nil)) q_int (nomark _)) (by exact q_ty call_tuple_of k_tup T.tuple (by decide +kernel) (by exact qa_cons (by exact q_lc (mk := false) (own := [("size", 4)]) rfl sc_parted.nd (blkOk_by (own := [("size", 4)]) (N := N_parted) (sc := defScope st_parted) (by decide +kernel)) (by exact q_iseq (by exact q_cut (mk := false) (by exact q_v 1) qp_none (by exact qp_some (by exact q_neg q_int)))) (fun _ _ _ _ _ => by exact q_tname sc_parted.nd (i := 4)) (fun _ _ _ _ _ => by exact qts_nil) (fun _ _ _ _ _ => by exact q_ix (by exact q_v 4) q_int)) qa_nil)) (by exact q_tup (by exact qa_cons (by exact q_gint T.MOST_WIDTH) qa_nil)))))))

/-! ### is_parted -/
abbrev st_is_parted : Stmt := topS 25
abbrev N_is_parted : List Str := ["sizes", "value", "slots", "taken", "slot"]
theorem sc_is_parted : FnScope N_is_parted ["sizes", "value"] (defScope st_is_parted) := ⟨rfl, rfl, rfl, by decide +kernel, rfl, by decide +kernel, by decide +kernel⟩
theorem bi_is_parted (kV doc pm : Value) (an : Option Addr) (cdv ct : Value) (us : List Value) (hl : us.length = 2) : bindArgs (PySem.W.fnOf "is_parted" "is_parted" (defArgs st_is_parted) (defBody st_is_parted) (defScope st_is_parted) .none kV doc pm an cdv ct) ⟨us, []⟩ = pure ((["sizes", "value"] : List Str).zip us) :=
  match us, hl with | [_, _], _ => rfl
def fb_is_parted : SF := sSeq (sDrop (eCall 2 g_demand (aCons (eCall 1 g_are_sizes (aCons (eV 0) aNil)) (aCons (eC (.str "sizes")) aNil)))) (sSeq (sIf (bNot (tst (eCall 1 g_are_widths (aCons (eV 1) aNil)))) (sRet (eC (.bl false))) sNx) (sSeq (sSet 2 (eLc2 false [3, 4] [4] (iSeq (eCall 2 g_made_of (aCons (eV 1) (aCons (eV 0) aNil)))) (hName 3) bYes (iSeq (eV 3)) (hName 4) bYes (eV 4))) (sRet (e2 gEq (eLenSet (eV 2)) (eB (gLen) (aCons (eV 2) aNil))))))
def g_is_parted : GF := fun ss μ => if ss.length = 2 then fin μ.length (fb_is_parted (startS 5 ss) μ) else none
theorem ok_is_parted (T : Nm K mg W) (C_demand : Cal P w K mg base W 1 "demand" st_demand ["is_good", "name"] g_demand) (C_are_widths : Cal P w K mg base W 3 "are_widths" st_are_widths ["value"] g_are_widths) (C_are_sizes : Cal P w K mg base W 3 "are_sizes" st_are_sizes ["value"] g_are_sizes) (C_made_of : Cal P w K mg base W 2 "made_of" st_made_of ["widths", "sizes"] g_made_of) (h : St0 K mg "is_parted" st_is_parted) : Cal P w K mg base W 4 "is_parted" st_is_parted ["sizes", "value"] g_is_parted := by
  obtain ⟨f, fd, hm, hF⟩ := h.ex
  refine ⟨f, fd, hm, hF, fn_keeps (N := N_is_parted) (fb := fb_is_parted) hF sc_is_parted (fun cdv A outer s H E hr => ?_) (fun ss μ r hl hg => by have hl : ss.length = 2 := hl; unfold g_is_parted at hg; rw [if_pos hl] at hg; exact hg)⟩
  have hu65 := hr.u65
  exact qs_cons (by exact qs_expr (by exact q_call (ps := ["is_good", "name"]) C_demand (hr.mono (by decide)) (passes_call (takes_of rfl rfl rfl rfl) fun _ _ _ _ h => h) (by exact qa_cons (by exact q_call (ps := ["value"]) C_are_sizes (hr.mono (by decide)) (passes_call (takes_of rfl rfl rfl rfl) fun _ _ _ _ h => h) (by exact qa_cons (by exact q_v 0) qa_nil) bi_are_sizes) (by exact qa_cons q_str qa_nil)) bi_demand)) (by exact qs_cons (by exact qs_if (by exact qt_not (by exact qt_val (by exact q_call (ps := ["value"]) C_are_widths (hr.mono (by decide)) (passes_call (takes_of rfl rfl rfl rfl) fun _ _ _ _ h => h) (by exact qa_cons (by exact q_v 1) qa_nil) bi_are_widths))) (by exact qs_one (by exact qs_ret q_bl)) qs_nil) (by exact qs_cons (by exact qs_setLc2 (i := 2) (mk := false) (own := [("taken", 3), ("slot", 4)]) (vs1 := [4]) rfl sc_is_parted.nd (blkOk_by (own := [("taken", 3), ("slot", 4)]) (N := N_is_parted) (sc := defScope st_is_parted) (by decide +kernel)) (by exact q_iseq (by exact q_call (ps := ["widths", "sizes"]) C_made_of (hr.mono (by decide)) (passes_call (takes_of rfl rfl rfl rfl) fun _ _ _ _ h => h) (by exact qa_cons (by exact q_v 1) (by exact qa_cons (by exact q_v 0) qa_nil)) bi_made_of)) (fun _ _ _ _ _ => by exact q_tname sc_is_parted.nd (i := 3)) (fun _ _ _ _ _ => by exact qts_nil) (fun _ _ _ _ _ => by exact q_iseq (by exact q_v 3)) (fun _ _ _ _ _ => by exact q_tname sc_is_parted.nd (i := 4)) (fun _ _ _ _ _ => by exact qts_nil) (fun _ _ _ _ _ => by exact q_v 4)) (by exact qs_one (by exact qs_ret (by exact q_cmp (op_eqD hr.units) o2_eq (by exact q_lenSet rfl T.len T.set (by exact q_v 2)) (by exact q_bi c_len k_len T.len (by decide +kernel) (by exact qa_cons (by exact q_v 2) qa_nil)) (nomark _))))))

/-! ### fills_of -/
abbrev st_fills_of : Stmt := topS 26
abbrev N_fills_of : List Str := ["machine", "bag", "slots", "many", "slot"]
theorem sc_fills_of : FnScope N_fills_of ["machine", "bag"] (defScope st_fills_of) := ⟨rfl, rfl, rfl, by decide +kernel, rfl, by decide +kernel, by decide +kernel⟩
theorem bi_fills_of (kV doc pm : Value) (an : Option Addr) (cdv ct : Value) (us : List Value) (hl : us.length = 2) : bindArgs (PySem.W.fnOf "fills_of" "fills_of" (defArgs st_fills_of) (defBody st_fills_of) (defScope st_fills_of) .none kV doc pm an cdv ct) ⟨us, []⟩ = pure ((["machine", "bag"] : List Str).zip us) :=
  match us, hl with | [_, _], _ => rfl
def fb_fills_of : SF := sRet (eLc false [4] (iRg none (eC (.int (8)))) (hName 4) bYes (eB (gSum) (aCons (eLc false [2, 3] (iZip2 (aCons (eV 0) (aCons (eV 1) aNil))) (hTup 2 (hsCons (hName 2) (hsCons (hName 3) hsNil))) (tst (e2 (gIn false) (eV 4) (eV 2))) (eV 3)) aNil)))
def g_fills_of : GF := fun ss μ => if ss.length = 2 then fin μ.length (fb_fills_of (startS 5 ss) μ) else none
theorem ok_fills_of (T : Nm K mg W)  (h : St0 K mg "fills_of" st_fills_of) : Cal P w K mg base W 1 "fills_of" st_fills_of ["machine", "bag"] g_fills_of := by
  obtain ⟨f, fd, hm, hF⟩ := h.ex
  refine ⟨f, fd, hm, hF, fn_keeps (N := N_fills_of) (fb := fb_fills_of) hF sc_fills_of (fun cdv A outer s H E hr => ?_) (fun ss μ r hl hg => by have hl : ss.length = 2 := hl; unfold g_fills_of at hg; rw [if_pos hl] at hg; exact hg)⟩
  have hu65 := hr.u65
  exact qs_one (by exact qs_ret (by exact q_lc (mk := false) (own := [("slot", 4)]) rfl sc_fills_of.nd (blkOk_by (own := [("slot", 4)]) (N := N_fills_of) (sc := defScope st_fills_of) (by decide +kernel)) (by exact q_irg1 T.range (by exact q_gint T.SLOTS)) (fun _ _ _ _ _ => by exact q_tname sc_fills_of.nd (i := 4)) (fun _ _ _ _ _ => by exact qts_nil) (fun _ _ _ _ _ => by exact q_bi (cr_sum rfl) k_sum T.sum (by decide +kernel) (by exact qa_cons (by exact q_lc (mk := false) (own := [("slots", 2), ("many", 3)]) rfl sc_fills_of.nd (blkOk_by (own := [("slots", 2), ("many", 3)]) (N := N_fills_of) (by rfl)) (by exact q_izip2 T.zip (by exact qa_cons (by exact q_v 0) (by exact qa_cons (by exact q_v 1) qa_nil))) (fun _ _ _ _ _ => by exact q_ttup rfl (by exact q_tcons (by exact q_tname sc_fills_of.nd (i := 2)) (by exact q_tcons (by exact q_tname sc_fills_of.nd (i := 3)) q_tnil)) (n := 2)) (fun _ _ _ _ _ => by exact qts_one (by exact qt_cmp (op_inAll hu65) (o2_in (neg := false)) (by exact q_v 4) (by exact q_v 2) (by rfl))) (fun _ _ _ _ _ => by exact q_v 3)) qa_nil))))

/-! ### fills -/
abbrev st_fills : Stmt := topS 27
abbrev N_fills : List Str := ["machine", "bag"]
theorem sc_fills : FnScope N_fills ["machine", "bag"] (defScope st_fills) := ⟨rfl, rfl, rfl, by decide +kernel, rfl, by decide +kernel, by decide +kernel⟩
theorem bi_fills (kV doc pm : Value) (an : Option Addr) (cdv ct : Value) (us : List Value) (hl : us.length = 2) : bindArgs (PySem.W.fnOf "fills" "fills" (defArgs st_fills) (defBody st_fills) (defScope st_fills) .none kV doc pm an cdv ct) ⟨us, []⟩ = pure ((["machine", "bag"] : List Str).zip us) :=
  match us, hl with | [_, _], _ => rfl
def fb_fills : SF := sSeq (sDrop (eCall 2 g_demand (aCons (eCall 1 g_is_machine (aCons (eV 0) aNil)) (aCons (eC (.str "machine")) aNil)))) (sSeq (sDrop (eCall 2 g_demand (aCons (eCall 2 g_is_bag (aCons (eV 0) (aCons (eV 1) aNil))) (aCons (eC (.str "bag")) aNil)))) (sRet (eB (gTup) (aCons (eCall 2 g_fills_of (aCons (eV 0) (aCons (eV 1) aNil))) aNil))))
def g_fills : GF := fun ss μ => if ss.length = 2 then fin μ.length (fb_fills (startS 2 ss) μ) else none
theorem ok_fills (T : Nm K mg W) (C_demand : Cal P w K mg base W 1 "demand" st_demand ["is_good", "name"] g_demand) (C_is_machine : Cal P w K mg base W 4 "is_machine" st_is_machine ["value"] g_is_machine) (C_is_bag : Cal P w K mg base W 3 "is_bag" st_is_bag ["machine", "value"] g_is_bag) (C_fills_of : Cal P w K mg base W 1 "fills_of" st_fills_of ["machine", "bag"] g_fills_of) (h : St0 K mg "fills" st_fills) : Cal P w K mg base W 5 "fills" st_fills ["machine", "bag"] g_fills := by
  obtain ⟨f, fd, hm, hF⟩ := h.ex
  refine ⟨f, fd, hm, hF, fn_keeps (N := N_fills) (fb := fb_fills) hF sc_fills (fun cdv A outer s H E hr => ?_) (fun ss μ r hl hg => by have hl : ss.length = 2 := hl; unfold g_fills at hg; rw [if_pos hl] at hg; exact hg)⟩
  have hu65 := hr.u65
  exact qs_cons (by exact qs_expr (by exact q_call (ps := ["is_good", "name"]) C_demand (hr.mono (by decide)) (passes_call (takes_of rfl rfl rfl rfl) fun _ _ _ _ h => h) (by exact qa_cons (by exact q_call (ps := ["value"]) C_is_machine (hr.mono (by decide)) (passes_call (takes_of rfl rfl rfl rfl) fun _ _ _ _ h => h) (by exact qa_cons (by exact q_v 0) qa_nil) bi_is_machine) (by exact qa_cons q_str qa_nil)) bi_demand)) (by exact qs_cons (by exact qs_expr (by exact q_call (ps := ["is_good", "name"]) C_demand (hr.mono (by decide)) (passes_call (takes_of rfl rfl rfl rfl) fun _ _ _ _ h => h) (by exact qa_cons (by exact q_call (ps := ["machine", "value"]) C_is_bag (hr.mono (by decide)) (passes_call (takes_of rfl rfl rfl rfl) fun _ _ _ _ h => h) (by exact qa_cons (by exact q_v 0) (by exact qa_cons (by exact q_v 1) qa_nil)) bi_is_bag) (by exact qa_cons q_str qa_nil)) bi_demand)) (by exact qs_one (by exact qs_ret (by exact q_ty call_tuple_of k_tup T.tuple (by decide +kernel) (by exact qa_cons (by exact q_call (ps := ["machine", "bag"]) C_fills_of (hr.mono (by decide)) (passes_call (takes_of rfl rfl rfl rfl) fun _ _ _ _ h => h) (by exact qa_cons (by exact q_v 0) (by exact qa_cons (by exact q_v 1) qa_nil)) bi_fills_of) qa_nil)))))

/-! ### never_fills -/
abbrev st_never_fills : Stmt := topS 28
abbrev N_never_fills : List Str := ["machine", "bag", "bins", "many", "room"]
theorem sc_never_fills : FnScope N_never_fills ["machine", "bag", "bins"] (defScope st_never_fills) := ⟨rfl, rfl, rfl, by decide +kernel, rfl, by decide +kernel, by decide +kernel⟩
theorem bi_never_fills (kV doc pm : Value) (an : Option Addr) (cdv ct : Value) (us : List Value) (hl : us.length = 3) : bindArgs (PySem.W.fnOf "never_fills" "never_fills" (defArgs st_never_fills) (defBody st_never_fills) (defScope st_never_fills) .none kV doc pm an cdv ct) ⟨us, []⟩ = pure ((["machine", "bag", "bins"] : List Str).zip us) :=
  match us, hl with | [_, _, _], _ => rfl
def fb_never_fills : SF := sSeq (sDrop (eCall 2 g_demand (aCons (eCall 1 g_is_machine (aCons (eV 0) aNil)) (aCons (eC (.str "machine")) aNil)))) (sSeq (sDrop (eCall 2 g_demand (aCons (eCall 2 g_is_bag (aCons (eV 0) (aCons (eV 1) aNil))) (aCons (eC (.str "bag")) aNil)))) (sSeq (sDrop (eCall 2 g_demand (aCons (eCall 5 g_are_in (aCons (eV 2) (aCons (eC (.int (8))) (aCons (eC (.int (8))) (aCons (eC (.int 0)) (aCons (eC (.int (20000))) aNil)))))) (aCons (eC (.str "bins")) aNil)))) (sRet (eB (gOnBls fun bs => bs.all id) (aCons (eLc false [3, 4] (iZip2 (aCons (eCall 2 g_fills_of (aCons (eV 0) (aCons (eV 1) aNil))) (aCons (eV 2) aNil))) (hTup 2 (hsCons (hName 3) (hsCons (hName 4) hsNil))) bYes (e2 gLe (eV 3) (eV 4))) aNil)))))
def g_never_fills : GF := fun ss μ => if ss.length = 3 then fin μ.length (fb_never_fills (startS 5 ss) μ) else none
theorem ok_never_fills (T : Nm K mg W) (C_are_in : Cal P w K mg base W 2 "are_in" st_are_in ["value", "least", "most", "low", "high"] g_are_in) (C_demand : Cal P w K mg base W 1 "demand" st_demand ["is_good", "name"] g_demand) (C_is_machine : Cal P w K mg base W 4 "is_machine" st_is_machine ["value"] g_is_machine) (C_is_bag : Cal P w K mg base W 3 "is_bag" st_is_bag ["machine", "value"] g_is_bag) (C_fills_of : Cal P w K mg base W 1 "fills_of" st_fills_of ["machine", "bag"] g_fills_of) (h : St0 K mg "never_fills" st_never_fills) : Cal P w K mg base W 5 "never_fills" st_never_fills ["machine", "bag", "bins"] g_never_fills := by
  obtain ⟨f, fd, hm, hF⟩ := h.ex
  refine ⟨f, fd, hm, hF, fn_keeps (N := N_never_fills) (fb := fb_never_fills) hF sc_never_fills (fun cdv A outer s H E hr => ?_) (fun ss μ r hl hg => by have hl : ss.length = 3 := hl; unfold g_never_fills at hg; rw [if_pos hl] at hg; exact hg)⟩
  have hu65 := hr.u65
  exact qs_cons (by exact qs_expr (by exact q_call (ps := ["is_good", "name"]) C_demand (hr.mono (by decide)) (passes_call (takes_of rfl rfl rfl rfl) fun _ _ _ _ h => h) (by exact qa_cons (by exact q_call (ps := ["value"]) C_is_machine (hr.mono (by decide)) (passes_call (takes_of rfl rfl rfl rfl) fun _ _ _ _ h => h) (by exact qa_cons (by exact q_v 0) qa_nil) bi_is_machine) (by exact qa_cons q_str qa_nil)) bi_demand)) (by exact qs_cons (by exact qs_expr (by exact q_call (ps := ["is_good", "name"]) C_demand (hr.mono (by decide)) (passes_call (takes_of rfl rfl rfl rfl) fun _ _ _ _ h => h) (by exact qa_cons (by exact q_call (ps := ["machine", "value"]) C_is_bag (hr.mono (by decide)) (passes_call (takes_of rfl rfl rfl rfl) fun _ _ _ _ h => h) (by exact qa_cons (by exact q_v 0) (by exact qa_cons (by exact q_v 1) qa_nil)) bi_is_bag) (by exact qa_cons q_str qa_nil)) bi_demand)) (by exact qs_cons (by exact qs_expr (by exact q_call (ps := ["is_good", "name"]) C_demand (hr.mono (by decide)) (passes_call (takes_of rfl rfl rfl rfl) fun _ _ _ _ h => h) (by exact qa_cons (by exact q_call (ps := ["value", "least", "most", "low", "high"]) C_are_in (hr.mono (by decide)) (passes_call (takes_of rfl rfl rfl rfl) fun _ _ _ _ h => h) (by exact qa_cons (by exact q_v 2) (by exact qa_cons (by exact q_gint T.SLOTS) (by exact qa_cons (by exact q_gint T.SLOTS) (by exact qa_cons q_int (by exact qa_cons (by exact q_gint T.MOST_BIN) qa_nil))))) bi_are_in) (by exact qa_cons q_str qa_nil)) bi_demand)) (by exact qs_one (by exact qs_ret (by exact q_bi (cr_all rfl) k_all T.all (by decide +kernel) (by exact qa_cons (by exact q_lc (mk := false) (own := [("many", 3), ("room", 4)]) rfl sc_never_fills.nd (blkOk_by (own := [("many", 3), ("room", 4)]) (N := N_never_fills) (sc := defScope st_never_fills) (by decide +kernel)) (by exact q_izip2 T.zip (by exact qa_cons (by exact q_call (ps := ["machine", "bag"]) C_fills_of (hr.mono (by decide)) (passes_call (takes_of rfl rfl rfl rfl) fun _ _ _ _ h => h) (by exact qa_cons (by exact q_v 0) (by exact qa_cons (by exact q_v 1) qa_nil)) bi_fills_of) (by exact qa_cons (by exact q_v 2) qa_nil))) (fun _ _ _ _ _ => by exact q_ttup rfl (by exact q_tcons (by exact q_tname sc_never_fills.nd (i := 3)) (by exact q_tcons (by exact q_tname sc_never_fills.nd (i := 4)) q_tnil)) (n := 2)) (fun _ _ _ _ _ => by exact qts_nil) (fun _ _ _ _ _ => by exact q_cmp op_le o2_le (by exact q_v 3) (by exact q_v 4) (nomark _))) qa_nil))))))

/-! ### _law_dice -/
abbrev st__law_dice : Stmt := topS 30
abbrev N__law_dice : List Str := ["script", "spot", "own", "mixed", "cell"]
theorem sc__law_dice : FnScope N__law_dice ["script", "spot"] (defScope st__law_dice) := ⟨rfl, rfl, rfl, by decide +kernel, rfl, by decide +kernel, by decide +kernel⟩
theorem bi__law_dice (kV doc pm : Value) (an : Option Addr) (cdv ct : Value) (us : List Value) (hl : us.length = 2) : bindArgs (PySem.W.fnOf "_law_dice" "_law_dice" (defArgs st__law_dice) (defBody st__law_dice) (defScope st__law_dice) .none kV doc pm an cdv ct) ⟨us, []⟩ = pure ((["script", "spot"] : List Str).zip us) :=
  match us, hl with | [_, _], _ => rfl
def lb__law_dice_0 : SF := sSet 3 (e2 (gMod) (eB (gInt) (aCons (e2 (gAdd false) (e2 (gMul false) (eV 3) (eC (.int 48271))) (e2 (gMod) (eB (gInt) (aCons (eV 4) aNil)) (eC (.int 2147480009)))) aNil)) (eC (.int 2147480009)))
def fb__law_dice : SF := sSeq (sSet 2 (eIf (tst (e2 gLt (eV 1) (eB (gLen) (aCons (eV 0) aNil)))) (e2 gIx (eV 0) (eV 1)) (e2 (gAdd false) (e2 (gMul false) (eC (.int 733)) (eV 1)) (eC (.int 29))))) (sSeq (sSet 3 (e2 (gAdd false) (eC (.int 910003)) (e2 (gMul false) (eC (.int 7907)) (eV 1)))) (sSeq (sFor (iSeq (e2 (gAdd false) (eCut false (eV 0) none (some (eC (.int 6)))) (eLst false (aCons (eV 2) aNil)))) (hName 4) lb__law_dice_0) (sRet (eLst true (aCons (eIf (bOr (tst (e2 gLt (eV 2) (eC (.int 0)))) (tst (e2 gGe (eV 2) (e2 (gPow) (eC (.int 10)) (eC (.int 16)))))) (eB (gAbs) (aCons (eV 2) aNil)) (eC (.int 0))) (aCons (eV 3) (aCons (eC (.int 0)) aNil)))))))
def g__law_dice : GF := fun ss μ => if ss.length = 2 then finM μ.length (fb__law_dice (startS 5 ss) μ) else none
theorem ok__law_dice (T : Nm K mg W)  (h : St0 K mg "_law_dice" st__law_dice) : Cal P w K mg base W 1 "_law_dice" st__law_dice ["script", "spot"] g__law_dice := by
  obtain ⟨f, fd, hm, hF⟩ := h.ex
  refine ⟨f, fd, hm, hF, fn_keepsM (N := N__law_dice) (fb := fb__law_dice) hF sc__law_dice (fun cdv A outer s H E hr => ?_) (fun ss μ r hl hg => by have hl : ss.length = 2 := hl; unfold g__law_dice at hg; rw [if_pos hl] at hg; exact hg)⟩
  have hu65 := hr.u65
  exact qs_cons (by exact qs_set (i := 2) sc__law_dice.nd (by exact q_if (by exact qt_cmp op_lt o2_lt (by exact q_v 1) (by exact q_bi c_len k_len T.len (by decide +kernel) (by exact qa_cons (by exact q_v 0) qa_nil)) (nomark _)) (by exact q_ix (by exact q_v 0) (by exact q_v 1)) (by exact q_op op_addAll (o2_add (mk := false)) (by exact q_op op_mulAll (o2_mulI (mk := false)) q_int (by exact q_v 1)) q_int))) (by exact qs_cons (by exact qs_set (i := 3) sc__law_dice.nd (by exact q_op op_addAll (o2_add (mk := false)) q_int (by exact q_op op_mulAll (o2_mulI (mk := false)) q_int (by exact q_v 1)))) (by exact qs_cons (by exact qs_for (passes_of rfl) rfl (by exact q_iseq (by exact q_op op_addAll (o2_add (mk := false)) (by exact q_cut (mk := false) (by exact q_v 0) qp_none (by exact qp_some q_int)) (by exact q_lst (mk := false) (by exact qa_cons (by exact q_v 2) qa_nil)))) (by exact q_tname sc__law_dice.nd (i := 4)) (by exact qs_one (by exact qs_set (i := 3) sc__law_dice.nd (by exact q_op op_mod o2_mod (by exact q_ty call_int1 k_int T.int (by decide +kernel) (by exact qa_cons (by exact q_op op_addAll (o2_add (mk := false)) (by exact q_op op_mulAll (o2_mulI (mk := false)) (by exact q_v 3) q_int) (by exact q_op op_mod o2_mod (by exact q_ty call_int1 k_int T.int (by decide +kernel) (by exact qa_cons (by exact q_v 4) qa_nil)) q_int)) qa_nil)) q_int)))) (by exact qs_one (by exact qs_ret (by exact q_lst (mk := true) (by exact qa_cons (by exact q_if (by exact PW.pt (by exact qw_or (by exact qt_cmp op_lt o2_lt (by exact q_v 2) q_int (nomark _)) (by exact qw_or1 (by exact qt_cmp op_ge o2_ge (by exact q_v 2) (by exact q_op op_pow o2_pow q_int q_int) (nomark _))))) (by exact q_bi call_abs k_abs T.abs (by decide +kernel) (by exact qa_cons (by exact q_v 2) qa_nil)) q_int) (by exact qa_cons (by exact q_v 3) (by exact qa_cons q_int qa_nil))))))))

/-! ### _law_roll -/
abbrev st__law_roll : Stmt := topS 31
abbrev N__law_roll : List Str := ["dice", "total", "found"]
theorem sc__law_roll : FnScope N__law_roll ["dice", "total"] (defScope st__law_roll) := ⟨rfl, rfl, rfl, by decide +kernel, rfl, by decide +kernel, by decide +kernel⟩
theorem bi__law_roll (kV doc pm : Value) (an : Option Addr) (cdv ct : Value) (us : List Value) (hl : us.length = 2) : bindArgs (PySem.W.fnOf "_law_roll" "_law_roll" (defArgs st__law_roll) (defBody st__law_roll) (defScope st__law_roll) .none kV doc pm an cdv ct) ⟨us, []⟩ = pure ((["dice", "total"] : List Str).zip us) :=
  match us, hl with | [_, _], _ => rfl
def fb__law_roll : SF := sSeq (sIf (tst (e2 gGt (e2 gIx (eV 0) (eC (.int 0))) (eC (.int 0)))) (sSeq (sSet 2 (e2 (gMod) (eB (gInt) (aCons (e2 gIx (eV 0) (eC (.int 0))) aNil)) (eV 1))) (sSeq (sSetItem (e2 (gFdiv) (e2 gIx (eV 0) (eC (.int 0))) (eV 1)) (eV 0) (eC (.int 0))) (sRet (eV 2)))) sNx) (sSeq (sSetItem (e2 (gAdd false) (e2 gIx (eV 0) (eC (.int 2))) (eC (.int 1))) (eV 0) (eC (.int 2))) (sSeq (sSetItem (e2 (gMod) (eB (gInt) (aCons (e2 (gAdd false) (e2 (gAdd false) (e2 (gMul false) (e2 gIx (eV 0) (eC (.int 1))) (eC (.int 52501))) (e2 (gMul false) (e2 (gMul false) (e2 gIx (eV 0) (eC (.int 2))) (e2 gIx (eV 0) (eC (.int 2)))) (eC (.int 1009)))) (eC (.int 77))) aNil)) (eC (.int 2147480009))) (eV 0) (eC (.int 1))) (sRet (e2 (gMod) (eB (gInt) (aCons (e2 (gFdiv) (e2 gIx (eV 0) (eC (.int 1))) (eC (.int 211))) aNil)) (eV 1)))))
def g__law_roll : GF := fun ss μ => if ss.length = 2 then fin μ.length (fb__law_roll (startS 3 ss) μ) else none
theorem ok__law_roll (T : Nm K mg W)  (h : St0 K mg "_law_roll" st__law_roll) : Cal P w K mg base W 1 "_law_roll" st__law_roll ["dice", "total"] g__law_roll := by
  obtain ⟨f, fd, hm, hF⟩ := h.ex
  refine ⟨f, fd, hm, hF, fn_keeps (N := N__law_roll) (fb := fb__law_roll) hF sc__law_roll (fun cdv A outer s H E hr => ?_) (fun ss μ r hl hg => by have hl : ss.length = 2 := hl; unfold g__law_roll at hg; rw [if_pos hl] at hg; exact hg)⟩
  have hu65 := hr.u65
  exact qs_cons (by exact qs_if (by exact qt_cmp op_gt o2_gt (by exact q_ix (by exact q_v 0) q_int) q_int (nomark _)) (by exact qs_cons (by exact qs_set (i := 2) sc__law_roll.nd (by exact q_op op_mod o2_mod (by exact q_ty call_int1 k_int T.int (by decide +kernel) (by exact qa_cons (by exact q_ix (by exact q_v 0) q_int) qa_nil)) (by exact q_v 1))) (by exact qs_cons (by exact qs_setitem (by exact q_op op_fdiv o2_fdiv (by exact q_ix (by exact q_v 0) q_int) (by exact q_v 1)) (by exact q_v 0) q_int) (by exact qs_one (by exact qs_ret (by exact q_v 2))))) qs_nil) (by exact qs_cons (by exact qs_setitem (by exact q_op op_addAll (o2_add (mk := false)) (by exact q_ix (by exact q_v 0) q_int) q_int) (by exact q_v 0) q_int) (by exact qs_cons (by exact qs_setitem (by exact q_op op_mod o2_mod (by exact q_ty call_int1 k_int T.int (by decide +kernel) (by exact qa_cons (by exact q_op op_addAll (o2_add (mk := false)) (by exact q_op op_addAll (o2_add (mk := false)) (by exact q_op op_mulAll (o2_mulI (mk := false)) (by exact q_ix (by exact q_v 0) q_int) q_int) (by exact q_op op_mulAll (o2_mulI (mk := false)) (by exact q_op op_mulAll (o2_mulI (mk := false)) (by exact q_ix (by exact q_v 0) q_int) (by exact q_ix (by exact q_v 0) q_int)) q_int)) q_int) qa_nil)) q_int) (by exact q_v 0) q_int) (by exact qs_one (by exact qs_ret (by exact q_op op_mod o2_mod (by exact q_ty call_int1 k_int T.int (by decide +kernel) (by exact qa_cons (by exact q_op op_fdiv o2_fdiv (by exact q_ix (by exact q_v 0) q_int) q_int) qa_nil)) (by exact q_v 1))))))

/-! ### _law_pick -/
abbrev st__law_pick : Stmt := topS 32
abbrev N__law_pick : List Str := ["dice", "things"]
theorem sc__law_pick : FnScope N__law_pick ["dice", "things"] (defScope st__law_pick) := ⟨rfl, rfl, rfl, by decide +kernel, rfl, by decide +kernel, by decide +kernel⟩
theorem bi__law_pick (kV doc pm : Value) (an : Option Addr) (cdv ct : Value) (us : List Value) (hl : us.length = 2) : bindArgs (PySem.W.fnOf "_law_pick" "_law_pick" (defArgs st__law_pick) (defBody st__law_pick) (defScope st__law_pick) .none kV doc pm an cdv ct) ⟨us, []⟩ = pure ((["dice", "things"] : List Str).zip us) :=
  match us, hl with | [_, _], _ => rfl
def fb__law_pick : SF := sRet (e2 gIx (eV 1) (eCall 2 g__law_roll (aCons (eV 0) (aCons (eB (gLen) (aCons (eV 1) aNil)) aNil))))
def g__law_pick : GF := fun ss μ => if ss.length = 2 then fin μ.length (fb__law_pick (startS 2 ss) μ) else none
theorem ok__law_pick (T : Nm K mg W) (C__law_roll : Cal P w K mg base W 1 "_law_roll" st__law_roll ["dice", "total"] g__law_roll) (h : St0 K mg "_law_pick" st__law_pick) : Cal P w K mg base W 2 "_law_pick" st__law_pick ["dice", "things"] g__law_pick := by
  obtain ⟨f, fd, hm, hF⟩ := h.ex
  refine ⟨f, fd, hm, hF, fn_keeps (N := N__law_pick) (fb := fb__law_pick) hF sc__law_pick (fun cdv A outer s H E hr => ?_) (fun ss μ r hl hg => by have hl : ss.length = 2 := hl; unfold g__law_pick at hg; rw [if_pos hl] at hg; exact hg)⟩
  have hu65 := hr.u65
  exact qs_one (by exact qs_ret (by exact q_ix (by exact q_v 1) (by exact q_call (ps := ["dice", "total"]) C__law_roll (hr.mono (by decide)) (passes_call (takes_of rfl rfl rfl rfl) fun _ _ _ _ h => h) (by exact qa_cons (by exact q_v 0) (by exact qa_cons (by exact q_bi c_len k_len T.len (by decide +kernel) (by exact qa_cons (by exact q_v 1) qa_nil)) qa_nil)) bi__law_roll)))

/-! ### _law_b_bag -/
abbrev st__law_b_bag : Stmt := topS 34
abbrev N__law_b_bag : List Str := ["dice", "kinds", "most", "kind"]
theorem sc__law_b_bag : FnScope N__law_b_bag ["dice", "kinds", "most"] (defScope st__law_b_bag) := ⟨rfl, rfl, rfl, by decide +kernel, rfl, by decide +kernel, by decide +kernel⟩
theorem bi__law_b_bag (kV doc pm : Value) (an : Option Addr) (cdv ct : Value) (us : List Value) (hl : us.length = 3) : bindArgs (PySem.W.fnOf "_law_b_bag" "_law_b_bag" (defArgs st__law_b_bag) (defBody st__law_b_bag) (defScope st__law_b_bag) .none kV doc pm an cdv ct) ⟨us, []⟩ = pure ((["dice", "kinds", "most"] : List Str).zip us) :=
  match us, hl with | [_, _, _], _ => rfl
def fb__law_b_bag : SF := sRet (eB (gTup) (aCons (eLc false [3] (iRg none (eV 1)) (hName 3) bYes (eCall 2 g__law_pick (aCons (eV 0) (aCons (eLst false (aCons (eC (.int 0)) (aCons (eC (.int 1)) (aCons (eCall 2 g__law_roll (aCons (eV 0) (aCons (e2 (gAdd false) (eV 2) (eC (.int 1))) aNil))) aNil)))) aNil)))) aNil))
def g__law_b_bag : GF := fun ss μ => if ss.length = 3 then fin μ.length (fb__law_b_bag (startS 4 ss) μ) else none
theorem ok__law_b_bag (T : Nm K mg W) (C__law_roll : Cal P w K mg base W 1 "_law_roll" st__law_roll ["dice", "total"] g__law_roll) (C__law_pick : Cal P w K mg base W 2 "_law_pick" st__law_pick ["dice", "things"] g__law_pick) (h : St0 K mg "_law_b_bag" st__law_b_bag) : Cal P w K mg base W 3 "_law_b_bag" st__law_b_bag ["dice", "kinds", "most"] g__law_b_bag := by
  obtain ⟨f, fd, hm, hF⟩ := h.ex
  refine ⟨f, fd, hm, hF, fn_keeps (N := N__law_b_bag) (fb := fb__law_b_bag) hF sc__law_b_bag (fun cdv A outer s H E hr => ?_) (fun ss μ r hl hg => by have hl : ss.length = 3 := hl; unfold g__law_b_bag at hg; rw [if_pos hl] at hg; exact hg)⟩
  have hu65 := hr.u65
  exact qs_one (by exact qs_ret (by exact q_ty call_tuple_of k_tup T.tuple (by decide +kernel) (by exact qa_cons (by exact q_lc (mk := false) (own := [("kind", 3)]) rfl sc__law_b_bag.nd (blkOk_by (own := [("kind", 3)]) (N := N__law_b_bag) (sc := defScope st__law_b_bag) (by decide +kernel)) (by exact q_irg1 T.range (by exact q_v 1)) (fun _ _ _ _ _ => by exact q_tname sc__law_b_bag.nd (i := 3)) (fun _ _ _ _ _ => by exact qts_nil) (fun _ _ _ _ _ => by exact q_call (ps := ["dice", "things"]) C__law_pick (hr.mono (by decide)) passL (by exact qa_cons (by exact q_v 0) (by exact qa_cons (by exact q_lst (mk := false) (by exact qa_cons q_int (by exact qa_cons q_int (by exact qa_cons (by exact q_call (ps := ["dice", "total"]) C__law_roll (hr.mono (by decide)) passL (by exact qa_cons (by exact q_v 0) (by exact qa_cons (by exact q_op op_addAll (o2_add (mk := false)) (by exact q_v 2) q_int) qa_nil)) bi__law_roll) qa_nil)))) qa_nil)) bi__law_pick)) qa_nil)))

/-! ### _law_slots -/
abbrev st__law_slots : Stmt := topS 35
abbrev N__law_slots : List Str := ["widths", "size", "found", "width", "slot", "hole"]
theorem sc__law_slots : FnScope N__law_slots ["widths", "size"] (defScope st__law_slots) := ⟨rfl, rfl, rfl, by decide +kernel, rfl, by decide +kernel, by decide +kernel⟩
theorem bi__law_slots (kV doc pm : Value) (an : Option Addr) (cdv ct : Value) (us : List Value) (hl : us.length = 2) : bindArgs (PySem.W.fnOf "_law_slots" "_law_slots" (defArgs st__law_slots) (defBody st__law_slots) (defScope st__law_slots) .none kV doc pm an cdv ct) ⟨us, []⟩ = pure ((["widths", "size"] : List Str).zip us) :=
  match us, hl with | [_, _], _ => rfl
def lb__law_slots_0 : SF := sSeq (sSet 4 (eB (gLen) (aCons (eLc false [5] (iSeq (eV 0)) (hName 5) (tst (e2 gLt (eV 5) (eV 3))) (eV 5)) aNil))) (sIf (tst (e2 (gIn true) (eV 4) (eV 2))) (sDrop (eAppend (eV 2) (eV 4))) sNx)
def fb__law_slots : SF := sSeq (sSet 2 (eLst true aNil)) (sSeq (sFor (iRg (some (e2 gIx (eV 1) (eC (.int 0)))) (e2 (gAdd false) (e2 gIx (eV 1) (eC (.int 1))) (eC (.int 1)))) (hName 3) lb__law_slots_0) (sRet (eB (gTup) (aCons (eB (gSorted false) (aCons (eV 2) aNil)) aNil))))
def g__law_slots : GF := fun ss μ => if ss.length = 2 then fin μ.length (fb__law_slots (startS 6 ss) μ) else none
theorem ok__law_slots (T : Nm K mg W)  (h : St0 K mg "_law_slots" st__law_slots) : Cal P w K mg base W 1 "_law_slots" st__law_slots ["widths", "size"] g__law_slots := by
  obtain ⟨f, fd, hm, hF⟩ := h.ex
  refine ⟨f, fd, hm, hF, fn_keeps (N := N__law_slots) (fb := fb__law_slots) hF sc__law_slots (fun cdv A outer s H E hr => ?_) (fun ss μ r hl hg => by have hl : ss.length = 2 := hl; unfold g__law_slots at hg; rw [if_pos hl] at hg; exact hg)⟩
  have hu65 := hr.u65
  exact qs_cons (by exact qs_set (i := 2) sc__law_slots.nd (by exact q_lst (mk := true) qa_nil)) (by exact qs_cons (by exact qs_for (passes_of rfl) rfl (by exact q_irg2 T.range (by exact q_ix (by exact q_v 1) q_int) (by exact q_op op_addAll (o2_add (mk := false)) (by exact q_ix (by exact q_v 1) q_int) q_int)) (by exact q_tname sc__law_slots.nd (i := 3)) (by exact qs_cons (by exact qs_set (i := 4) sc__law_slots.nd (by exact q_bi c_len k_len T.len (by decide +kernel) (by exact qa_cons (by exact q_lc (mk := false) (own := [("hole", 5)]) rfl sc__law_slots.nd (blkOk_by (own := [("hole", 5)]) (N := N__law_slots) (sc := defScope st__law_slots) (by decide +kernel)) (by exact q_iseq (by exact q_v 0)) (fun _ _ _ _ _ => by exact q_tname sc__law_slots.nd (i := 5)) (fun _ _ _ _ _ => by exact qts_one (by exact qt_cmp op_lt o2_lt (by exact q_v 5) (by exact q_v 3) (nomark _))) (fun _ _ _ _ _ => by exact q_v 5)) qa_nil))) (by exact qs_one (by exact qs_if (by exact qt_cmp (op_ninAll hu65) (o2_in (neg := true)) (by exact q_v 4) (by exact q_v 2) (by rfl)) (by exact qs_one (by exact qs_expr (by exact q_append (by exact q_v 2) (by exact q_v 4)))) qs_nil)))) (by exact qs_one (by exact qs_ret (by exact q_ty call_tuple_of k_tup T.tuple (by decide +kernel) (by exact qa_cons (by exact q_bi c_sorted (k_sorted (mk := false)) T.sorted (by decide +kernel) (by exact qa_cons (by exact q_v 2) qa_nil)) qa_nil)))))

/-! ### _law_are_widths -/
abbrev st__law_are_widths : Stmt := topS 36
abbrev N__law_are_widths : List Str := ["value", "one"]
theorem sc__law_are_widths : FnScope N__law_are_widths ["value"] (defScope st__law_are_widths) := ⟨rfl, rfl, rfl, by decide +kernel, rfl, by decide +kernel, by decide +kernel⟩
theorem bi__law_are_widths (kV doc pm : Value) (an : Option Addr) (cdv ct : Value) (us : List Value) (hl : us.length = 1) : bindArgs (PySem.W.fnOf "_law_are_widths" "_law_are_widths" (defArgs st__law_are_widths) (defBody st__law_are_widths) (defScope st__law_are_widths) .none kV doc pm an cdv ct) ⟨us, []⟩ = pure ((["value"] : List Str).zip us) :=
  match us, hl with | [_], _ => rfl
def fb__law_are_widths : SF := sSeq (sIf (bOr (bNot (tst (eIsi "tuple" (eV 0)))) (bNot (tst (eChain gLe gLe (eC (.int 1)) (eB (gLen) (aCons (eV 0) aNil)) (eC (.int 7)))))) (sRet (eC (.bl false))) sNx) (sSeq (sIf (tst (e2 gNe (eLc false [1] (iSeq (eV 0)) (hName 1) (bOr (bNot (tst (eIsi "int" (eV 1)))) (bOr (tst (eIsi "bool" (eV 1))) (bNot (tst (eChain gLe gLe (eC (.int 1)) (eV 1) (eC (.int 1000))))))) (eV 1)) (eLst false aNil))) (sRet (eC (.bl false))) sNx) (sRet (e2 gEq (eB (gLst false) (aCons (eV 0) aNil)) (eSortedSet false (eV 0)))))
def g__law_are_widths : GF := fun ss μ => if ss.length = 1 then fin μ.length (fb__law_are_widths (startS 2 ss) μ) else none
theorem ok__law_are_widths (T : Nm K mg W)  (h : St0 K mg "_law_are_widths" st__law_are_widths) : Cal P w K mg base W 1 "_law_are_widths" st__law_are_widths ["value"] g__law_are_widths := by
  obtain ⟨f, fd, hm, hF⟩ := h.ex
  refine ⟨f, fd, hm, hF, fn_keeps (N := N__law_are_widths) (fb := fb__law_are_widths) hF sc__law_are_widths (fun cdv A outer s H E hr => ?_) (fun ss μ r hl hg => by have hl : ss.length = 1 := hl; unfold g__law_are_widths at hg; rw [if_pos hl] at hg; exact hg)⟩
  have hu65 := hr.u65
  exact qs_cons (by exact qs_if (by exact PW.pt (by exact qw_or (by exact qt_not (by exact qt_val (by exact q_isi T.isinstance T.tuple (by decide +kernel) (by exact q_v 0) (cn := "tuple")))) (by exact qw_or1 (by exact qt_not (by exact qt_chain op_le o2_le op_le o2_le q_int (by exact q_bi c_len k_len T.len (by decide +kernel) (by exact qa_cons (by exact q_v 0) qa_nil)) q_int))))) (by exact qs_one (by exact qs_ret q_bl)) qs_nil) (by exact qs_cons (by exact qs_if (by exact qt_cmp (op_neD hr.units) o2_ne (by exact q_lc (mk := false) (own := [("one", 1)]) rfl sc__law_are_widths.nd (blkOk_by (own := [("one", 1)]) (N := N__law_are_widths) (sc := defScope st__law_are_widths) (by decide +kernel)) (by exact q_iseq (by exact q_v 0)) (fun _ _ _ _ _ => by exact q_tname sc__law_are_widths.nd (i := 1)) (fun _ _ _ _ _ => by exact qts_one (by exact PW.pt (by exact qw_or (by exact qt_not (by exact qt_val (by exact q_isi T.isinstance T.int (by decide +kernel) (by exact q_v 1) (cn := "int")))) (by exact qw_or (by exact qt_val (by exact q_isi T.isinstance T.bool (by decide +kernel) (by exact q_v 1) (cn := "bool"))) (by exact qw_or1 (by exact qt_not (by exact qt_chain op_le o2_le op_le o2_le q_int (by exact q_v 1) q_int))))))) (fun _ _ _ _ _ => by exact q_v 1)) (by exact q_lst (mk := false) qa_nil) (nomark _)) (by exact qs_one (by exact qs_ret q_bl)) qs_nil) (by exact qs_one (by exact qs_ret (by exact q_cmp (op_eqD hr.units) o2_eq (by exact q_ty call_list_of (k_lst (mk := false)) T.list (by decide +kernel) (by exact qa_cons (by exact q_v 0) qa_nil)) (by exact q_sortedSet (mk := false) rfl T.sorted T.set (by exact q_v 0)) (nomark _)))))

/-! ### _law_parts -/
abbrev st__law_parts : Stmt := topS 37
abbrev N__law_parts : List Str := ["sizes", "value", "all_slots", "size"]
theorem sc__law_parts : FnScope N__law_parts ["sizes", "value"] (defScope st__law_parts) := ⟨rfl, rfl, rfl, by decide +kernel, rfl, by decide +kernel, by decide +kernel⟩
theorem bi__law_parts (kV doc pm : Value) (an : Option Addr) (cdv ct : Value) (us : List Value) (hl : us.length = 2) : bindArgs (PySem.W.fnOf "_law_parts" "_law_parts" (defArgs st__law_parts) (defBody st__law_parts) (defScope st__law_parts) .none kV doc pm an cdv ct) ⟨us, []⟩ = pure ((["sizes", "value"] : List Str).zip us) :=
  match us, hl with | [_, _], _ => rfl
def lb__law_parts_0 : SF := sSet 2 (e2 (gAdd false) (eV 2) (eB (gLst false) (aCons (eCall 2 g__law_slots (aCons (eV 1) (aCons (eV 3) aNil))) aNil)))
def fb__law_parts : SF := sSeq (sIf (bNot (tst (eCall 1 g__law_are_widths (aCons (eV 1) aNil)))) (sRet (eC (.bl false))) sNx) (sSeq (sSet 2 (eLst false aNil)) (sSeq (sFor (iSeq (eV 0)) (hName 3) lb__law_parts_0) (sRet (e2 gEq (eLenSet (eV 2)) (eB (gLen) (aCons (eV 2) aNil))))))
def g__law_parts : GF := fun ss μ => if ss.length = 2 then fin μ.length (fb__law_parts (startS 4 ss) μ) else none
theorem ok__law_parts (T : Nm K mg W) (C__law_slots : Cal P w K mg base W 1 "_law_slots" st__law_slots ["widths", "size"] g__law_slots) (C__law_are_widths : Cal P w K mg base W 1 "_law_are_widths" st__law_are_widths ["value"] g__law_are_widths) (h : St0 K mg "_law_parts" st__law_parts) : Cal P w K mg base W 2 "_law_parts" st__law_parts ["sizes", "value"] g__law_parts := by
  obtain ⟨f, fd, hm, hF⟩ := h.ex
  refine ⟨f, fd, hm, hF, fn_keeps (N := N__law_parts) (fb := fb__law_parts) hF sc__law_parts (fun cdv A outer s H E hr => ?_) (fun ss μ r hl hg => by have hl : ss.length = 2 := hl; unfold g__law_parts at hg; rw [if_pos hl] at hg; exact hg)⟩
  have hu65 := hr.u65
  exact qs_cons (by exact qs_if (by exact qt_not (by exact qt_val (by exact q_call (ps := ["value"]) C__law_are_widths (hr.mono (by decide)) (passes_call (takes_of rfl rfl rfl rfl) fun _ _ _ _ h => h) (by exact qa_cons (by exact q_v 1) qa_nil) bi__law_are_widths))) (by exact qs_one (by exact qs_ret q_bl)) qs_nil) (by exact qs_cons (by exact qs_set (i := 2) sc__law_parts.nd (by exact q_lst (mk := false) qa_nil)) (by exact qs_cons (by exact qs_for (passes_of rfl) rfl (by exact q_iseq (by exact q_v 0)) (by exact q_tname sc__law_parts.nd (i := 3)) (by exact qs_one (by exact qs_set (i := 2) sc__law_parts.nd (by exact q_op op_addAll (o2_add (mk := false)) (by exact q_v 2) (by exact q_ty call_list_of (k_lst (mk := false)) T.list (by decide +kernel) (by exact qa_cons (by exact q_call (ps := ["widths", "size"]) C__law_slots (hr.mono (by decide)) (passes_call (takes_of rfl rfl rfl rfl) fun _ _ _ _ h => h) (by exact qa_cons (by exact q_v 1) (by exact qa_cons (by exact q_v 3) qa_nil)) bi__law_slots) qa_nil)))))) (by exact qs_one (by exact qs_ret (by exact q_cmp (op_eqD hr.units) o2_eq (by exact q_lenSet rfl T.len T.set (by exact q_v 2)) (by exact q_bi c_len k_len T.len (by decide +kernel) (by exact qa_cons (by exact q_v 2) qa_nil)) (nomark _))))))

/-! ### _law_size -/
abbrev st__law_size : Stmt := topS 38
abbrev N__law_size : List Str := ["dice", "far", "least"]
theorem sc__law_size : FnScope N__law_size ["dice", "far"] (defScope st__law_size) := ⟨rfl, rfl, rfl, by decide +kernel, rfl, by decide +kernel, by decide +kernel⟩
theorem bi__law_size (kV doc pm : Value) (an : Option Addr) (cdv ct : Value) (us : List Value) (hl : us.length = 2) : bindArgs (PySem.W.fnOf "_law_size" "_law_size" (defArgs st__law_size) (defBody st__law_size) (defScope st__law_size) .none kV doc pm an cdv ct) ⟨us, []⟩ = pure ((["dice", "far"] : List Str).zip us) :=
  match us, hl with | [_, _], _ => rfl
def fb__law_size : SF := sSeq (sSet 2 (e2 (gAdd false) (eC (.int 1)) (eCall 2 g__law_roll (aCons (eV 0) (aCons (eV 1) aNil))))) (sRet (eTup (aCons (eV 2) (aCons (eB (gMin) (aCons (eC (.int 1000)) (aCons (e2 (gAdd false) (eV 2) (eCall 2 g__law_pick (aCons (eV 0) (aCons (eLst false (aCons (eC (.int 0)) (aCons (eC (.int 1)) (aCons (eC (.int 3)) (aCons (eCall 2 g__law_roll (aCons (eV 0) (aCons (eC (.int 9)) aNil))) aNil))))) aNil)))) aNil))) aNil))))
def g__law_size : GF := fun ss μ => if ss.length = 2 then fin μ.length (fb__law_size (startS 3 ss) μ) else none
theorem ok__law_size (T : Nm K mg W) (C__law_roll : Cal P w K mg base W 1 "_law_roll" st__law_roll ["dice", "total"] g__law_roll) (C__law_pick : Cal P w K mg base W 2 "_law_pick" st__law_pick ["dice", "things"] g__law_pick) (h : St0 K mg "_law_size" st__law_size) : Cal P w K mg base W 3 "_law_size" st__law_size ["dice", "far"] g__law_size := by
  obtain ⟨f, fd, hm, hF⟩ := h.ex
  refine ⟨f, fd, hm, hF, fn_keeps (N := N__law_size) (fb := fb__law_size) hF sc__law_size (fun cdv A outer s H E hr => ?_) (fun ss μ r hl hg => by have hl : ss.length = 2 := hl; unfold g__law_size at hg; rw [if_pos hl] at hg; exact hg)⟩
  have hu65 := hr.u65
  exact qs_cons (by exact qs_set (i := 2) sc__law_size.nd (by exact q_op op_addAll (o2_add (mk := false)) q_int (by exact q_call (ps := ["dice", "total"]) C__law_roll (hr.mono (by decide)) (passes_call (takes_of rfl rfl rfl rfl) fun _ _ _ _ h => h) (by exact qa_cons (by exact q_v 0) (by exact qa_cons (by exact q_v 1) qa_nil)) bi__law_roll))) (by exact qs_one (by exact qs_ret (by exact q_tup (by exact qa_cons (by exact q_v 2) (by exact qa_cons (by exact q_bi (c_min rfl) k_min T.min (by decide +kernel) (by exact qa_cons q_int (by exact qa_cons (by exact q_op op_addAll (o2_add (mk := false)) (by exact q_v 2) (by exact q_call (ps := ["dice", "things"]) C__law_pick (hr.mono (by decide)) (passes_call (takes_of rfl rfl rfl rfl) fun _ _ _ _ h => h) (by exact qa_cons (by exact q_v 0) (by exact qa_cons (by exact q_lst (mk := false) (by exact qa_cons q_int (by exact qa_cons q_int (by exact qa_cons q_int (by exact qa_cons (by exact q_call (ps := ["dice", "total"]) C__law_roll (hr.mono (by decide)) (passes_call (takes_of rfl rfl rfl rfl) fun _ _ _ _ h => h) (by exact qa_cons (by exact q_v 0) (by exact qa_cons q_int qa_nil)) bi__law_roll) qa_nil))))) qa_nil)) bi__law_pick)) qa_nil))) qa_nil)))))

/-! ### _law_refuses -/
abbrev st__law_refuses : Stmt := topS 39
abbrev N__law_refuses : List Str := ["dice", "sizes", "bad", "odd", "told"]
theorem sc__law_refuses : FnScope N__law_refuses ["dice", "sizes"] (defScope st__law_refuses) := ⟨rfl, rfl, rfl, by decide +kernel, rfl, by decide +kernel, by decide +kernel⟩
theorem bi__law_refuses (kV doc pm : Value) (an : Option Addr) (cdv ct : Value) (us : List Value) (hl : us.length = 2) : bindArgs (PySem.W.fnOf "_law_refuses" "_law_refuses" (defArgs st__law_refuses) (defBody st__law_refuses) (defScope st__law_refuses) .none kV doc pm an cdv ct) ⟨us, []⟩ = pure ((["dice", "sizes"] : List Str).zip us) :=
  match us, hl with | [_, _], _ => rfl
def fb__law_refuses : SF := sSeq (sSet 2 (eCall 2 g__law_pick (aCons (eV 0) (aCons (eLst false (aCons (eC .non) (aCons (eTup aNil) (aCons (eLst false (aCons (eC (.int 1)) aNil)) (aCons (eTup (aCons (eC (.int 2)) (aCons (eC (.int 1)) aNil))) (aCons (eTup (aCons (eC (.int 1)) (aCons (eC (.int 1)) aNil))) (aCons (eTup (aCons (eC (.int 0)) aNil)) (aCons (eTup (aCons (eC (.int 1001)) aNil)) (aCons (eTup (aCons (eC (.int 1)) (aCons (eC (.int 2)) (aCons (eC (.int 3)) (aCons (eC (.int 4)) (aCons (eC (.int 5)) (aCons (eC (.int 6)) (aCons (eC (.int 7)) (aCons (eC (.int 8)) aNil))))))))) aNil))))))))) aNil)))) (sSeq (sSet 3 (eCall 2 g__law_pick (aCons (eV 0) (aCons (eLst false (aCons (eC .non) (aCons (eTup aNil) (aCons (eB (gLst false) (aCons (eV 1) aNil)) (aCons (eTup (aCons (eTup (aCons (eC (.int 2)) (aCons (eC (.int 1)) aNil))) aNil)) (aCons (eTup (aCons (eTup (aCons (eC (.int 0)) (aCons (eC (.int 1)) aNil))) aNil)) (aCons (eTup (aCons (eTup (aCons (eC (.int 1)) (aCons (eC (.int 1001)) aNil))) aNil)) (aCons (eTup (aCons (eTup (aCons (eC (.int 1)) aNil)) aNil)) (aCons (e2 (gMul false) (eTup (aCons (eTup (aCons (eC (.int 1)) (aCons (eC (.int 1)) aNil))) aNil)) (eC (.int 7))) aNil))))))))) aNil)))) (sSeq (sSet 4 (eLst false (aCons (eRefused (eCall 2 g_machine_of (aCons (eV 2) (aCons (eV 3) aNil)))) (aCons (eRefused (eCall 2 g_machine_of (aCons (eTup (aCons (eC (.int 5)) aNil)) (aCons (eV 3) aNil)))) (aCons (eRefused (eCall 1 g_parted (aCons (eV 3) aNil))) (aCons (eRefused (eCall 2 g_is_parted (aCons (eV 3) (aCons (eTup aNil) aNil)))) aNil)))))) (sSeq (sSet 4 (e2 (gAdd false) (eV 4) (eLst false (aCons (eRefused (eCall 2 g_fills (aCons (eTup aNil) (aCons (eTup aNil) aNil)))) (aCons (eRefused (eCall 2 g_fills (aCons (eTup (aCons (eTup (aCons (eC (.int 0)) aNil)) aNil)) (aCons (eTup (aCons (eC (.int 1)) (aCons (eC (.int 2)) aNil))) aNil)))) aNil))))) (sSeq (sSet 4 (e2 (gAdd false) (eV 4) (eLst false (aCons (eRefused (eCall 3 g_never_fills (aCons (eTup (aCons (eTup (aCons (eC (.int 0)) aNil)) aNil)) (aCons (eTup (aCons (eC (.int 1)) aNil)) (aCons (e2 (gMul false) (eTup (aCons (eC (.int 1)) aNil)) (eC (.int 7))) aNil))))) (aCons (eRefused (eCall 3 g_never_fills (aCons (eTup (aCons (eTup (aCons (eC (.int 0)) aNil)) aNil)) (aCons (eTup (aCons (eNeg (eC (.int 1))) aNil)) (aCons (eC .non) aNil))))) aNil))))) (sRet (e2 gEq (eV 4) (eLst false (aCons (eC (.str "widths")) (aCons (eC (.str "sizes")) (aCons (eC (.str "sizes")) (aCons (eC (.str "sizes")) (aCons (eC (.str "machine")) (aCons (eC (.str "bag")) (aCons (eC (.str "bins")) (aCons (eC (.str "bag")) aNil)))))))))))))))
def g__law_refuses : GF := fun ss μ => if ss.length = 2 then fin μ.length (fb__law_refuses (startS 5 ss) μ) else none
theorem ok__law_refuses (T : Nm K mg W) {fA : Addr} (TA : ErrTxt P K mg "BadArgument" "name" W.CA fA) (R_law_refused : St0 K mg "_law_refused" (topS 33)) {c PT : Addr} (LT : LamT base mg W "_law_refuses" c PT) (C_machine_of : Cal P w K mg base W 4 "machine_of" st_machine_of ["widths", "sizes"] g_machine_of) (C_parted : Cal P w K mg base W 4 "parted" st_parted ["sizes"] g_parted) (C_is_parted : Cal P w K mg base W 4 "is_parted" st_is_parted ["sizes", "value"] g_is_parted) (C_fills : Cal P w K mg base W 5 "fills" st_fills ["machine", "bag"] g_fills) (C_never_fills : Cal P w K mg base W 5 "never_fills" st_never_fills ["machine", "bag", "bins"] g_never_fills) (C__law_pick : Cal P w K mg base W 2 "_law_pick" st__law_pick ["dice", "things"] g__law_pick) (h : St0C K mg "_law_refuses" st__law_refuses c) : Cal P w K mg base W 9 "_law_refuses" st__law_refuses ["dice", "sizes"] g__law_refuses := by
  obtain ⟨f, fd, hm, hF, hcc⟩ := h.ex
  refine ⟨f, fd, hm, hF, fn_keepsC (N := N__law_refuses) (fb := fb__law_refuses) hF hcc sc__law_refuses (fun A outer s H E hr => ?_) (fun ss μ r hl hg => by have hl : ss.length = 2 := hl; unfold g__law_refuses at hg; rw [if_pos hl] at hg; exact hg)⟩
  have hu65 := hr.u65
  exact qs_cons (by exact qs_set (i := 2) sc__law_refuses.nd (by exact q_call (ps := ["dice", "things"]) C__law_pick (hr.mono (by decide)) (passes_call (takes_of rfl rfl rfl rfl) fun _ _ _ _ h => h) (by exact qa_cons (by exact q_v 0) (by exact qa_cons (by exact q_lst (mk := false) (by exact qa_cons q_non (by exact qa_cons (by exact q_tup qa_nil) (by exact qa_cons (by exact q_lst (mk := false) (by exact qa_cons q_int qa_nil)) (by exact qa_cons (by exact q_tup (by exact qa_cons q_int (by exact qa_cons q_int qa_nil))) (by exact qa_cons (by exact q_tup (by exact qa_cons q_int (by exact qa_cons q_int qa_nil))) (by exact qa_cons (by exact q_tup (by exact qa_cons q_int qa_nil)) (by exact qa_cons (by exact q_tup (by exact qa_cons q_int qa_nil)) (by exact qa_cons (by exact q_tup (by exact qa_cons q_int (by exact qa_cons q_int (by exact qa_cons q_int (by exact qa_cons q_int (by exact qa_cons q_int (by exact qa_cons q_int (by exact qa_cons q_int (by exact qa_cons q_int qa_nil))))))))) qa_nil))))))))) qa_nil)) bi__law_pick)) (by exact qs_cons (by exact qs_set (i := 3) sc__law_refuses.nd (by exact q_call (ps := ["dice", "things"]) C__law_pick (hr.mono (by decide)) (passes_call (takes_of rfl rfl rfl rfl) fun _ _ _ _ h => h) (by exact qa_cons (by exact q_v 0) (by exact qa_cons (by exact q_lst (mk := false) (by exact qa_cons q_non (by exact qa_cons (by exact q_tup qa_nil) (by exact qa_cons (by exact q_ty call_list_of (k_lst (mk := false)) T.list (by decide +kernel) (by exact qa_cons (by exact q_v 1) qa_nil)) (by exact qa_cons (by exact q_tup (by exact qa_cons (by exact q_tup (by exact qa_cons q_int (by exact qa_cons q_int qa_nil))) qa_nil)) (by exact qa_cons (by exact q_tup (by exact qa_cons (by exact q_tup (by exact qa_cons q_int (by exact qa_cons q_int qa_nil))) qa_nil)) (by exact qa_cons (by exact q_tup (by exact qa_cons (by exact q_tup (by exact qa_cons q_int (by exact qa_cons q_int qa_nil))) qa_nil)) (by exact qa_cons (by exact q_tup (by exact qa_cons (by exact q_tup (by exact qa_cons q_int qa_nil)) qa_nil)) (by exact qa_cons (by exact q_op op_mulAll (o2_mulI (mk := false)) (by exact q_tup (by exact qa_cons (by exact q_tup (by exact qa_cons q_int (by exact qa_cons q_int qa_nil))) qa_nil)) q_int) qa_nil))))))))) qa_nil)) bi__law_pick)) (by exact qs_cons (by exact qs_set (i := 4) sc__law_refuses.nd (by exact q_lst (mk := false) (by exact qa_cons (by exact q_refused (k := 4) TA R_law_refused LT rfl rfl (hr.mono (by decide)) (fun _ _ _ _ _ _ _ hr => by exact q_call (ps := ["widths", "sizes"]) C_machine_of (hr.mono (by decide)) (passes_call (takes_of rfl rfl rfl rfl) fun _ _ _ _ h => h) (by exact qa_cons (by exact q_v 2) (by exact qa_cons (by exact q_v 3) qa_nil)) bi_machine_of)) (by exact qa_cons (by exact q_refused (k := 4) TA R_law_refused LT rfl rfl (hr.mono (by decide)) (fun _ _ _ _ _ _ _ hr => by exact q_call (ps := ["widths", "sizes"]) C_machine_of (hr.mono (by decide)) (passes_call (takes_of rfl rfl rfl rfl) fun _ _ _ _ h => h) (by exact qa_cons (by exact q_tup (by exact qa_cons q_int qa_nil)) (by exact qa_cons (by exact q_v 3) qa_nil)) bi_machine_of)) (by exact qa_cons (by exact q_refused (k := 4) TA R_law_refused LT rfl rfl (hr.mono (by decide)) (fun _ _ _ _ _ _ _ hr => by exact q_call (ps := ["sizes"]) C_parted (hr.mono (by decide)) (passes_call (takes_of rfl rfl rfl rfl) fun _ _ _ _ h => h) (by exact qa_cons (by exact q_v 3) qa_nil) bi_parted)) (by exact qa_cons (by exact q_refused (k := 4) TA R_law_refused LT rfl rfl (hr.mono (by decide)) (fun _ _ _ _ _ _ _ hr => by exact q_call (ps := ["sizes", "value"]) C_is_parted (hr.mono (by decide)) (passes_call (takes_of rfl rfl rfl rfl) fun _ _ _ _ h => h) (by exact qa_cons (by exact q_v 3) (by exact qa_cons (by exact q_tup qa_nil) qa_nil)) bi_is_parted)) qa_nil)))))) (by exact qs_cons (by exact qs_set (i := 4) sc__law_refuses.nd (by exact q_op op_addAll (o2_add (mk := false)) (by exact q_v 4) (by exact q_lst (mk := false) (by exact qa_cons (by exact q_refused (k := 5) TA R_law_refused LT rfl rfl (hr.mono (by decide)) (fun _ _ _ _ _ _ _ hr => by exact q_call (ps := ["machine", "bag"]) C_fills (hr.mono (by decide)) (passes_call (takes_of rfl rfl rfl rfl) fun _ _ _ _ h => h) (by exact qa_cons (by exact q_tup qa_nil) (by exact qa_cons (by exact q_tup qa_nil) qa_nil)) bi_fills)) (by exact qa_cons (by exact q_refused (k := 5) TA R_law_refused LT rfl rfl (hr.mono (by decide)) (fun _ _ _ _ _ _ _ hr => by exact q_call (ps := ["machine", "bag"]) C_fills (hr.mono (by decide)) (passes_call (takes_of rfl rfl rfl rfl) fun _ _ _ _ h => h) (by exact qa_cons (by exact q_tup (by exact qa_cons (by exact q_tup (by exact qa_cons q_int qa_nil)) qa_nil)) (by exact qa_cons (by exact q_tup (by exact qa_cons q_int (by exact qa_cons q_int qa_nil))) qa_nil)) bi_fills)) qa_nil))))) (by exact qs_cons (by exact qs_set (i := 4) sc__law_refuses.nd (by exact q_op op_addAll (o2_add (mk := false)) (by exact q_v 4) (by exact q_lst (mk := false) (by exact qa_cons (by exact q_refused (k := 5) TA R_law_refused LT rfl rfl (hr.mono (by decide)) (fun _ _ _ _ _ _ _ hr => by exact q_call (ps := ["machine", "bag", "bins"]) C_never_fills (hr.mono (by decide)) (passes_call (takes_of rfl rfl rfl rfl) fun _ _ _ _ h => h) (by exact qa_cons (by exact q_tup (by exact qa_cons (by exact q_tup (by exact qa_cons q_int qa_nil)) qa_nil)) (by exact qa_cons (by exact q_tup (by exact qa_cons q_int qa_nil)) (by exact qa_cons (by exact q_op op_mulAll (o2_mulI (mk := false)) (by exact q_tup (by exact qa_cons q_int qa_nil)) q_int) qa_nil))) bi_never_fills)) (by exact qa_cons (by exact q_refused (k := 5) TA R_law_refused LT rfl rfl (hr.mono (by decide)) (fun _ _ _ _ _ _ _ hr => by exact q_call (ps := ["machine", "bag", "bins"]) C_never_fills (hr.mono (by decide)) (passes_call (takes_of rfl rfl rfl rfl) fun _ _ _ _ h => h) (by exact qa_cons (by exact q_tup (by exact qa_cons (by exact q_tup (by exact qa_cons q_int qa_nil)) qa_nil)) (by exact qa_cons (by exact q_tup (by exact qa_cons (by exact q_neg q_int) qa_nil)) (by exact qa_cons q_non qa_nil))) bi_never_fills)) qa_nil))))) (by exact qs_one (by exact qs_ret (by exact q_cmp (op_eqD hr.units) o2_eq (by exact q_v 4) (by exact q_lst (mk := false) (by exact qa_cons q_str (by exact qa_cons q_str (by exact qa_cons q_str (by exact qa_cons q_str (by exact qa_cons q_str (by exact qa_cons q_str (by exact qa_cons q_str (by exact qa_cons q_str qa_nil))))))))) (nomark _))))))))

abbrev pm_machine_of_0_sizes_widths {α : Type} : List α → List α → List α := pmF 0 2 [(true, 1), (true, 0)]
theorem pm_machine_of_0_sizes_widths_b (kV doc pm : Value) (an : Option Addr) (cdv ct : Value) (us ws : List Value) (hl : (pm_machine_of_0_sizes_widths us ws).length = 2) : bindArgs (PySem.W.fnOf "machine_of" "machine_of" (defArgs st_machine_of) (defBody st_machine_of) (defScope st_machine_of) .none kV doc pm an cdv ct) ⟨us, (["sizes", "widths"] : List Str).zip ws⟩ = pure ((["widths", "sizes"] : List Str).zip (pm_machine_of_0_sizes_widths us ws)) :=
  match us, ws, pmF_some (show (pm_machine_of_0_sizes_widths us ws).length ≠ 0 by rw [hl]; decide) with | [], [_, _], _ => rfl
abbrev pm_parted_0_sizes {α : Type} : List α → List α → List α := pmF 0 1 [(true, 0)]
theorem pm_parted_0_sizes_b (kV doc pm : Value) (an : Option Addr) (cdv ct : Value) (us ws : List Value) (hl : (pm_parted_0_sizes us ws).length = 1) : bindArgs (PySem.W.fnOf "parted" "parted" (defArgs st_parted) (defBody st_parted) (defScope st_parted) .none kV doc pm an cdv ct) ⟨us, (["sizes"] : List Str).zip ws⟩ = pure ((["sizes"] : List Str).zip (pm_parted_0_sizes us ws)) :=
  match us, ws, pmF_some (show (pm_parted_0_sizes us ws).length ≠ 0 by rw [hl]; decide) with | [], [_], _ => rfl
abbrev pm_is_parted_1_value {α : Type} : List α → List α → List α := pmF 1 1 [(false, 0), (true, 0)]
theorem pm_is_parted_1_value_b (kV doc pm : Value) (an : Option Addr) (cdv ct : Value) (us ws : List Value) (hl : (pm_is_parted_1_value us ws).length = 2) : bindArgs (PySem.W.fnOf "is_parted" "is_parted" (defArgs st_is_parted) (defBody st_is_parted) (defScope st_is_parted) .none kV doc pm an cdv ct) ⟨us, (["value"] : List Str).zip ws⟩ = pure ((["sizes", "value"] : List Str).zip (pm_is_parted_1_value us ws)) :=
  match us, ws, pmF_some (show (pm_is_parted_1_value us ws).length ≠ 0 by rw [hl]; decide) with | [_], [_], _ => rfl
abbrev pm_fills_0_bag_machine {α : Type} : List α → List α → List α := pmF 0 2 [(true, 1), (true, 0)]
theorem pm_fills_0_bag_machine_b (kV doc pm : Value) (an : Option Addr) (cdv ct : Value) (us ws : List Value) (hl : (pm_fills_0_bag_machine us ws).length = 2) : bindArgs (PySem.W.fnOf "fills" "fills" (defArgs st_fills) (defBody st_fills) (defScope st_fills) .none kV doc pm an cdv ct) ⟨us, (["bag", "machine"] : List Str).zip ws⟩ = pure ((["machine", "bag"] : List Str).zip (pm_fills_0_bag_machine us ws)) :=
  match us, ws, pmF_some (show (pm_fills_0_bag_machine us ws).length ≠ 0 by rw [hl]; decide) with | [], [_, _], _ => rfl
abbrev pm_never_fills_0_bins_bag_machine {α : Type} : List α → List α → List α := pmF 0 3 [(true, 2), (true, 1), (true, 0)]
theorem pm_never_fills_0_bins_bag_machine_b (kV doc pm : Value) (an : Option Addr) (cdv ct : Value) (us ws : List Value) (hl : (pm_never_fills_0_bins_bag_machine us ws).length = 3) : bindArgs (PySem.W.fnOf "never_fills" "never_fills" (defArgs st_never_fills) (defBody st_never_fills) (defScope st_never_fills) .none kV doc pm an cdv ct) ⟨us, (["bins", "bag", "machine"] : List Str).zip ws⟩ = pure ((["machine", "bag", "bins"] : List Str).zip (pm_never_fills_0_bins_bag_machine us ws)) :=
  match us, ws, pmF_some (show (pm_never_fills_0_bins_bag_machine us ws).length ≠ 0 by rw [hl]; decide) with | [], [_, _, _], _ => rfl
/-! ### _law_right -/
abbrev st__law_right : Stmt := topS 40
abbrev N__law_right : List Str := ["dice", "far", "sizes", "kind", "widths", "hole", "machine", "size", "clash", "one", "two", "found", "start", "turn", "at", "odd", "near", "bag", "most", "slot", "bins", "due"]
theorem sc__law_right : FnScope N__law_right ["dice"] (defScope st__law_right) := ⟨rfl, rfl, rfl, by decide +kernel, rfl, by decide +kernel, by decide +kernel⟩
theorem bi__law_right (kV doc pm : Value) (an : Option Addr) (cdv ct : Value) (us : List Value) (hl : us.length = 1) : bindArgs (PySem.W.fnOf "_law_right" "_law_right" (defArgs st__law_right) (defBody st__law_right) (defScope st__law_right) .none kV doc pm an cdv ct) ⟨us, []⟩ = pure ((["dice"] : List Str).zip us) :=
  match us, hl with | [_], _ => rfl
def lb__law_right_0 : SF := sSet 8 (e2 (gAdd false) (eV 8) (eLc false [10] (iRg none (eV 9)) (hName 10) (bAnd (tst (e2 gLe (e2 gIx (e2 gIx (eV 2) (eV 9)) (eC (.int 0))) (e2 gIx (e2 gIx (eV 2) (eV 10)) (eC (.int 1))))) (tst (e2 gLe (e2 gIx (e2 gIx (eV 2) (eV 10)) (eC (.int 0))) (e2 gIx (e2 gIx (eV 2) (eV 9)) (eC (.int 1)))))) (eV 10)))
def lb__law_right_1 : SF := sSeq (sSet 14 (eCall 2 g__law_roll (aCons (eV 0) (aCons (e2 (gAdd false) (eB (gLen) (aCons (eV 12) aNil)) (eC (.int 1))) aNil)))) (sSeq (sSet 15 (eLst false (aCons (eV 4) (aCons (e2 (gAdd false) (eCut false (eV 12) none (some (eV 14))) (eCut false (eV 12) (some (e2 (gAdd false) (eV 14) (eC (.int 1)))) none)) (aCons (eB (gTup) (aCons (eSortedSet false (e2 (gAdd false) (eV 12) (eTup (aCons (e2 (gAdd false) (eC (.int 1)) (eCall 2 g__law_roll (aCons (eV 0) (aCons (eV 1) aNil)))) aNil)))) aNil)) (aCons (eRev false (eV 12)) (aCons (eB (gLst false) (aCons (eV 12) aNil)) (aCons (eC .non) aNil)))))))) (sSeq (sSet 16 (eCall 2 g__law_pick (aCons (eV 0) (aCons (e2 (gAdd false) (eV 15) (eLst false (aCons (eB (gTup) (aCons (eLc false [9] (iSeq (eV 12)) (hName 9) bYes (eB (gMin) (aCons (eC (.int 1000)) (aCons (e2 (gAdd false) (eV 9) (eC (.int 1))) aNil)))) aNil)) aNil))) aNil)))) (sIf (tst (e2 gNe (eCallK 2 g_is_parted pm_is_parted_1_value (aCons (eV 2) aNil) (aCons (eV 16) aNil)) (eCall 2 g__law_parts (aCons (eV 2) (aCons (eV 16) aNil))))) (sRet (eC (.bl false))) sNx)))
def fb__law_right : SF := sSeq (sSet 1 (eCall 2 g__law_pick (aCons (eV 0) (aCons (eLst false (aCons (eC (.int 10)) (aCons (eC (.int 40)) (aCons (eC (.int 990)) aNil)))) aNil)))) (sSeq (sSet 2 (eB (gTup) (aCons (eLc false [3] (iRg none (e2 (gAdd false) (eC (.int 1)) (eCall 2 g__law_roll (aCons (eV 0) (aCons (eC (.int 6)) aNil))))) (hName 3) bYes (eCall 2 g__law_size (aCons (eV 0) (aCons (eV 1) aNil)))) aNil))) (sSeq (sSet 4 (eB (gTup) (aCons (eSortedSet false (eLc false [5] (iRg none (e2 (gAdd false) (eC (.int 1)) (eCall 2 g__law_roll (aCons (eV 0) (aCons (eC (.int 7)) aNil))))) (hName 5) bYes (e2 (gAdd false) (eC (.int 1)) (eCall 2 g__law_roll (aCons (eV 0) (aCons (eV 1) aNil)))))) aNil))) (sSeq (sSet 6 (eB (gTup) (aCons (eLc false [7] (iSeq (eV 2)) (hName 7) bYes (eCall 2 g__law_slots (aCons (eV 4) (aCons (eV 7) aNil)))) aNil))) (sSeq (sIf (bOr (tst (e2 gNe (eCall 2 g_machine_of (aCons (eV 4) (aCons (eV 2) aNil))) (eV 6))) (tst (e2 gNe (eCallK0 2 g_machine_of pm_machine_of_0_sizes_widths (aCons (eV 2) (aCons (eV 4) aNil))) (eV 6)))) (sRet (eC (.bl false))) sNx) (sSeq (sSet 8 (eLst false aNil)) (sSeq (sFor (iRg none (eB (gLen) (aCons (eV 2) aNil))) (hName 9) lb__law_right_0) (sSeq (sSet 11 (eCallK0 1 g_parted pm_parted_0_sizes (aCons (eV 2) aNil))) (sSeq (sIf (tst (e2 gNe (e2 gIsN (eV 11) (eC .non)) (e2 gNe (eV 8) (eLst false aNil)))) (sRet (eC (.bl false))) sNx) (sSeq (sIf (bAnd (tst (e2 gNotN (eV 11) (eC .non))) (bOr (bNot (tst (eCall 2 g__law_parts (aCons (eV 2) (aCons (eV 11) aNil))))) (bOr (tst (e2 gNe (eB (gLen) (aCons (eV 11) aNil)) (eB (gMax) (aCons (eC (.int 1)) (aCons (e2 (gSub) (eB (gLen) (aCons (eV 2) aNil)) (eC (.int 1))) aNil))))) (tst (e2 gNotB (eCall 2 g_is_parted (aCons (eV 2) (aCons (eV 11) aNil))) (eC (.bl true))))))) (sRet (eC (.bl false))) sNx) (sSeq (sSet 12 (eIf (tst (e2 gNotN (eV 11) (eC .non))) (eV 11) (eV 4))) (sSeq (sFor (iRg none (eC (.int 5))) (hName 13) lb__law_right_1) (sSeq (sSet 17 (eCall 3 g__law_b_bag (aCons (eV 0) (aCons (eB (gLen) (aCons (eV 6) aNil)) (aCons (eC (.int 1800)) aNil))))) (sSeq (sSet 18 (eLc false [19] (iRg none (eC (.int 8))) (hName 19) bYes (eB (gSum) (aCons (eLc false [3] (iRg none (eB (gLen) (aCons (eV 17) aNil))) (hName 3) (tst (e2 (gIn false) (eV 19) (e2 gIx (eV 6) (eV 3)))) (e2 gIx (eV 17) (eV 3))) aNil)))) (sSeq (sSet 20 (eB (gTup) (aCons (eLc false [9] (iSeq (eV 18)) (hName 9) bYes (eB (gMax) (aCons (eC (.int 0)) (aCons (e2 (gAdd false) (eV 9) (eCall 2 g__law_pick (aCons (eV 0) (aCons (eLst false (aCons (eC (.int 0)) (aCons (eC (.int 0)) (aCons (eC (.int 0)) (aCons (eC (.int 0)) (aCons (eC (.int 1)) (aCons (eNeg (eC (.int 1))) aNil))))))) aNil)))) aNil)))) aNil))) (sSeq (sSet 21 (e2 gEq (eLc false [19] (iRg none (eC (.int 8))) (hName 19) (tst (e2 gGt (e2 gIx (eV 18) (eV 19)) (e2 gIx (eV 20) (eV 19)))) (eV 19)) (eLst false aNil))) (sSeq (sIf (bOr (tst (e2 gNe (eB (gLst false) (aCons (eCall 2 g_fills (aCons (eV 6) (aCons (eV 17) aNil))) aNil)) (eV 18))) (tst (e2 gNe (eCallK0 2 g_fills pm_fills_0_bag_machine (aCons (eV 17) (aCons (eV 6) aNil))) (eCall 2 g_fills (aCons (eV 6) (aCons (eV 17) aNil)))))) (sRet (eC (.bl false))) sNx) (sRet (eAnd (e2 gEq (eCall 3 g_never_fills (aCons (eV 6) (aCons (eV 17) (aCons (eV 20) aNil)))) (eV 21)) (eAnd (e2 gEq (eCallK0 3 g_never_fills pm_never_fills_0_bins_bag_machine (aCons (eV 20) (aCons (eV 17) (aCons (eV 6) aNil)))) (eV 21)) (eCall 2 g__law_refuses (aCons (eV 0) (aCons (eV 2) aNil))))))))))))))))))))))
def g__law_right : GF := fun ss μ => if ss.length = 1 then fin μ.length (fb__law_right (startS 22 ss) μ) else none
theorem ok__law_right (T : Nm K mg W) (C_machine_of : Cal P w K mg base W 4 "machine_of" st_machine_of ["widths", "sizes"] g_machine_of) (C_parted : Cal P w K mg base W 4 "parted" st_parted ["sizes"] g_parted) (C_is_parted : Cal P w K mg base W 4 "is_parted" st_is_parted ["sizes", "value"] g_is_parted) (C_fills : Cal P w K mg base W 5 "fills" st_fills ["machine", "bag"] g_fills) (C_never_fills : Cal P w K mg base W 5 "never_fills" st_never_fills ["machine", "bag", "bins"] g_never_fills) (C__law_roll : Cal P w K mg base W 1 "_law_roll" st__law_roll ["dice", "total"] g__law_roll) (C__law_pick : Cal P w K mg base W 2 "_law_pick" st__law_pick ["dice", "things"] g__law_pick) (C__law_b_bag : Cal P w K mg base W 3 "_law_b_bag" st__law_b_bag ["dice", "kinds", "most"] g__law_b_bag) (C__law_slots : Cal P w K mg base W 1 "_law_slots" st__law_slots ["widths", "size"] g__law_slots) (C__law_parts : Cal P w K mg base W 2 "_law_parts" st__law_parts ["sizes", "value"] g__law_parts) (C__law_size : Cal P w K mg base W 3 "_law_size" st__law_size ["dice", "far"] g__law_size) (C__law_refuses : Cal P w K mg base W 9 "_law_refuses" st__law_refuses ["dice", "sizes"] g__law_refuses) (h : St0 K mg "_law_right" st__law_right) : Cal P w K mg base W 10 "_law_right" st__law_right ["dice"] g__law_right := by
  obtain ⟨f, fd, hm, hF⟩ := h.ex
  refine ⟨f, fd, hm, hF, fn_keeps (N := N__law_right) (fb := fb__law_right) hF sc__law_right (fun cdv A outer s H E hr => ?_) (fun ss μ r hl hg => by have hl : ss.length = 1 := hl; unfold g__law_right at hg; rw [if_pos hl] at hg; exact hg)⟩
  have hu65 := hr.u65
  exact qs_cons (by exact qs_set (i := 1) sc__law_right.nd (by exact q_call (ps := ["dice", "things"]) C__law_pick (hr.mono (by decide)) (passes_call (takes_of rfl rfl rfl rfl) fun _ _ _ _ h => h) (by exact qa_cons (by exact q_v 0) (by exact qa_cons (by exact q_lst (mk := false) (by exact qa_cons q_int (by exact qa_cons q_int (by exact qa_cons q_int qa_nil)))) qa_nil)) bi__law_pick)) (by exact qs_cons (by exact qs_set (i := 2) sc__law_right.nd (by exact q_ty call_tuple_of k_tup T.tuple (by decide +kernel) (by exact qa_cons (by exact q_lc (mk := false) (own := [("kind", 3)]) rfl sc__law_right.nd (blkOk_by (own := [("kind", 3)]) (N := N__law_right) (sc := defScope st__law_right) (by decide +kernel)) (by exact q_irg1 T.range (by exact q_op op_addAll (o2_add (mk := false)) q_int (by exact q_call (ps := ["dice", "total"]) C__law_roll (hr.mono (by decide)) (passes_call (takes_of rfl rfl rfl rfl) fun _ _ _ _ h => h) (by exact qa_cons (by exact q_v 0) (by exact qa_cons q_int qa_nil)) bi__law_roll))) (fun _ _ _ _ _ => by exact q_tname sc__law_right.nd (i := 3)) (fun _ _ _ _ _ => by exact qts_nil) (fun _ _ _ _ _ => by exact q_call (ps := ["dice", "far"]) C__law_size (hr.mono (by decide)) passL (by exact qa_cons (by exact q_v 0) (by exact qa_cons (by exact q_v 1) qa_nil)) bi__law_size)) qa_nil))) (by exact qs_cons (by exact qs_set (i := 4) sc__law_right.nd (by exact q_ty call_tuple_of k_tup T.tuple (by decide +kernel) (by exact qa_cons (by exact q_sortedSet (mk := false) rfl T.sorted T.set (by exact q_lc (mk := false) (own := [("hole", 5)]) rfl sc__law_right.nd (blkOk_by (own := [("hole", 5)]) (N := N__law_right) (sc := defScope st__law_right) (by decide +kernel)) (by exact q_irg1 T.range (by exact q_op op_addAll (o2_add (mk := false)) q_int (by exact q_call (ps := ["dice", "total"]) C__law_roll (hr.mono (by decide)) (passes_call (takes_of rfl rfl rfl rfl) fun _ _ _ _ h => h) (by exact qa_cons (by exact q_v 0) (by exact qa_cons q_int qa_nil)) bi__law_roll))) (fun _ _ _ _ _ => by exact q_tname sc__law_right.nd (i := 5)) (fun _ _ _ _ _ => by exact qts_nil) (fun _ _ _ _ _ => by exact q_op op_addAll (o2_add (mk := false)) q_int (by exact q_call (ps := ["dice", "total"]) C__law_roll (hr.mono (by decide)) passL (by exact qa_cons (by exact q_v 0) (by exact qa_cons (by exact q_v 1) qa_nil)) bi__law_roll)))) qa_nil))) (by exact qs_cons (by exact qs_set (i := 6) sc__law_right.nd (by exact q_ty call_tuple_of k_tup T.tuple (by decide +kernel) (by exact qa_cons (by exact q_lc (mk := false) (own := [("size", 7)]) rfl sc__law_right.nd (blkOk_by (own := [("size", 7)]) (N := N__law_right) (sc := defScope st__law_right) (by decide +kernel)) (by exact q_iseq (by exact q_v 2)) (fun _ _ _ _ _ => by exact q_tname sc__law_right.nd (i := 7)) (fun _ _ _ _ _ => by exact qts_nil) (fun _ _ _ _ _ => by exact q_call (ps := ["widths", "size"]) C__law_slots (hr.mono (by decide)) passL (by exact qa_cons (by exact q_v 4) (by exact qa_cons (by exact q_v 7) qa_nil)) bi__law_slots)) qa_nil))) (by exact qs_cons (by exact qs_if (by exact PW.pt (by exact qw_or (by exact qt_cmp (op_neD hr.units) o2_ne (by exact q_call (ps := ["widths", "sizes"]) C_machine_of (hr.mono (by decide)) (passes_call (takes_of rfl rfl rfl rfl) fun _ _ _ _ h => h) (by exact qa_cons (by exact q_v 4) (by exact qa_cons (by exact q_v 2) qa_nil)) bi_machine_of) (by exact q_v 6) (nomark _)) (by exact qw_or1 (by exact qt_cmp (op_neD hr.units) o2_ne (by exact q_callK0 (ps := ["widths", "sizes"]) (ks := ["sizes", "widths"]) (perm := fun {α} => pm_machine_of_0_sizes_widths) C_machine_of (hr.mono (by decide)) (passes_call (takes_of rfl rfl rfl rfl) fun _ _ _ _ h => h) (by exact qk_cons (by exact q_v 2) (by exact qk_cons (by exact q_v 4) qk_nil)) (pm_machine_of_0_sizes_widths_b) (fun h1 h2 => pmF_vals h1 h2) (fun h1 h2 => pmF_den h1 h2)) (by exact q_v 6) (nomark _))))) (by exact qs_one (by exact qs_ret q_bl)) qs_nil) (by exact qs_cons (by exact qs_set (i := 8) sc__law_right.nd (by exact q_lst (mk := false) qa_nil)) (by exact qs_cons (by exact qs_for (passes_of rfl) rfl (by exact q_irg1 T.range (by exact q_bi c_len k_len T.len (by decide +kernel) (by exact qa_cons (by exact q_v 2) qa_nil))) (by exact q_tname sc__law_right.nd (i := 9)) (by exact qs_one (by exact qs_set (i := 8) sc__law_right.nd (by exact q_op op_addAll (o2_add (mk := false)) (by exact q_v 8) (by exact q_lc (mk := false) (own := [("two", 10)]) rfl sc__law_right.nd (blkOk_by (own := [("two", 10)]) (N := N__law_right) (sc := defScope st__law_right) (by decide +kernel)) (by exact q_irg1 T.range (by exact q_v 9)) (fun _ _ _ _ _ => by exact q_tname sc__law_right.nd (i := 10)) (fun _ _ _ _ _ => by exact qts_one (by exact PW.pt (by exact qw_and (by exact qt_cmp op_le o2_le (by exact q_ix (by exact q_ix (by exact q_v 2) (by exact q_v 9)) q_int) (by exact q_ix (by exact q_ix (by exact q_v 2) (by exact q_v 10)) q_int) (nomark _)) (by exact qw_and1 (by exact qt_cmp op_le o2_le (by exact q_ix (by exact q_ix (by exact q_v 2) (by exact q_v 10)) q_int) (by exact q_ix (by exact q_ix (by exact q_v 2) (by exact q_v 9)) q_int) (nomark _)))))) (fun _ _ _ _ _ => by exact q_v 10)))))) (by exact qs_cons (by exact qs_set (i := 11) sc__law_right.nd (by exact q_callK0 (ps := ["sizes"]) (ks := ["sizes"]) (perm := fun {α} => pm_parted_0_sizes) C_parted (hr.mono (by decide)) (passes_call (takes_of rfl rfl rfl rfl) fun _ _ _ _ h => h) (by exact qk_cons (by exact q_v 2) qk_nil) (pm_parted_0_sizes_b) (fun h1 h2 => pmF_vals h1 h2) (fun h1 h2 => pmF_den h1 h2))) (by exact qs_cons (by exact qs_if (by exact qt_cmp (op_neD hr.units) o2_ne (by exact q_cmp op_isN o2_isN (by exact q_v 11) q_non (nomark _)) (by exact q_cmp (op_neD hr.units) o2_ne (by exact q_v 8) (by exact q_lst (mk := false) qa_nil) (nomark _)) (nomark _)) (by exact qs_one (by exact qs_ret q_bl)) qs_nil) (by exact qs_cons (by exact qs_if (by exact PW.pt (by exact qw_and (by exact qt_cmp op_notN o2_notN (by exact q_v 11) q_non (nomark _)) (by exact qw_and1 (by exact PW.pt (by exact qw_or (by exact qt_not (by exact qt_val (by exact q_call (ps := ["sizes", "value"]) C__law_parts (hr.mono (by decide)) (passes_call (takes_of rfl rfl rfl rfl) fun _ _ _ _ h => h) (by exact qa_cons (by exact q_v 2) (by exact qa_cons (by exact q_v 11) qa_nil)) bi__law_parts))) (by exact qw_or (by exact qt_cmp (op_neD hr.units) o2_ne (by exact q_bi c_len k_len T.len (by decide +kernel) (by exact qa_cons (by exact q_v 11) qa_nil)) (by exact q_bi (c_max rfl) k_max T.max (by decide +kernel) (by exact qa_cons q_int (by exact qa_cons (by exact q_op op_sub o2_sub (by exact q_bi c_len k_len T.len (by decide +kernel) (by exact qa_cons (by exact q_v 2) qa_nil)) q_int) qa_nil))) (nomark _)) (by exact qw_or1 (by exact qt_cmp op_notBl o2_notB (by exact q_call (ps := ["sizes", "value"]) C_is_parted (hr.mono (by decide)) (passes_call (takes_of rfl rfl rfl rfl) fun _ _ _ _ h => h) (by exact qa_cons (by exact q_v 2) (by exact qa_cons (by exact q_v 11) qa_nil)) bi_is_parted) q_bl (nomark _))))))))) (by exact qs_one (by exact qs_ret q_bl)) qs_nil) (by exact qs_cons (by exact qs_set (i := 12) sc__law_right.nd (by exact q_if (by exact qt_cmp op_notN o2_notN (by exact q_v 11) q_non (nomark _)) (by exact q_v 11) (by exact q_v 4))) (by exact qs_cons (by exact qs_for (passes_of rfl) rfl (by exact q_irg1 T.range q_int) (by exact q_tname sc__law_right.nd (i := 13)) (by exact qs_cons (by exact qs_set (i := 14) sc__law_right.nd (by exact q_call (ps := ["dice", "total"]) C__law_roll (hr.mono (by decide)) (passes_call (takes_of rfl rfl rfl rfl) fun _ _ _ _ h => h) (by exact qa_cons (by exact q_v 0) (by exact qa_cons (by exact q_op op_addAll (o2_add (mk := false)) (by exact q_bi c_len k_len T.len (by decide +kernel) (by exact qa_cons (by exact q_v 12) qa_nil)) q_int) qa_nil)) bi__law_roll)) (by exact qs_cons (by exact qs_set (i := 15) sc__law_right.nd (by exact q_lst (mk := false) (by exact qa_cons (by exact q_v 4) (by exact qa_cons (by exact q_op op_addAll (o2_add (mk := false)) (by exact q_cut (mk := false) (by exact q_v 12) qp_none (by exact qp_some (by exact q_v 14))) (by exact q_cut (mk := false) (by exact q_v 12) (by exact qp_some (by exact q_op op_addAll (o2_add (mk := false)) (by exact q_v 14) q_int)) qp_none)) (by exact qa_cons (by exact q_ty call_tuple_of k_tup T.tuple (by decide +kernel) (by exact qa_cons (by exact q_sortedSet (mk := false) rfl T.sorted T.set (by exact q_op op_addAll (o2_add (mk := false)) (by exact q_v 12) (by exact q_tup (by exact qa_cons (by exact q_op op_addAll (o2_add (mk := false)) q_int (by exact q_call (ps := ["dice", "total"]) C__law_roll (hr.mono (by decide)) (passes_call (takes_of rfl rfl rfl rfl) fun _ _ _ _ h => h) (by exact qa_cons (by exact q_v 0) (by exact qa_cons (by exact q_v 1) qa_nil)) bi__law_roll)) qa_nil)))) qa_nil)) (by exact qa_cons (by exact q_rev (mk := false) (by exact q_v 12)) (by exact qa_cons (by exact q_ty call_list_of (k_lst (mk := false)) T.list (by decide +kernel) (by exact qa_cons (by exact q_v 12) qa_nil)) (by exact qa_cons q_non qa_nil)))))))) (by exact qs_cons (by exact qs_set (i := 16) sc__law_right.nd (by exact q_call (ps := ["dice", "things"]) C__law_pick (hr.mono (by decide)) (passes_call (takes_of rfl rfl rfl rfl) fun _ _ _ _ h => h) (by exact qa_cons (by exact q_v 0) (by exact qa_cons (by exact q_op op_addAll (o2_add (mk := false)) (by exact q_v 15) (by exact q_lst (mk := false) (by exact qa_cons (by exact q_ty call_tuple_of k_tup T.tuple (by decide +kernel) (by exact qa_cons (by exact q_lc (mk := false) (own := [("one", 9)]) rfl sc__law_right.nd (blkOk_by (own := [("one", 9)]) (N := N__law_right) (sc := defScope st__law_right) (by decide +kernel)) (by exact q_iseq (by exact q_v 12)) (fun _ _ _ _ _ => by exact q_tname sc__law_right.nd (i := 9)) (fun _ _ _ _ _ => by exact qts_nil) (fun _ _ _ _ _ => by exact q_bi (c_min rfl) k_min T.min (by decide +kernel) (by exact qa_cons q_int (by exact qa_cons (by exact q_op op_addAll (o2_add (mk := false)) (by exact q_v 9) q_int) qa_nil)))) qa_nil)) qa_nil))) qa_nil)) bi__law_pick)) (by exact qs_one (by exact qs_if (by exact qt_cmp (op_neD hr.units) o2_ne (by exact q_callK (ps := ["sizes", "value"]) (ks := ["value"]) (perm := fun {α} => pm_is_parted_1_value) C_is_parted (hr.mono (by decide)) (passes_call (takes_of rfl rfl rfl rfl) fun _ _ _ _ h => h) (by exact qa_cons (by exact q_v 2) qa_nil) (by exact qk_cons (by exact q_v 16) qk_nil) (pm_is_parted_1_value_b) (fun h1 h2 => pmF_vals h1 h2) (fun h1 h2 => pmF_den h1 h2)) (by exact q_call (ps := ["sizes", "value"]) C__law_parts (hr.mono (by decide)) (passes_call (takes_of rfl rfl rfl rfl) fun _ _ _ _ h => h) (by exact qa_cons (by exact q_v 2) (by exact qa_cons (by exact q_v 16) qa_nil)) bi__law_parts) (nomark _)) (by exact qs_one (by exact qs_ret q_bl)) qs_nil)))))) (by exact qs_cons (by exact qs_set (i := 17) sc__law_right.nd (by exact q_call (ps := ["dice", "kinds", "most"]) C__law_b_bag (hr.mono (by decide)) (passes_call (takes_of rfl rfl rfl rfl) fun _ _ _ _ h => h) (by exact qa_cons (by exact q_v 0) (by exact qa_cons (by exact q_bi c_len k_len T.len (by decide +kernel) (by exact qa_cons (by exact q_v 6) qa_nil)) (by exact qa_cons q_int qa_nil))) bi__law_b_bag)) (by exact qs_cons (by exact qs_set (i := 18) sc__law_right.nd (by exact q_lc (mk := false) (own := [("slot", 19)]) rfl sc__law_right.nd (blkOk_by (own := [("slot", 19)]) (N := N__law_right) (sc := defScope st__law_right) (by decide +kernel)) (by exact q_irg1 T.range q_int) (fun _ _ _ _ _ => by exact q_tname sc__law_right.nd (i := 19)) (fun _ _ _ _ _ => by exact qts_nil) (fun _ _ _ _ _ => by exact q_bi (cr_sum rfl) k_sum T.sum (by decide +kernel) (by exact qa_cons (by exact q_lc (mk := false) (own := [("kind", 3)]) rfl sc__law_right.nd (blkOk_by (own := [("kind", 3)]) (N := N__law_right) (by rfl)) (by exact q_irg1 T.range (by exact q_bi c_len k_len T.len (by decide +kernel) (by exact qa_cons (by exact q_v 17) qa_nil))) (fun _ _ _ _ _ => by exact q_tname sc__law_right.nd (i := 3)) (fun _ _ _ _ _ => by exact qts_one (by exact qt_cmp (op_inAll hu65) (o2_in (neg := false)) (by exact q_v 19) (by exact q_ix (by exact q_v 6) (by exact q_v 3)) (by rfl))) (fun _ _ _ _ _ => by exact q_ix (by exact q_v 17) (by exact q_v 3))) qa_nil)))) (by exact qs_cons (by exact qs_set (i := 20) sc__law_right.nd (by exact q_ty call_tuple_of k_tup T.tuple (by decide +kernel) (by exact qa_cons (by exact q_lc (mk := false) (own := [("one", 9)]) rfl sc__law_right.nd (blkOk_by (own := [("one", 9)]) (N := N__law_right) (sc := defScope st__law_right) (by decide +kernel)) (by exact q_iseq (by exact q_v 18)) (fun _ _ _ _ _ => by exact q_tname sc__law_right.nd (i := 9)) (fun _ _ _ _ _ => by exact qts_nil) (fun _ _ _ _ _ => by exact q_bi (c_max rfl) k_max T.max (by decide +kernel) (by exact qa_cons q_int (by exact qa_cons (by exact q_op op_addAll (o2_add (mk := false)) (by exact q_v 9) (by exact q_call (ps := ["dice", "things"]) C__law_pick (hr.mono (by decide)) passL (by exact qa_cons (by exact q_v 0) (by exact qa_cons (by exact q_lst (mk := false) (by exact qa_cons q_int (by exact qa_cons q_int (by exact qa_cons q_int (by exact qa_cons q_int (by exact qa_cons q_int (by exact qa_cons (by exact q_neg q_int) qa_nil))))))) qa_nil)) bi__law_pick)) qa_nil)))) qa_nil))) (by exact qs_cons (by exact qs_set (i := 21) sc__law_right.nd (by exact q_cmp (op_eqD hr.units) o2_eq (by exact q_lc (mk := false) (own := [("slot", 19)]) rfl sc__law_right.nd (blkOk_by (own := [("slot", 19)]) (N := N__law_right) (sc := defScope st__law_right) (by decide +kernel)) (by exact q_irg1 T.range q_int) (fun _ _ _ _ _ => by exact q_tname sc__law_right.nd (i := 19)) (fun _ _ _ _ _ => by exact qts_one (by exact qt_cmp op_gt o2_gt (by exact q_ix (by exact q_v 18) (by exact q_v 19)) (by exact q_ix (by exact q_v 20) (by exact q_v 19)) (nomark _))) (fun _ _ _ _ _ => by exact q_v 19)) (by exact q_lst (mk := false) qa_nil) (nomark _))) (by exact qs_cons (by exact qs_if (by exact PW.pt (by exact qw_or (by exact qt_cmp (op_neD hr.units) o2_ne (by exact q_ty call_list_of (k_lst (mk := false)) T.list (by decide +kernel) (by exact qa_cons (by exact q_call (ps := ["machine", "bag"]) C_fills (hr.mono (by decide)) (passes_call (takes_of rfl rfl rfl rfl) fun _ _ _ _ h => h) (by exact qa_cons (by exact q_v 6) (by exact qa_cons (by exact q_v 17) qa_nil)) bi_fills) qa_nil)) (by exact q_v 18) (nomark _)) (by exact qw_or1 (by exact qt_cmp (op_neD hr.units) o2_ne (by exact q_callK0 (ps := ["machine", "bag"]) (ks := ["bag", "machine"]) (perm := fun {α} => pm_fills_0_bag_machine) C_fills (hr.mono (by decide)) (passes_call (takes_of rfl rfl rfl rfl) fun _ _ _ _ h => h) (by exact qk_cons (by exact q_v 17) (by exact qk_cons (by exact q_v 6) qk_nil)) (pm_fills_0_bag_machine_b) (fun h1 h2 => pmF_vals h1 h2) (fun h1 h2 => pmF_den h1 h2)) (by exact q_call (ps := ["machine", "bag"]) C_fills (hr.mono (by decide)) (passes_call (takes_of rfl rfl rfl rfl) fun _ _ _ _ h => h) (by exact qa_cons (by exact q_v 6) (by exact qa_cons (by exact q_v 17) qa_nil)) bi_fills) (nomark _))))) (by exact qs_one (by exact qs_ret q_bl)) qs_nil) (by exact qs_one (by exact qs_ret (by exact q_and (by exact q_cmp (op_eqD hr.units) o2_eq (by exact q_call (ps := ["machine", "bag", "bins"]) C_never_fills (hr.mono (by decide)) (passes_call (takes_of rfl rfl rfl rfl) fun _ _ _ _ h => h) (by exact qa_cons (by exact q_v 6) (by exact qa_cons (by exact q_v 17) (by exact qa_cons (by exact q_v 20) qa_nil))) bi_never_fills) (by exact q_v 21) (nomark _)) (by exact q_and (by exact q_cmp (op_eqD hr.units) o2_eq (by exact q_callK0 (ps := ["machine", "bag", "bins"]) (ks := ["bins", "bag", "machine"]) (perm := fun {α} => pm_never_fills_0_bins_bag_machine) C_never_fills (hr.mono (by decide)) (passes_call (takes_of rfl rfl rfl rfl) fun _ _ _ _ h => h) (by exact qk_cons (by exact q_v 20) (by exact qk_cons (by exact q_v 17) (by exact qk_cons (by exact q_v 6) qk_nil))) (pm_never_fills_0_bins_bag_machine_b) (fun h1 h2 => pmF_vals h1 h2) (fun h1 h2 => pmF_den h1 h2)) (by exact q_v 21) (nomark _)) (by exact q_one (by exact q_call (ps := ["dice", "sizes"]) C__law_refuses (hr.mono (by decide)) (passes_call (takes_of rfl rfl rfl rfl) fun _ _ _ _ h => h) (by exact qa_cons (by exact q_v 0) (by exact qa_cons (by exact q_v 2) qa_nil)) bi__law_refuses))))))))))))))))))))))

/-! ### law -/
abbrev st_law : Stmt := topS 41
abbrev N_law : List Str := ["script", "spot"]
theorem sc_law : FnScope N_law ["script"] (defScope st_law) := ⟨rfl, rfl, rfl, by decide +kernel, rfl, by decide +kernel, by decide +kernel⟩
theorem bi_law (kV doc pm : Value) (an : Option Addr) (cdv ct : Value) (us : List Value) (hl : us.length = 1) : bindArgs (PySem.W.fnOf "law" "law" (defArgs st_law) (defBody st_law) (defScope st_law) .none kV doc pm an cdv ct) ⟨us, []⟩ = pure ((["script"] : List Str).zip us) :=
  match us, hl with | [_], _ => rfl
def lb_law_0 : SF := sIf (bNot (tst (eCall 1 g__law_right (aCons (eCall 2 g__law_dice (aCons (eV 0) (aCons (eV 1) aNil))) aNil)))) (sRet (eC (.bl false))) sNx
def fb_law : SF := sSeq (sFor (iRg none (eB (gMax) (aCons (eC (.int 1)) (aCons (eB (gMin) (aCons (eC (.int 6)) (aCons (eB (gLen) (aCons (eV 0) aNil)) aNil))) aNil)))) (hName 1) lb_law_0) (sRet (eAnd (e2 gEq (eB (gLen) (aCons (eCall 1 g_parted (aCons (eTup (aCons (eTup (aCons (eC (.int 5)) (aCons (eC (.int 9)) aNil))) aNil)) aNil)) aNil)) (eC (.int 1))) (e2 gIsN (eCall 1 g_parted (aCons (eTup (aCons (eTup (aCons (eC (.int 1)) (aCons (eC (.int 5)) aNil))) (aCons (eTup (aCons (eC (.int 5)) (aCons (eC (.int 9)) aNil))) aNil))) aNil)) (eC .non))))
def g_law : GF := fun ss μ => if ss.length = 1 then fin μ.length (fb_law (startS 2 ss) μ) else none
theorem ok_law (T : Nm K mg W) (C_parted : Cal P w K mg base W 4 "parted" st_parted ["sizes"] g_parted) (C__law_dice : Cal P w K mg base W 1 "_law_dice" st__law_dice ["script", "spot"] g__law_dice) (C__law_right : Cal P w K mg base W 10 "_law_right" st__law_right ["dice"] g__law_right) (h : St0 K mg "law" st_law) : Cal P w K mg base W 11 "law" st_law ["script"] g_law := by
  obtain ⟨f, fd, hm, hF⟩ := h.ex
  refine ⟨f, fd, hm, hF, fn_keeps (N := N_law) (fb := fb_law) hF sc_law (fun cdv A outer s H E hr => ?_) (fun ss μ r hl hg => by have hl : ss.length = 1 := hl; unfold g_law at hg; rw [if_pos hl] at hg; exact hg)⟩
  have hu65 := hr.u65
  exact qs_cons (by exact qs_for (passes_of rfl) rfl (by exact q_irg1 T.range (by exact q_bi (c_max rfl) k_max T.max (by decide +kernel) (by exact qa_cons q_int (by exact qa_cons (by exact q_bi (c_min rfl) k_min T.min (by decide +kernel) (by exact qa_cons q_int (by exact qa_cons (by exact q_bi c_len k_len T.len (by decide +kernel) (by exact qa_cons (by exact q_v 0) qa_nil)) qa_nil))) qa_nil)))) (by exact q_tname sc_law.nd (i := 1)) (by exact qs_one (by exact qs_if (by exact qt_not (by exact qt_val (by exact q_call (ps := ["dice"]) C__law_right (hr.mono (by decide)) (passes_call (takes_of rfl rfl rfl rfl) fun _ _ _ _ h => h) (by exact qa_cons (by exact q_call (ps := ["script", "spot"]) C__law_dice (hr.mono (by decide)) (passes_call (takes_of rfl rfl rfl rfl) fun _ _ _ _ h => h) (by exact qa_cons (by exact q_v 0) (by exact qa_cons (by exact q_v 1) qa_nil)) bi__law_dice) qa_nil) bi__law_right))) (by exact qs_one (by exact qs_ret q_bl)) qs_nil))) (by exact qs_one (by exact qs_ret (by exact q_and (by exact q_cmp (op_eqD hr.units) o2_eq (by exact q_bi c_len k_len T.len (by decide +kernel) (by exact qa_cons (by exact q_call (ps := ["sizes"]) C_parted (hr.mono (by decide)) (passes_call (takes_of rfl rfl rfl rfl) fun _ _ _ _ h => h) (by exact qa_cons (by exact q_tup (by exact qa_cons (by exact q_tup (by exact qa_cons q_int (by exact qa_cons q_int qa_nil))) qa_nil)) qa_nil) bi_parted) qa_nil)) q_int (nomark _)) (by exact q_one (by exact q_cmp op_isN o2_isN (by exact q_call (ps := ["sizes"]) C_parted (hr.mono (by decide)) (passes_call (takes_of rfl rfl rfl rfl) fun _ _ _ _ h => h) (by exact qa_cons (by exact q_tup (by exact qa_cons (by exact q_tup (by exact qa_cons q_int (by exact qa_cons q_int qa_nil))) (by exact qa_cons (by exact q_tup (by exact qa_cons q_int (by exact qa_cons q_int qa_nil))) qa_nil))) qa_nil) bi_parted) q_non (nomark _))))))

end
end K03
end

section
set_option Elab.async false
set_option linter.all false
set_option maxRecDepth 100000
set_option maxHeartbeats 0
namespace K03
open PySem PySem.Spec PyProof.Rows L2 DL
def loose0 : List Str := ["__name__", "CoinError", "BadArgument", "MOST_KINDS", "SLOTS", "MOST_COINS", "is_in", "are_in", "is_ascending", "demand", "are_slots", "is_machine", "is_bag", "MOST_WIDTH", "MOST_HOLES", "MOST_BIN", "are_widths", "is_size", "are_sizes", "hole_of", "made_of", "machine_of", "parted", "is_parted", "fills_of", "fills", "never_fills", "_law_dice", "_law_roll", "_law_pick"]
def loose1 : List Str := ["_law_refused", "_law_b_bag", "_law_slots", "_law_are_widths", "_law_parts", "_law_size", "_law_refuses", "_law_right"]
def loose : List Str := loose0 ++ loose1
abbrev R : PySem.W.OpenRow := PySem.W.OpenLaw.row PySem.Challenge.rw_surebag_k03_whole_holes_and_bins
abbrev PP : Program := PySem.Challenge.rw_surebag_k03_whole_holes_and_bins.prog
def fn0 : List He.DefD := [dOf topS ("is_in", 7), dOf topS ("are_in", 8), dOf topS ("is_ascending", 9), dOf topS ("demand", 10), dOf topS ("are_slots", 11), dOf topS ("is_machine", 12), dOf topS ("is_bag", 13), dOf topS ("are_widths", 18), dOf topS ("is_size", 19), dOf topS ("are_sizes", 20), dOf topS ("hole_of", 21), dOf topS ("made_of", 22), dOf topS ("machine_of", 23), dOf topS ("parted", 24), dOf topS ("is_parted", 25), dOf topS ("fills_of", 26), dOf topS ("fills", 27), dOf topS ("never_fills", 28), dOf topS ("_law_dice", 30), dOf topS ("_law_roll", 31), dOf topS ("_law_pick", 32), dOf topS ("_law_refused", 33), dOf topS ("_law_b_bag", 34), dOf topS ("_law_slots", 35), dOf topS ("_law_are_widths", 36), dOf topS ("_law_parts", 37), dOf topS ("_law_size", 38), dOf topS ("_law_refuses", 39), dOf topS ("_law_right", 40), dOf topS ("law", 41)]
def fn : List He.DefD := fn0
def fa0 : List He.Fa := [.glo "is_in", .glo "are_in", .glo "is_ascending", .glo "demand", .glo "are_slots", .glo "is_machine", .glo "is_bag", .glo "are_widths", .glo "is_size", .glo "are_sizes", .glo "hole_of", .glo "made_of", .glo "machine_of", .glo "parted", .glo "is_parted", .glo "fills_of", .glo "fills", .glo "never_fills", .glo "_law_dice", .glo "_law_roll", .glo "_law_pick", .glo "_law_refused", .glo "_law_b_bag", .glo "_law_slots", .glo "_law_are_widths", .glo "_law_parts", .glo "_law_size", .glo "_law_refuses", .glo "_law_right", .glo "law"]
def fa1 : List He.Fa := [.free "abs", .free "all", .free "any", .free "bool", .free "int", .free "isinstance", .free "len", .free "list", .free "max", .free "min", .free "range", .free "set", .free "sorted", .free "sum", .free "super", .free "tuple", .free "zip", .int "MOST_KINDS" (6), .int "SLOTS" (8), .int "MOST_COINS" (1800), .int "MOST_WIDTH" (1000), .int "MOST_HOLES" (7), .int "MOST_BIN" (20000)]
def fa : List He.Fa := fa0 ++ fa1
def tf : List He.Defn := [("_law_refuses", none)]
def ex (K : PySem.W.Frag) : Bool := errB PP K "BadArgument" "name"
abbrev hk : PySem.W.Hook := hookY 5 fa fn [] tf ex
def ob (s : PySem.W.SharedT) : He.AlX := obsY 5 fa fn [] tf ex (HandSHeadRun.getT s)
theorem ob_eq (s : PySem.W.SharedT) : ob s = hk.obs s.abs := obsY_eq (HandSHeadRun.getT_eq s)
theorem run (w : World) : HandSHeadRun.RunEq R (PySem.W.view R.prog [41]) hk ob 4000 loose w := by
  intro os
  kernel_rfl
def wd (K : PySem.W.Frag) : Wd := ⟨[((He.cT K ("_law_refuses", none)).2, (("_law_refuses" : Str) ++ ".<locals>.") ++ "<lambda>")], He.ga K "BadArgument", He.ga K "BadText"⟩
section
variable {w : World} {K : PySem.W.Frag} {h h2 : Heap} {mg : Str → Option Value}
theorem nm (c : He.SaysD fa fn K) (X : K.In h) (G : h.Ns mainGlobals mg) : Nm K mg (wd K) :=
  ⟨He.free_ok X G (c.fact 30 (f := .free "abs") rfl), He.free_ok X G (c.fact 31 (f := .free "all") rfl), He.free_ok X G (c.fact 32 (f := .free "any") rfl), He.free_ok X G (c.fact 33 (f := .free "bool") rfl), He.free_ok X G (c.fact 34 (f := .free "int") rfl), He.free_ok X G (c.fact 35 (f := .free "isinstance") rfl), He.free_ok X G (c.fact 36 (f := .free "len") rfl), He.free_ok X G (c.fact 37 (f := .free "list") rfl), He.free_ok X G (c.fact 38 (f := .free "max") rfl), He.free_ok X G (c.fact 39 (f := .free "min") rfl), He.free_ok X G (c.fact 40 (f := .free "range") rfl), He.free_ok X G (c.fact 41 (f := .free "set") rfl), He.free_ok X G (c.fact 42 (f := .free "sorted") rfl), He.free_ok X G (c.fact 43 (f := .free "sum") rfl), He.free_ok X G (c.fact 44 (f := .free "super") rfl), He.free_ok X G (c.fact 45 (f := .free "tuple") rfl), He.free_ok X G (c.fact 46 (f := .free "zip") rfl), He.int_ok X G (c.fact 47 (f := .int "MOST_KINDS" (6)) rfl), He.int_ok X G (c.fact 48 (f := .int "SLOTS" (8)) rfl), He.int_ok X G (c.fact 49 (f := .int "MOST_COINS" (1800)) rfl), He.int_ok X G (c.fact 50 (f := .int "MOST_WIDTH" (1000)) rfl), He.int_ok X G (c.fact 51 (f := .int "MOST_HOLES" (7)) rfl), He.int_ok X G (c.fact 52 (f := .int "MOST_BIN" (20000)) rfl)⟩
theorem law_ok {base : Heap} (s : He.SaysX fa fn [] tf ex w h2 K) (X : K.In h) (G : h.Ns mainGlobals mg) (TB : ∀ p ∈ tf.map (He.cT K), LamX.TabB base mg p.1 p.2) : DL.Cal PP w K mg base (wd K) 11 "law" (topS 41) ["script"] g_law := by
  have c := s.t.d
  have T := nm c X G
  have hex : ex K = true := s.more
  have e0 := hex
  have TA : ErrTxt PP K mg "BadArgument" "name" (wd K).CA _ := errB_ok X G e0 (.inl rfl) rfl
  have R_law_refused : St0 K mg "_law_refused" (topS 33) := st0_of c X G ("_law_refused", 33) 21 21 rfl rfl
  have LT__law_refuses : LamT base mg (wd K) "_law_refuses" (He.cT K ("_law_refuses", none)).1 (He.cT K ("_law_refuses", none)).2 := ⟨TB _ (List.mem_map.mpr ⟨("_law_refuses", none), by simp [tf], rfl⟩), by simp [wd], fun p hp e => ?un0⟩
  have C_is_in : DL.Cal PP w K mg base (wd K) 1 "is_in" st_is_in ["value", "low", "high"] g_is_in := ok_is_in T (st0_of c X G ("is_in", 7) 0 0 rfl rfl)
  have C_are_in : DL.Cal PP w K mg base (wd K) 2 "are_in" st_are_in ["value", "least", "most", "low", "high"] g_are_in := ok_are_in T C_is_in (st0_of c X G ("are_in", 8) 1 1 rfl rfl)
  have C_is_ascending : DL.Cal PP w K mg base (wd K) 1 "is_ascending" st_is_ascending ["values"] g_is_ascending := ok_is_ascending T (st0_of c X G ("is_ascending", 9) 2 2 rfl rfl)
  have C_demand : DL.Cal PP w K mg base (wd K) 1 "demand" st_demand ["is_good", "name"] g_demand := ok_demand T TA (st0_of c X G ("demand", 10) 3 3 rfl rfl)
  have C_are_slots : DL.Cal PP w K mg base (wd K) 3 "are_slots" st_are_slots ["value", "least"] g_are_slots := ok_are_slots T C_are_in C_is_ascending (st0_of c X G ("are_slots", 11) 4 4 rfl rfl)
  have C_is_machine : DL.Cal PP w K mg base (wd K) 4 "is_machine" st_is_machine ["value"] g_is_machine := ok_is_machine T C_are_slots (st0_of c X G ("is_machine", 12) 5 5 rfl rfl)
  have C_is_bag : DL.Cal PP w K mg base (wd K) 3 "is_bag" st_is_bag ["machine", "value"] g_is_bag := ok_is_bag T C_are_in (st0_of c X G ("is_bag", 13) 6 6 rfl rfl)
  have C_are_widths : DL.Cal PP w K mg base (wd K) 3 "are_widths" st_are_widths ["value"] g_are_widths := ok_are_widths T C_are_in C_is_ascending (st0_of c X G ("are_widths", 18) 7 7 rfl rfl)
  have C_is_size : DL.Cal PP w K mg base (wd K) 2 "is_size" st_is_size ["value"] g_is_size := ok_is_size T C_is_in (st0_of c X G ("is_size", 19) 8 8 rfl rfl)
  have C_are_sizes : DL.Cal PP w K mg base (wd K) 3 "are_sizes" st_are_sizes ["value"] g_are_sizes := ok_are_sizes T C_is_size (st0_of c X G ("are_sizes", 20) 9 9 rfl rfl)
  have C_hole_of : DL.Cal PP w K mg base (wd K) 1 "hole_of" st_hole_of ["widths", "width"] g_hole_of := ok_hole_of T (st0_of c X G ("hole_of", 21) 10 10 rfl rfl)
  have C_made_of : DL.Cal PP w K mg base (wd K) 2 "made_of" st_made_of ["widths", "sizes"] g_made_of := ok_made_of T C_hole_of (st0_of c X G ("made_of", 22) 11 11 rfl rfl)
  have C_machine_of : DL.Cal PP w K mg base (wd K) 4 "machine_of" st_machine_of ["widths", "sizes"] g_machine_of := ok_machine_of T C_demand C_are_widths C_are_sizes C_made_of (st0_of c X G ("machine_of", 23) 12 12 rfl rfl)
  have C_parted : DL.Cal PP w K mg base (wd K) 4 "parted" st_parted ["sizes"] g_parted := ok_parted T C_demand C_are_sizes (st0_of c X G ("parted", 24) 13 13 rfl rfl)
  have C_is_parted : DL.Cal PP w K mg base (wd K) 4 "is_parted" st_is_parted ["sizes", "value"] g_is_parted := ok_is_parted T C_demand C_are_widths C_are_sizes C_made_of (st0_of c X G ("is_parted", 25) 14 14 rfl rfl)
  have C_fills_of : DL.Cal PP w K mg base (wd K) 1 "fills_of" st_fills_of ["machine", "bag"] g_fills_of := ok_fills_of T (st0_of c X G ("fills_of", 26) 15 15 rfl rfl)
  have C_fills : DL.Cal PP w K mg base (wd K) 5 "fills" st_fills ["machine", "bag"] g_fills := ok_fills T C_demand C_is_machine C_is_bag C_fills_of (st0_of c X G ("fills", 27) 16 16 rfl rfl)
  have C_never_fills : DL.Cal PP w K mg base (wd K) 5 "never_fills" st_never_fills ["machine", "bag", "bins"] g_never_fills := ok_never_fills T C_are_in C_demand C_is_machine C_is_bag C_fills_of (st0_of c X G ("never_fills", 28) 17 17 rfl rfl)
  have C__law_dice : DL.Cal PP w K mg base (wd K) 1 "_law_dice" st__law_dice ["script", "spot"] g__law_dice := ok__law_dice T (st0_of c X G ("_law_dice", 30) 18 18 rfl rfl)
  have C__law_roll : DL.Cal PP w K mg base (wd K) 1 "_law_roll" st__law_roll ["dice", "total"] g__law_roll := ok__law_roll T (st0_of c X G ("_law_roll", 31) 19 19 rfl rfl)
  have C__law_pick : DL.Cal PP w K mg base (wd K) 2 "_law_pick" st__law_pick ["dice", "things"] g__law_pick := ok__law_pick T C__law_roll (st0_of c X G ("_law_pick", 32) 20 20 rfl rfl)
  have C__law_b_bag : DL.Cal PP w K mg base (wd K) 3 "_law_b_bag" st__law_b_bag ["dice", "kinds", "most"] g__law_b_bag := ok__law_b_bag T C__law_roll C__law_pick (st0_of c X G ("_law_b_bag", 34) 22 22 rfl rfl)
  have C__law_slots : DL.Cal PP w K mg base (wd K) 1 "_law_slots" st__law_slots ["widths", "size"] g__law_slots := ok__law_slots T (st0_of c X G ("_law_slots", 35) 23 23 rfl rfl)
  have C__law_are_widths : DL.Cal PP w K mg base (wd K) 1 "_law_are_widths" st__law_are_widths ["value"] g__law_are_widths := ok__law_are_widths T (st0_of c X G ("_law_are_widths", 36) 24 24 rfl rfl)
  have C__law_parts : DL.Cal PP w K mg base (wd K) 2 "_law_parts" st__law_parts ["sizes", "value"] g__law_parts := ok__law_parts T C__law_slots C__law_are_widths (st0_of c X G ("_law_parts", 37) 25 25 rfl rfl)
  have C__law_size : DL.Cal PP w K mg base (wd K) 3 "_law_size" st__law_size ["dice", "far"] g__law_size := ok__law_size T C__law_roll C__law_pick (st0_of c X G ("_law_size", 38) 26 26 rfl rfl)
  have C__law_refuses : DL.Cal PP w K mg base (wd K) 9 "_law_refuses" st__law_refuses ["dice", "sizes"] g__law_refuses := ok__law_refuses T TA R_law_refused LT__law_refuses C_machine_of C_parted C_is_parted C_fills C_never_fills C__law_pick (st0C_of c X G ("_law_refuses", 39) 27 27 rfl rfl)
  have C__law_right : DL.Cal PP w K mg base (wd K) 10 "_law_right" st__law_right ["dice"] g__law_right := ok__law_right T C_machine_of C_parted C_is_parted C_fills C_never_fills C__law_roll C__law_pick C__law_b_bag C__law_slots C__law_parts C__law_size C__law_refuses (st0_of c X G ("_law_right", 40) 28 28 rfl rfl)
  have C_law : DL.Cal PP w K mg base (wd K) 11 "law" st_law ["script"] g_law := ok_law T C_parted C__law_dice C__law_right (st0_of c X G ("law", 41) 29 29 rfl rfl)
  exact C_law
  case un0 =>
    have hp : p = _ := List.mem_singleton.mp hp
    rw [hp]
end
theorem wd_tabs (K : PySem.W.Frag) : ∀ p ∈ (wd K).T, ∃ q ∈ tf, p.1 = (He.cT K q).2 := by
  intro p hp
  simp only [wd, List.mem_cons, List.not_mem_nil, or_false] at hp
  rcases hp with rfl
  · exact ⟨("_law_refuses", none), by simp [tf], rfl⟩
end K03
end

section
set_option Elab.async false
set_option linter.all false
set_option maxRecDepth 100000
set_option maxHeartbeats 4000000
/-! DLplain: evaluating the plain functions. -/
namespace DL
open PySem
section
variable {ρ : List S} {μ : List MO}
@[simp] theorem eC_app {d : D} : eC d ρ μ = some (.ok (.d d) μ) := rfl
theorem eV_app {i : Nat} : eV i ρ μ = match ρ[i]? with | some (.d x) => some (.ok (.d x) μ) | some (.m j) => some (.ok (.m j) μ) | _ => none := rfl
@[simp] theorem bE_ok {s : S} {k : S → List MO → Option ER} : bE (some (.ok s μ)) k = k s μ := rfl
@[simp] theorem bS_ok {s : S} {k : S → List MO → Option SR} : bS (some (.ok s μ)) k = k s μ := rfl
@[simp] theorem bB_ok {s : Bool} {k : Bool → List MO → Option ER} : bB (some (.ok s μ)) k = k s μ := rfl
@[simp] theorem bBB_ok {s : Bool} {k : Bool → List MO → Option BR} : bBB (some (.ok s μ)) k = k s μ := rfl
@[simp] theorem bAE_ok {s : List S} {k : List S → List MO → Option ER} : bAE (some (.ok s μ)) k = k s μ := rfl
@[simp] theorem asB_ok' {b : Bool} {k : Bool → List MO → Option ER} : asB (some (.ok (.d (.bl b)) μ)) k = k b μ := rfl
@[simp] theorem toB_ok {b : Bool} : toB (some (.ok (.d (.bl b)) μ)) = some (.ok b μ) := rfl
@[simp] theorem onlyD_ok {d : D} : onlyD (some (.ok (.d d) μ)) = some (.ok (.d d) μ) := rfl
@[simp] theorem onlyD_okm {i : Nat} : onlyD (some (.ok (.m i) μ)) = some (.ok (.m i) μ) := rfl
@[simp] theorem onlyD_ex {x : Ex} : onlyD (some (.ex x μ)) = some (.ex x μ) := rfl
@[simp] theorem e2_app {g : G2} {a b : EF} : e2 g a b ρ μ = bE (a ρ μ) fun s μ1 => bE (b ρ μ1) fun u μ2 => g s u μ2 := rfl
@[simp] theorem aNil_app : aNil ρ μ = some (.ok [] μ) := rfl
theorem aCons_app {f : EF} {g : AF} {s : S} {μ1 μ2 : List MO} {ss : List S} (h1 : f ρ μ = some (.ok s μ1)) (h2 : g ρ μ1 = some (.ok ss μ2)) : aCons f g ρ μ = some (.ok (s :: ss) μ2) := by
  unfold aCons; simp only [h1, h2]
@[simp] theorem fin_d {n : Nat} {d : D} : fin n (some (.ret (.d d) μ)) = some (.ok (.d d) (μ.take n)) := rfl
@[simp] theorem fin_nx {n : Nat} : fin n (some (.nx ρ μ)) = some (.ok (.d .non) (μ.take n)) := rfl
@[simp] theorem fin_ex {n : Nat} {x : Ex} : fin n (some (.ex x μ)) = some (.ex x (μ.take n)) := rfl
end
/-! ### blocks -/
/-- a block without effects: items as things, what is kept, what is made -/
theorem lcF_pure {α : Type} {h : TF} {c : BF} {e : EF} {ρ : List S} {μ : List MO} (it : α → D) (p : α → Bool) (y : α → D) : ∀ (xs : List α) (acc : List D),
    (∀ x ∈ xs, ∃ ρ1, h (it x) ρ = some ρ1 ∧ c ρ1 μ = some (.ok (p x) μ) ∧ (p x = true → e ρ1 μ = some (.ok (.d (y x)) μ))) → lcF h c e ρ (xs.map it) acc μ = some (acc ++ (xs.filter p).map y, μ)
  | [], acc, _ => by simp [eV_app, startS, eIsi, eNot, eAnd, eOr, eChain, sRet, sSeq, sSet, sIf, sNx, sDrop, sRaise, sRetN, aCons, eB, eCall, eTup, eLst, eIf, bAnd, bOr, bNot, tst, allD, viewT, viewL, viewX, tyD, isiB, hName, hTup, hsCons, hsNil, iSeq, wipeS, sAsg, gLe, gLt, gGe, gGt, gSub, gI20, gIsN, gNotN, gNotB, newL, eCut, ePart, gCut, iZip2, sFor, lcF]
  | x :: xs, acc, hx => by
    obtain ⟨ρ1, h1, h2, h3⟩ := hx x List.mem_cons_self
    have ih := fun acc => lcF_pure it p y xs acc fun z hz => hx z (List.mem_cons_of_mem _ hz)
    rw [List.map_cons]
    unfold lcF
    simp only [h1, h2]
    cases hp : p x with
    | true => simp only [h3 hp, ih, List.filter_cons, hp, if_true, List.map_cons, List.append_assoc, List.singleton_append]
    | false => simp only [ih, List.filter_cons, hp, Bool.false_eq_true, if_false]
/-- .. all kept -/
theorem lcF_map {α : Type} {h : TF} {e : EF} {ρ : List S} {μ : List MO} (it : α → D) (y : α → D) (xs : List α) (hx : ∀ x ∈ xs, ∃ ρ1, h (it x) ρ = some ρ1 ∧ e ρ1 μ = some (.ok (.d (y x)) μ)) : lcF h bYes e ρ (xs.map it) [] μ = some (xs.map y, μ) := by
  have := lcF_pure (c := bYes) (e := e) (h := h) (ρ := ρ) (μ := μ) it (fun _ => true) y xs [] fun x hm => by
    obtain ⟨ρ1, h1, h2⟩ := hx x hm
    exact ⟨ρ1, h1, rfl, fun _ => h2⟩
  rw [this, List.filter_eq_self.mpr (fun _ _ => rfl)]
  rfl
/-- a block that leaves things as they are but for a state M d (the dice) -/
theorem lcF_state {α β : Type} {h : TF} {e : EF} {ρ : List S} (M : β → List MO) (I : Nat → β → Prop) (it : α → D) (G : α → D → Prop) : ∀ (xs : List α) (acc : List D) (k : Nat) (b : β), I k b →
    (∀ x ∈ xs, ∀ (j : Nat) (b : β), k ≤ j → j < k + xs.length → I j b → ∃ ρ1 y b', h (it x) ρ = some ρ1 ∧ e ρ1 (M b) = some (.ok (.d y) (M b')) ∧ G x y ∧ I (j + 1) b') →
    ∃ ys b', lcF h bYes e ρ (xs.map it) acc (M b) = some (acc ++ ys, M b') ∧ I (k + xs.length) b' ∧ ys.length = xs.length ∧ ∀ (i : Nat) x y, xs[i]? = some x → ys[i]? = some y → G x y
  | [], acc, k, b, hI, _ => ⟨[], b, by simp [eV_app, startS, eIsi, eNot, eAnd, eOr, eChain, sRet, sSeq, sSet, sIf, sNx, sDrop, sRaise, sRetN, aCons, eB, eCall, eTup, eLst, eIf, bAnd, bOr, bNot, tst, allD, viewT, viewL, viewX, tyD, isiB, hName, hTup, hsCons, hsNil, iSeq, wipeS, sAsg, gLe, gLt, gGe, gGt, gSub, gI20, gIsN, gNotN, gNotB, newL, eCut, ePart, gCut, iZip2, sFor, lcF], hI, rfl, by simp [eV_app, startS, eIsi, eNot, eAnd, eOr, eChain, sRet, sSeq, sSet, sIf, sNx, sDrop, sRaise, sRetN, aCons, eB, eCall, eTup, eLst, eIf, bAnd, bOr, bNot, tst, allD, viewT, viewL, viewX, tyD, isiB, hName, hTup, hsCons, hsNil, iSeq, wipeS, sAsg, gLe, gLt, gGe, gGt, gSub, gI20, gIsN, gNotN, gNotB, newL, eCut, ePart, gCut, iZip2, sFor]⟩
  | x :: xs, acc, k, b, hI, hx => by
    obtain ⟨ρ1, y, b1, h1, h2, hG, hI1⟩ := hx x List.mem_cons_self k b (Nat.le_refl _) (by simp [eV_app, startS, eIsi, eNot, eAnd, eOr, eChain, sRet, sSeq, sSet, sIf, sNx, sDrop, sRaise, sRetN, aCons, eB, eCall, eTup, eLst, eIf, bAnd, bOr, bNot, tst, allD, viewT, viewL, viewX, tyD, isiB, hName, hTup, hsCons, hsNil, iSeq, wipeS, sAsg, gLe, gLt, gGe, gGt, gSub, gI20, gIsN, gNotN, gNotB, newL, eCut, ePart, gCut, iZip2, sFor]) hI
    obtain ⟨ys, b', e1, e2, e3, e4⟩ := lcF_state M I it G xs (acc ++ [y]) (k + 1) b1 hI1 fun z hz j b' h1 h2 => hx z (List.mem_cons_of_mem _ hz) j b' (by omega) (by simp [eV_app, startS, eIsi, eNot, eAnd, eOr, eChain, sRet, sSeq, sSet, sIf, sNx, sDrop, sRaise, sRetN, aCons, eB, eCall, eTup, eLst, eIf, bAnd, bOr, bNot, tst, allD, viewT, viewL, viewX, tyD, isiB, hName, hTup, hsCons, hsNil, iSeq, wipeS, sAsg, gLe, gLt, gGe, gGt, gSub, gI20, gIsN, gNotN, gNotB, newL, eCut, ePart, gCut, iZip2, sFor]; omega)
    refine ⟨y :: ys, b', ?_, ?_, by simp [eV_app, startS, eIsi, eNot, eAnd, eOr, eChain, sRet, sSeq, sSet, sIf, sNx, sDrop, sRaise, sRetN, aCons, eB, eCall, eTup, eLst, eIf, bAnd, bOr, bNot, tst, allD, viewT, viewL, viewX, tyD, isiB, hName, hTup, hsCons, hsNil, iSeq, wipeS, sAsg, gLe, gLt, gGe, gGt, gSub, gI20, gIsN, gNotN, gNotB, newL, eCut, ePart, gCut, iZip2, sFor, e3], fun i z w hz hw => ?_⟩
    · rw [List.map_cons]
      unfold lcF
      simp only [h1, h2, bYes]
      rw [e1]
      simp [eV_app, startS, eIsi, eNot, eAnd, eOr, eChain, sRet, sSeq, sSet, sIf, sNx, sDrop, sRaise, sRetN, aCons, eB, eCall, eTup, eLst, eIf, bAnd, bOr, bNot, tst, allD, viewT, viewL, viewX, tyD, isiB, hName, hTup, hsCons, hsNil, iSeq, wipeS, sAsg, gLe, gLt, gGe, gGt, gSub, gI20, gIsN, gNotN, gNotB, newL, eCut, ePart, gCut, iZip2, sFor]
    · have : k + (x :: xs).length = k + 1 + xs.length := by simp [eV_app, startS, eIsi, eNot, eAnd, eOr, eChain, sRet, sSeq, sSet, sIf, sNx, sDrop, sRaise, sRetN, aCons, eB, eCall, eTup, eLst, eIf, bAnd, bOr, bNot, tst, allD, viewT, viewL, viewX, tyD, isiB, hName, hTup, hsCons, hsNil, iSeq, wipeS, sAsg, gLe, gLt, gGe, gGt, gSub, gI20, gIsN, gNotN, gNotB, newL, eCut, ePart, gCut, iZip2, sFor]; omega
      rw [this]; exact e2
    · cases i with
      | zero => simp [eV_app, startS, eIsi, eNot, eAnd, eOr, eChain, sRet, sSeq, sSet, sIf, sNx, sDrop, sRaise, sRetN, aCons, eB, eCall, eTup, eLst, eIf, bAnd, bOr, bNot, tst, allD, viewT, viewL, viewX, tyD, isiB, hName, hTup, hsCons, hsNil, iSeq, wipeS, sAsg, gLe, gLt, gGe, gGt, gSub, gI20, gIsN, gNotN, gNotB, newL, eCut, ePart, gCut, iZip2, sFor] at hz hw; subst hz hw; exact hG
      | succ i => exact e4 i z w (by simpa [eV_app, startS, eIsi, eNot, eAnd, eOr, eChain, sRet, sSeq, sSet, sIf, sNx, sDrop, sRaise, sRetN, aCons, eB, eCall, eTup, eLst, eIf, bAnd, bOr, bNot, tst, allD, viewT, viewL, viewX, tyD, isiB, hName, hTup, hsCons, hsNil, iSeq, wipeS, sAsg, gLe, gLt, gGe, gGt, gSub, gI20, gIsN, gNotN, gNotB, newL, eCut, ePart, gCut, iZip2, sFor] using hz) (by simpa [eV_app, startS, eIsi, eNot, eAnd, eOr, eChain, sRet, sSeq, sSet, sIf, sNx, sDrop, sRaise, sRetN, aCons, eB, eCall, eTup, eLst, eIf, bAnd, bOr, bNot, tst, allD, viewT, viewL, viewX, tyD, isiB, hName, hTup, hsCons, hsNil, iSeq, wipeS, sAsg, gLe, gLt, gGe, gGt, gSub, gI20, gIsN, gNotN, gNotB, newL, eCut, ePart, gCut, iZip2, sFor] using hw)
theorem eLc_p {α : Type} {vs : List Nat} {fi : IF} {h : TF} {c : BF} {e : EF} {ρ : List S} {μ : List MO} (xs : List α) (it : α → D) (p : α → Bool) (y : α → D) (hi : fi ρ μ = some (.ok (xs.map it) μ)) (hl : xs.length ≤ cap)
    (hx : ∀ x ∈ xs, ∃ ρ1, h (it x) (wipeS ρ vs) = some ρ1 ∧ c ρ1 μ = some (.ok (p x) μ) ∧ (p x = true → e ρ1 μ = some (.ok (.d (y x)) μ))) : eLc false vs fi h c e ρ μ = some (.ok (.d (.lst ((xs.filter p).map y))) μ) := by
  unfold eLc
  simp only [hi, List.length_map, if_pos hl, lcF_pure it p y xs [] hx, List.nil_append]
  rfl
theorem eLc_m {α : Type} {vs : List Nat} {fi : IF} {h : TF} {e : EF} {ρ : List S} {μ : List MO} (xs : List α) (it : α → D) (y : α → D) (hi : fi ρ μ = some (.ok (xs.map it) μ)) (hl : xs.length ≤ cap)
    (hx : ∀ x ∈ xs, ∃ ρ1, h (it x) (wipeS ρ vs) = some ρ1 ∧ e ρ1 μ = some (.ok (.d (y x)) μ)) : eLc false vs fi h bYes e ρ μ = some (.ok (.d (.lst (xs.map y))) μ) := by
  unfold eLc
  simp only [hi, List.length_map, if_pos hl, lcF_map it y xs hx]
  rfl
theorem all_bls {α : Type} (xs : List α) (p : α → Bool) : allBls (xs.map fun x => D.bl (p x)) = some (xs.map p) := by
  have := allBls_map (xs.map p)
  rw [List.map_map] at this
  exact this
theorem all_ints {α : Type} (xs : List α) (p : α → Int) : allInts (xs.map fun x => D.int (p x)) = some (xs.map p) := by
  have := allInts_map (xs.map p)
  rw [List.map_map] at this
  exact this
theorem sIx_none (n d : Nat) : HT.sIx n d none = d := rfl
theorem sIx_pos {n d : Nat} {k : Int} (hk : 0 ≤ k) : HT.sIx n d (some k) = min k.toNat n := by
  unfold HT.sIx
  simp only
  rw [if_neg (by omega)]
theorem sIx_neg {n d : Nat} {k : Int} (hk : k < 0) : HT.sIx n d (some k) = (k + n).toNat := by
  unfold HT.sIx
  simp only
  rw [if_pos hk]
theorem cutD_from {ds : List D} {k : Int} (hk : 0 ≤ k) : cutD ds (some k) none = ds.drop k.toNat := by
  unfold cutD
  rw [sIx_pos hk, sIx_none]
  by_cases h : k.toNat ≤ ds.length
  · rw [Nat.min_eq_left h, List.take_of_length_le]
    simp [eV_app, startS, eIsi, eNot, eAnd, eOr, eChain, sRet, sSeq, sSet, sIf, sNx, sDrop, sRaise, sRetN, aCons, eB, eCall, eTup, eLst, eIf, bAnd, bOr, bNot, tst, allD, viewT, viewL, viewX, tyD, isiB, hName, hTup, hsCons, hsNil, iSeq, wipeS, sAsg, gLe, gLt, gGe, gGt, gSub, gI20, gIsN, gNotN, gNotB, newL, eCut, ePart, gCut, iZip2, sFor]
  · rw [Nat.min_eq_right (by omega), List.drop_length, List.drop_of_length_le (by omega)]
    simp [eV_app, startS, eIsi, eNot, eAnd, eOr, eChain, sRet, sSeq, sSet, sIf, sNx, sDrop, sRaise, sRetN, aCons, eB, eCall, eTup, eLst, eIf, bAnd, bOr, bNot, tst, allD, viewT, viewL, viewX, tyD, isiB, hName, hTup, hsCons, hsNil, iSeq, wipeS, sAsg, gLe, gLt, gGe, gGt, gSub, gI20, gIsN, gNotN, gNotB, newL, eCut, ePart, gCut, iZip2, sFor]
theorem cutD_to {ds : List D} {k : Int} (hk : 0 ≤ k) : cutD ds none (some k) = ds.take k.toNat := by
  unfold cutD
  rw [sIx_pos hk, sIx_none]
  simp only [List.drop_zero, Nat.sub_zero]
  rw [← List.take_take, List.take_length]
theorem cutD_init {ds : List D} : cutD ds none (some (-1)) = ds.dropLast := by
  unfold cutD
  rw [sIx_neg (by decide), sIx_none, List.dropLast_eq_take]
  simp only [List.drop_zero, Nat.sub_zero]
  congr 1
  omega
theorem zipD_ints (xs ys : List Int) : zipD (xs.map D.int) (ys.map D.int) = (xs.zip ys).map pairD := by
  unfold zipD
  rw [List.zip_map, List.map_map]
  rfl
theorem zipD_map {α β : Type} (xs : List α) (ys : List β) (f : α → D) (g : β → D) : zipD (xs.map f) (ys.map g) = (xs.zip ys).map fun p => .tup [f p.1, g p.2] := by
  unfold zipD
  rw [List.zip_map, List.map_map]
  rfl
theorem lc2F_pure {α β : Type} {h : TF} {fi1 : IF} {h1 : TF} {e : EF} {ρ : List S} {vs1 : List Nat} {μ : List MO} (it : α → D) (zs : α → List β) (it1 : β → D) (y : α → β → D) : ∀ (xs : List α) (acc : List D),
    (∀ x ∈ xs, ∃ ρ1, h (it x) ρ = some ρ1 ∧ fi1 ρ1 μ = some (.ok ((zs x).map it1) μ) ∧ ∀ z ∈ zs x, ∃ ρ2, h1 (it1 z) (wipeS ρ1 vs1) = some ρ2 ∧ e ρ2 μ = some (.ok (.d (y x z)) μ)) →
    lc2F h bYes fi1 h1 bYes e ρ vs1 (xs.map it) acc μ = some (acc ++ (xs.map fun x => (zs x).map (y x)).flatten, μ)
  | [], acc, _ => by simp [eV_app, startS, eIsi, eNot, eAnd, eOr, eChain, sRet, sSeq, sSet, sIf, sNx, sDrop, sRaise, sRetN, aCons, eB, eCall, eTup, eLst, eIf, bAnd, bOr, bNot, tst, allD, viewT, viewL, viewX, tyD, isiB, hName, hTup, hsCons, hsNil, iSeq, wipeS, sAsg, gLe, gLt, gGe, gGt, gSub, gI20, gIsN, gNotN, gNotB, newL, eCut, ePart, gCut, iZip2, sFor, lc2F]
  | x :: xs, acc, hx => by
    obtain ⟨ρ1, e1, e2, e3⟩ := hx x List.mem_cons_self
    have ih := fun acc => lc2F_pure it zs it1 y xs acc fun z hz => hx z (List.mem_cons_of_mem _ hz)
    have inner := lcF_pure (c := bYes) (e := e) (h := h1) (ρ := wipeS ρ1 vs1) (μ := μ) it1 (fun _ => true) (y x) (zs x) acc fun z hz => by
      obtain ⟨ρ2, a, b⟩ := e3 z hz
      exact ⟨ρ2, a, rfl, fun _ => b⟩
    rw [List.filter_eq_self.mpr (fun _ _ => rfl)] at inner
    rw [List.map_cons]
    unfold lc2F
    have hb : bYes ρ1 μ = some (.ok true μ) := rfl
    simp only [e1, e2, hb, inner, ih, List.map_cons, List.flatten_cons, List.append_assoc]
theorem eLc2_p {α β : Type} {vs vs1 : List Nat} {fi : IF} {h : TF} {fi1 : IF} {h1 : TF} {e : EF} {ρ : List S} {μ : List MO} (xs : List α) (it : α → D) (zs : α → List β) (it1 : β → D) (y : α → β → D) (hi : fi ρ μ = some (.ok (xs.map it) μ)) (hl : (xs.map fun x => (zs x).map (y x)).flatten.length ≤ cap)
    (hx : ∀ x ∈ xs, ∃ ρ1, h (it x) (wipeS ρ vs) = some ρ1 ∧ fi1 ρ1 μ = some (.ok ((zs x).map it1) μ) ∧ ∀ z ∈ zs x, ∃ ρ2, h1 (it1 z) (wipeS ρ1 vs1) = some ρ2 ∧ e ρ2 μ = some (.ok (.d (y x z)) μ)) :
    eLc2 false vs vs1 fi h bYes fi1 h1 bYes e ρ μ = some (.ok (.d (.lst (xs.map fun x => (zs x).map (y x)).flatten)) μ) := by
  unfold eLc2
  simp only [hi, lc2F_pure it zs it1 y xs [] hx, List.nil_append, if_pos hl]
  rfl
/-- a loop that runs through -/
theorem forF_inv {α : Type} {h : TF} {b : SF} (it : α → D) (I : List α → List S → List MO → Prop) {full : List α} (hs : ∀ done x rest ρ μ, full = done ++ x :: rest → I done ρ μ → ∃ ρ1 ρ2 μ2, h (it x) ρ = some ρ1 ∧ b ρ1 μ = some (.nx ρ2 μ2) ∧ I (done ++ [x]) ρ2 μ2) : ∀ (xs done : List α) (ρ : List S) (μ : List MO), full = done ++ xs → I done ρ μ →
    ∃ ρ' μ', forF h b (xs.map it) ρ μ = some (.nx ρ' μ') ∧ I full ρ' μ'
  | [], done, ρ, μ, e, hI => ⟨ρ, μ, rfl, by rw [e]; simpa [eV_app, startS, eIsi, eNot, eAnd, eOr, eChain, sRet, sSeq, sSet, sIf, sNx, sDrop, sRaise, sRetN, aCons, eB, eCall, eTup, eLst, eIf, bAnd, bOr, bNot, tst, allD, viewT, viewL, viewX, tyD, isiB, hName, hTup, hsCons, hsNil, iSeq, wipeS, sAsg, gLe, gLt, gGe, gGt, gSub, gI20, gIsN, gNotN, gNotB, newL, eCut, ePart, gCut, iZip2, sFor] using hI⟩
  | x :: xs, done, ρ, μ, e, hI => by
    obtain ⟨ρ1, ρ2, μ2, e1, e2, e3⟩ := hs done x xs ρ μ e hI
    obtain ⟨ρ', μ', e4, e5⟩ := forF_inv it I hs xs (done ++ [x]) ρ2 μ2 (by rw [e]; simp [eV_app, startS, eIsi, eNot, eAnd, eOr, eChain, sRet, sSeq, sSet, sIf, sNx, sDrop, sRaise, sRetN, aCons, eB, eCall, eTup, eLst, eIf, bAnd, bOr, bNot, tst, allD, viewT, viewL, viewX, tyD, isiB, hName, hTup, hsCons, hsNil, iSeq, wipeS, sAsg, gLe, gLt, gGe, gGt, gSub, gI20, gIsN, gNotN, gNotB, newL, eCut, ePart, gCut, iZip2, sFor]) e3
    refine ⟨ρ', μ', ?_, e5⟩
    rw [List.map_cons]
    unfold forF
    simp only [e1, e2]
    exact e4
theorem rgI_split {a b : Int} {done rest : List Int} {x : Int} (h : rgI a b = done ++ x :: rest) : x = a + done.length ∧ a + done.length < b := by
  have h1 : (rgI a b)[done.length]? = some x := by rw [h]; simp [eV_app, startS, eIsi, eNot, eAnd, eOr, eChain, sRet, sSeq, sSet, sIf, sNx, sDrop, sRaise, sRetN, aCons, eB, eCall, eTup, eLst, eIf, bAnd, bOr, bNot, tst, allD, viewT, viewL, viewX, tyD, isiB, hName, hTup, hsCons, hsNil, iSeq, wipeS, sAsg, gLe, gLt, gGe, gGt, gSub, gI20, gIsN, gNotN, gNotB, newL, eCut, ePart, gCut, iZip2, sFor]
  have h2 := rgI_get h1
  have h3 : done.length < (rgI a b).length := by rw [h]; simp [eV_app, startS, eIsi, eNot, eAnd, eOr, eChain, sRet, sSeq, sSet, sIf, sNx, sDrop, sRaise, sRetN, aCons, eB, eCall, eTup, eLst, eIf, bAnd, bOr, bNot, tst, allD, viewT, viewL, viewX, tyD, isiB, hName, hTup, hsCons, hsNil, iSeq, wipeS, sAsg, gLe, gLt, gGe, gGt, gSub, gI20, gIsN, gNotN, gNotB, newL, eCut, ePart, gCut, iZip2, sFor]
  rw [rgI_length] at h3
  omega
theorem get_last {α : Type} (μ : List α) (x : α) : (μ ++ [x])[μ.length]? = some x := by simp [eV_app, startS, eIsi, eNot, eAnd, eOr, eChain, sRet, sSeq, sSet, sIf, sNx, sDrop, sRaise, sRetN, aCons, eB, eCall, eTup, eLst, eIf, bAnd, bOr, bNot, tst, allD, viewT, viewL, viewX, tyD, isiB, hName, hTup, hsCons, hsNil, iSeq, wipeS, sAsg, gLe, gLt, gGe, gGt, gSub, gI20, gIsN, gNotN, gNotB, newL, eCut, ePart, gCut, iZip2, sFor]
theorem set_last {α : Type} (μ : List α) (x y : α) : (μ ++ [x]).set μ.length y = μ ++ [y] := by simp [eV_app, startS, eIsi, eNot, eAnd, eOr, eChain, sRet, sSeq, sSet, sIf, sNx, sDrop, sRaise, sRetN, aCons, eB, eCall, eTup, eLst, eIf, bAnd, bOr, bNot, tst, allD, viewT, viewL, viewX, tyD, isiB, hName, hTup, hsCons, hsNil, iSeq, wipeS, sAsg, gLe, gLt, gGe, gGt, gSub, gI20, gIsN, gNotN, gNotB, newL, eCut, ePart, gCut, iZip2, sFor]
theorem rgI_snoc {a b : Int} (h : a ≤ b) : rgI a (b + 1) = rgI a b ++ [b] := by
  unfold rgI
  have : (b + 1 - a).toNat = (b - a).toNat + 1 := by omega
  rw [this, List.range_succ, List.map_append]
  simp [eV_app, startS, eIsi, eNot, eAnd, eOr, eChain, sRet, sSeq, sSet, sIf, sNx, sDrop, sRaise, sRetN, aCons, eB, eCall, eTup, eLst, eIf, bAnd, bOr, bNot, tst, allD, viewT, viewL, viewX, tyD, isiB, hName, hTup, hsCons, hsNil, iSeq, wipeS, sAsg, gLe, gLt, gGe, gGt, gSub, gI20, gIsN, gNotN, gNotB, newL, eCut, ePart, gCut, iZip2, sFor]
  omega
theorem rgI_nil {a b : Int} (h : b ≤ a) : rgI a b = [] := by
  unfold rgI
  rw [show (b - a).toNat = 0 by omega]; rfl
theorem mem_rgI {a b x : Int} : x ∈ rgI a b ↔ a ≤ x ∧ x < b := by
  unfold rgI
  rw [List.mem_map]
  constructor
  · rintro ⟨i, hi, rfl⟩
    have := List.mem_range.mp hi
    omega
  · intro ⟨h1, h2⟩
    exact ⟨(x - a).toNat, List.mem_range.mpr (by omega), by omega⟩
theorem rgI_sorted (a b : Int) : (rgI a b).Pairwise (· < ·) := by
  unfold rgI
  rw [List.pairwise_map]
  exact List.pairwise_lt_range.imp fun h => by omega
theorem any_int (i : Int) : ∀ ns : List Int, ((ns.map D.int).any fun z => eqvD z (.int i)) = ns.contains i
  | [] => rfl
  | n :: ns => by
    rw [List.map_cons, List.any_cons, any_int i ns, List.contains_cons]
    congr 1
    simp only [eqvD]
    by_cases h : n = i
    · subst h; simp [eV_app, startS, eIsi, eNot, eAnd, eOr, eChain, sRet, sSeq, sSet, sIf, sNx, sDrop, sRaise, sRetN, aCons, eB, eCall, eTup, eLst, eIf, bAnd, bOr, bNot, tst, allD, viewT, viewL, viewX, tyD, isiB, hName, hTup, hsCons, hsNil, iSeq, wipeS, sAsg, gLe, gLt, gGe, gGt, gSub, gI20, gIsN, gNotN, gNotB, newL, eCut, ePart, gCut, iZip2, sFor]
    · have : (n == i) = false := by simpa [eV_app, startS, eIsi, eNot, eAnd, eOr, eChain, sRet, sSeq, sSet, sIf, sNx, sDrop, sRaise, sRetN, aCons, eB, eCall, eTup, eLst, eIf, bAnd, bOr, bNot, tst, allD, viewT, viewL, viewX, tyD, isiB, hName, hTup, hsCons, hsNil, iSeq, wipeS, sAsg, gLe, gLt, gGe, gGt, gSub, gI20, gIsN, gNotN, gNotB, newL, eCut, ePart, gCut, iZip2, sFor] using h
      have h2 : (i == n) = false := by simpa [eV_app, startS, eIsi, eNot, eAnd, eOr, eChain, sRet, sSeq, sSet, sIf, sNx, sDrop, sRaise, sRetN, aCons, eB, eCall, eTup, eLst, eIf, bAnd, bOr, bNot, tst, allD, viewT, viewL, viewX, tyD, isiB, hName, hTup, hsCons, hsNil, iSeq, wipeS, sAsg, gLe, gLt, gGe, gGt, gSub, gI20, gIsN, gNotN, gNotB, newL, eCut, ePart, gCut, iZip2, sFor] using fun z => h z.symm
      rw [this, h2]
theorem sortI_of {ns : List Int} (h : ns.Pairwise (· ≤ ·)) : sortI ns = ns := (sortI_eq (List.Perm.refl ns) h).symm
end DL
end

section
set_option linter.all false
set_option maxRecDepth 100000
set_option maxHeartbeats 1000000
namespace K03
open PySem DL
/-- an int between -/
def inB (v : D) (a b : Int) : Bool := match v with
  | .int i => decide (a ≤ i) && decide (i ≤ b)
  | _ => false
theorem s_is_in {v : D} {a b : Int} {μ : List MO} (hv : tyD v ≠ none) : g_is_in [.d v, .d (.int a), .d (.int b)] μ = some (.ok (.d (.bl (inB v a b))) μ) := by
  cases v <;> simp [eV_app, startS, eIsi, eNot, eAnd, eOr, eChain, sRet, sSeq, sSet, sIf, sNx, sDrop, sRaise, sRetN, aCons, eB, eCall, eTup, eLst, eIf, bAnd, bOr, bNot, tst, allD, viewT, viewL, viewX, tyD, isiB, hName, hTup, hsCons, hsNil, iSeq, wipeS, sAsg, gLe, gLt, gGe, gGt, gSub, gI20, gIsN, gNotN, gNotB, newL, eCut, ePart, gCut, iZip2, sFor, g_is_in, fb_is_in, inB] at hv ⊢
  rename_i i
  by_cases h : a ≤ i <;> simp [eV_app, startS, eIsi, eNot, eAnd, eOr, eChain, sRet, sSeq, sSet, sIf, sNx, sDrop, sRaise, sRetN, aCons, eB, eCall, eTup, eLst, eIf, bAnd, bOr, bNot, tst, allD, viewT, viewL, viewX, tyD, isiB, hName, hTup, hsCons, hsNil, iSeq, wipeS, sAsg, gLe, gLt, gGe, gGt, gSub, gI20, gIsN, gNotN, gNotB, newL, eCut, ePart, gCut, iZip2, sFor, h]
theorem ok_ty {n : Nat} {d : D} (h : okD n d = true) : tyD d ≠ none := by
  cases d <;> simp [eV_app, startS, eIsi, eNot, eAnd, eOr, eChain, sRet, sSeq, sSet, sIf, sNx, sDrop, sRaise, sRetN, aCons, eB, eCall, eTup, eLst, eIf, bAnd, bOr, bNot, tst, allD, viewT, viewL, viewX, tyD, isiB, hName, hTup, hsCons, hsNil, iSeq, wipeS, sAsg, gLe, gLt, gGe, gGt, gSub, gI20, gIsN, gNotN, gNotB, newL, eCut, ePart, gCut, iZip2, sFor, tyD]
  cases n <;> simp [eV_app, startS, eIsi, eNot, eAnd, eOr, eChain, sRet, sSeq, sSet, sIf, sNx, sDrop, sRaise, sRetN, aCons, eB, eCall, eTup, eLst, eIf, bAnd, bOr, bNot, tst, allD, viewT, viewL, viewX, tyD, isiB, hName, hTup, hsCons, hsNil, iSeq, wipeS, sAsg, gLe, gLt, gGe, gGt, gSub, gI20, gIsN, gNotN, gNotB, newL, eCut, ePart, gCut, iZip2, sFor, okD] at h
theorem ok_mem {n : Nat} : ∀ {ds : List D} {d : D}, okDs n ds = true → d ∈ ds → okD n d = true
  | d' :: ds, d, h, hm => by
    have h : okD n d' = true ∧ okDs n ds = true := by simpa [eV_app, startS, eIsi, eNot, eAnd, eOr, eChain, sRet, sSeq, sSet, sIf, sNx, sDrop, sRaise, sRetN, aCons, eB, eCall, eTup, eLst, eIf, bAnd, bOr, bNot, tst, allD, viewT, viewL, viewX, tyD, isiB, hName, hTup, hsCons, hsNil, iSeq, wipeS, sAsg, gLe, gLt, gGe, gGt, gSub, gI20, gIsN, gNotN, gNotB, newL, eCut, ePart, gCut, iZip2, sFor, okDs] using h
    rcases List.mem_cons.mp hm with rfl | hm
    · exact h.1
    · exact ok_mem h.2 hm
theorem ok_tup {n : Nat} {ds : List D} (h : okD n (.tup ds) = true) : ∃ m, n = m + 1 ∧ okDs m ds = true := by
  cases n with
  | zero => simp [eV_app, startS, eIsi, eNot, eAnd, eOr, eChain, sRet, sSeq, sSet, sIf, sNx, sDrop, sRaise, sRetN, aCons, eB, eCall, eTup, eLst, eIf, bAnd, bOr, bNot, tst, allD, viewT, viewL, viewX, tyD, isiB, hName, hTup, hsCons, hsNil, iSeq, wipeS, sAsg, gLe, gLt, gGe, gGt, gSub, gI20, gIsN, gNotN, gNotB, newL, eCut, ePart, gCut, iZip2, sFor, okD] at h
  | succ m => exact ⟨m, rfl, by simpa [eV_app, startS, eIsi, eNot, eAnd, eOr, eChain, sRet, sSeq, sSet, sIf, sNx, sDrop, sRaise, sRetN, aCons, eB, eCall, eTup, eLst, eIf, bAnd, bOr, bNot, tst, allD, viewT, viewL, viewX, tyD, isiB, hName, hTup, hsCons, hsNil, iSeq, wipeS, sAsg, gLe, gLt, gGe, gGt, gSub, gI20, gIsN, gNotN, gNotB, newL, eCut, ePart, gCut, iZip2, sFor, okD] using h⟩
def areB (v : D) (l m a b : Int) : Bool := match v with
  | .tup ds => decide (l ≤ ds.length) && decide ((ds.length : Int) ≤ m) && ds.all fun d => inB d a b
  | _ => false
theorem s_are_in {n : Nat} {v : D} {l m a b : Int} {μ : List MO} (hv : okD n v = true) (hm : m ≤ 1000) : g_are_in [.d v, .d (.int l), .d (.int m), .d (.int a), .d (.int b)] μ = some (.ok (.d (.bl (areB v l m a b))) μ) := by
  cases v <;> simp [eV_app, startS, eIsi, eNot, eAnd, eOr, eChain, sRet, sSeq, sSet, sIf, sNx, sDrop, sRaise, sRetN, aCons, eB, eCall, eTup, eLst, eIf, bAnd, bOr, bNot, tst, allD, viewT, viewL, viewX, tyD, isiB, hName, hTup, hsCons, hsNil, iSeq, wipeS, sAsg, gLe, gLt, gGe, gGt, gSub, gI20, gIsN, gNotN, gNotB, newL, eCut, ePart, gCut, iZip2, sFor, g_are_in, fb_are_in, gLen, areB]
  · rename_i ds
    obtain ⟨k, _, hk⟩ := ok_tup hv
    by_cases h1 : l ≤ ds.length
    · by_cases h2 : (ds.length : Int) ≤ m
      · simp [eV_app, startS, eIsi, eNot, eAnd, eOr, eChain, sRet, sSeq, sSet, sIf, sNx, sDrop, sRaise, sRetN, aCons, eB, eCall, eTup, eLst, eIf, bAnd, bOr, bNot, tst, allD, viewT, viewL, viewX, tyD, isiB, hName, hTup, hsCons, hsNil, iSeq, wipeS, sAsg, gLe, gLt, gGe, gGt, gSub, gI20, gIsN, gNotN, gNotB, newL, eCut, ePart, gCut, iZip2, sFor, h1, h2]
        rw [eLc_m (xs := ds) (it := id) (y := fun d => .bl (inB d a b))]
        · simp [eV_app, startS, eIsi, eNot, eAnd, eOr, eChain, sRet, sSeq, sSet, sIf, sNx, sDrop, sRaise, sRetN, aCons, eB, eCall, eTup, eLst, eIf, bAnd, bOr, bNot, tst, allD, viewT, viewL, viewX, tyD, isiB, hName, hTup, hsCons, hsNil, iSeq, wipeS, sAsg, gLe, gLt, gGe, gGt, gSub, gI20, gIsN, gNotN, gNotB, newL, eCut, ePart, gCut, iZip2, sFor, gOnBls, all_bls]
        · simp [eV_app, startS, eIsi, eNot, eAnd, eOr, eChain, sRet, sSeq, sSet, sIf, sNx, sDrop, sRaise, sRetN, aCons, eB, eCall, eTup, eLst, eIf, bAnd, bOr, bNot, tst, allD, viewT, viewL, viewX, tyD, isiB, hName, hTup, hsCons, hsNil, iSeq, wipeS, sAsg, gLe, gLt, gGe, gGt, gSub, gI20, gIsN, gNotN, gNotB, newL, eCut, ePart, gCut, iZip2, sFor]
        · unfold cap; omega
        · intro d hd
          exact ⟨_, rfl, by simp [eV_app, startS, eIsi, eNot, eAnd, eOr, eChain, sRet, sSeq, sSet, sIf, sNx, sDrop, sRaise, sRetN, aCons, eB, eCall, eTup, eLst, eIf, bAnd, bOr, bNot, tst, allD, viewT, viewL, viewX, tyD, isiB, hName, hTup, hsCons, hsNil, iSeq, wipeS, sAsg, gLe, gLt, gGe, gGt, gSub, gI20, gIsN, gNotN, gNotB, newL, eCut, ePart, gCut, iZip2, sFor, s_is_in (ok_ty (ok_mem hk hd))]⟩
      · simp [eV_app, startS, eIsi, eNot, eAnd, eOr, eChain, sRet, sSeq, sSet, sIf, sNx, sDrop, sRaise, sRetN, aCons, eB, eCall, eTup, eLst, eIf, bAnd, bOr, bNot, tst, allD, viewT, viewL, viewX, tyD, isiB, hName, hTup, hsCons, hsNil, iSeq, wipeS, sAsg, gLe, gLt, gGe, gGt, gSub, gI20, gIsN, gNotN, gNotB, newL, eCut, ePart, gCut, iZip2, sFor, h1, h2]
    · simp [eV_app, startS, eIsi, eNot, eAnd, eOr, eChain, sRet, sSeq, sSet, sIf, sNx, sDrop, sRaise, sRetN, aCons, eB, eCall, eTup, eLst, eIf, bAnd, bOr, bNot, tst, allD, viewT, viewL, viewX, tyD, isiB, hName, hTup, hsCons, hsNil, iSeq, wipeS, sAsg, gLe, gLt, gGe, gGt, gSub, gI20, gIsN, gNotN, gNotB, newL, eCut, ePart, gCut, iZip2, sFor, h1]
  · cases n <;> simp [eV_app, startS, eIsi, eNot, eAnd, eOr, eChain, sRet, sSeq, sSet, sIf, sNx, sDrop, sRaise, sRetN, aCons, eB, eCall, eTup, eLst, eIf, bAnd, bOr, bNot, tst, allD, viewT, viewL, viewX, tyD, isiB, hName, hTup, hsCons, hsNil, iSeq, wipeS, sAsg, gLe, gLt, gGe, gGt, gSub, gI20, gIsN, gNotN, gNotB, newL, eCut, ePart, gCut, iZip2, sFor, okD] at hv
def ascB (ns : List Int) : Bool := (ns.zip ns.tail).all fun p => decide (p.1 < p.2)
theorem s_is_ascending {ns : List Int} {μ : List MO} (hl : ns.length ≤ 1000) : g_is_ascending [.d (.tup (ns.map .int))] μ = some (.ok (.d (.bl (ascB ns))) μ) := by
  simp [eV_app, startS, eIsi, eNot, eAnd, eOr, eChain, sRet, sSeq, sSet, sIf, sNx, sDrop, sRaise, sRetN, aCons, eB, eCall, eTup, eLst, eIf, bAnd, bOr, bNot, tst, allD, viewT, viewL, viewX, tyD, isiB, hName, hTup, hsCons, hsNil, iSeq, wipeS, sAsg, gLe, gLt, gGe, gGt, gSub, gI20, gIsN, gNotN, gNotB, newL, eCut, ePart, gCut, iZip2, sFor, g_is_ascending, fb_is_ascending, cutD_from]
  rw [eLc_m (xs := ns.zip ns.tail) (it := pairD) (y := fun p => .bl (decide (p.1 < p.2)))]
  · simp [eV_app, startS, eIsi, eNot, eAnd, eOr, eChain, sRet, sSeq, sSet, sIf, sNx, sDrop, sRaise, sRetN, aCons, eB, eCall, eTup, eLst, eIf, bAnd, bOr, bNot, tst, allD, viewT, viewL, viewX, tyD, isiB, hName, hTup, hsCons, hsNil, iSeq, wipeS, sAsg, gLe, gLt, gGe, gGt, gSub, gI20, gIsN, gNotN, gNotB, newL, eCut, ePart, gCut, iZip2, sFor, gOnBls, all_bls, ascB]
  · simp [eV_app, startS, eIsi, eNot, eAnd, eOr, eChain, sRet, sSeq, sSet, sIf, sNx, sDrop, sRaise, sRetN, aCons, eB, eCall, eTup, eLst, eIf, bAnd, bOr, bNot, tst, allD, viewT, viewL, viewX, tyD, isiB, hName, hTup, hsCons, hsNil, iSeq, wipeS, sAsg, gLe, gLt, gGe, gGt, gSub, gI20, gIsN, gNotN, gNotB, newL, eCut, ePart, gCut, iZip2, sFor, cutD_from, ← List.map_tail, zipD_ints]
  · have : (ns.zip ns.tail).length ≤ ns.length := by simp [eV_app, startS, eIsi, eNot, eAnd, eOr, eChain, sRet, sSeq, sSet, sIf, sNx, sDrop, sRaise, sRetN, aCons, eB, eCall, eTup, eLst, eIf, bAnd, bOr, bNot, tst, allD, viewT, viewL, viewX, tyD, isiB, hName, hTup, hsCons, hsNil, iSeq, wipeS, sAsg, gLe, gLt, gGe, gGt, gSub, gI20, gIsN, gNotN, gNotB, newL, eCut, ePart, gCut, iZip2, sFor]
    unfold cap; omega
  · intro p hp
    exact ⟨_, rfl, rfl⟩
theorem s_demand {b : Bool} {x : Str} {μ : List MO} : g_demand [.d (.bl b), .d (.str x)] μ = if b then some (.ok (.d .non) μ) else some (.ex (.arg (.str x)) μ) := by
  cases b <;> simp [eV_app, startS, eIsi, eNot, eAnd, eOr, eChain, sRet, sSeq, sSet, sIf, sNx, sDrop, sRaise, sRetN, aCons, eB, eCall, eTup, eLst, eIf, bAnd, bOr, bNot, tst, allD, viewT, viewL, viewX, tyD, isiB, hName, hTup, hsCons, hsNil, iSeq, wipeS, sAsg, gLe, gLt, gGe, gGt, gSub, gI20, gIsN, gNotN, gNotB, newL, eCut, ePart, gCut, iZip2, sFor, g_demand, fb_demand]
/-- the ints of a tuple -/
def slotsB (v : D) (least : Int) : Bool := areB v least 8 0 7 && match v with | .tup ds => (match allInts ds with | some ns => ascB ns | none => false) | _ => false
theorem are_ints {n : Nat} {v : D} {l m a b : Int} (h : areB v l m a b = true) : ∃ ns : List Int, v = .tup (ns.map D.int) ∧ l ≤ ns.length ∧ (ns.length : Int) ≤ m ∧ ∀ x ∈ ns, a ≤ x ∧ x ≤ b := by
  cases v <;> simp [eV_app, startS, eIsi, eNot, eAnd, eOr, eChain, sRet, sSeq, sSet, sIf, sNx, sDrop, sRaise, sRetN, aCons, eB, eCall, eTup, eLst, eIf, bAnd, bOr, bNot, tst, allD, viewT, viewL, viewX, tyD, isiB, hName, hTup, hsCons, hsNil, iSeq, wipeS, sAsg, gLe, gLt, gGe, gGt, gSub, gI20, gIsN, gNotN, gNotB, newL, eCut, ePart, gCut, iZip2, sFor, areB] at h
  rename_i ds
  obtain ⟨⟨h1, h2⟩, h3⟩ := h
  have : ∀ ds : List D, (∀ d ∈ ds, inB d a b = true) → ∃ ns : List Int, ds = ns.map D.int ∧ ∀ x ∈ ns, a ≤ x ∧ x ≤ b := fun ds => by
    induction ds with
    | nil => exact fun _ => ⟨[], rfl, by simp [eV_app, startS, eIsi, eNot, eAnd, eOr, eChain, sRet, sSeq, sSet, sIf, sNx, sDrop, sRaise, sRetN, aCons, eB, eCall, eTup, eLst, eIf, bAnd, bOr, bNot, tst, allD, viewT, viewL, viewX, tyD, isiB, hName, hTup, hsCons, hsNil, iSeq, wipeS, sAsg, gLe, gLt, gGe, gGt, gSub, gI20, gIsN, gNotN, gNotB, newL, eCut, ePart, gCut, iZip2, sFor]⟩
    | cons d ds ih =>
      intro h
      obtain ⟨ns, e, hn⟩ := ih fun z hz => h z (List.mem_cons_of_mem _ hz)
      have hd := h d List.mem_cons_self
      cases d <;> simp [eV_app, startS, eIsi, eNot, eAnd, eOr, eChain, sRet, sSeq, sSet, sIf, sNx, sDrop, sRaise, sRetN, aCons, eB, eCall, eTup, eLst, eIf, bAnd, bOr, bNot, tst, allD, viewT, viewL, viewX, tyD, isiB, hName, hTup, hsCons, hsNil, iSeq, wipeS, sAsg, gLe, gLt, gGe, gGt, gSub, gI20, gIsN, gNotN, gNotB, newL, eCut, ePart, gCut, iZip2, sFor, inB] at hd
      rename_i i
      refine ⟨i :: ns, by rw [e]; rfl, fun x hx => ?_⟩
      rcases List.mem_cons.mp hx with rfl | hx
      · exact hd
      · exact hn x hx
  obtain ⟨ns, e, hn⟩ := this ds h3
  subst e
  rw [List.length_map] at h1 h2
  exact ⟨ns, rfl, h1, h2, hn⟩
theorem s_are_slots {n : Nat} {v : D} {least : Int} {μ : List MO} (hv : okD n v = true) : g_are_slots [.d v, .d (.int least)] μ = some (.ok (.d (.bl (slotsB v least))) μ) := by
  simp [eV_app, startS, eIsi, eNot, eAnd, eOr, eChain, sRet, sSeq, sSet, sIf, sNx, sDrop, sRaise, sRetN, aCons, eB, eCall, eTup, eLst, eIf, bAnd, bOr, bNot, tst, allD, viewT, viewL, viewX, tyD, isiB, hName, hTup, hsCons, hsNil, iSeq, wipeS, sAsg, gLe, gLt, gGe, gGt, gSub, gI20, gIsN, gNotN, gNotB, newL, eCut, ePart, gCut, iZip2, sFor, g_are_slots, fb_are_slots, s_are_in hv]
  cases h : areB v least 8 0 7 with
  | false => simp [eV_app, startS, eIsi, eNot, eAnd, eOr, eChain, sRet, sSeq, sSet, sIf, sNx, sDrop, sRaise, sRetN, aCons, eB, eCall, eTup, eLst, eIf, bAnd, bOr, bNot, tst, allD, viewT, viewL, viewX, tyD, isiB, hName, hTup, hsCons, hsNil, iSeq, wipeS, sAsg, gLe, gLt, gGe, gGt, gSub, gI20, gIsN, gNotN, gNotB, newL, eCut, ePart, gCut, iZip2, sFor, slotsB, h]
  | true =>
    obtain ⟨ns, rfl, h1, h2, h3⟩ := are_ints (n := n) h
    simp [eV_app, startS, eIsi, eNot, eAnd, eOr, eChain, sRet, sSeq, sSet, sIf, sNx, sDrop, sRaise, sRetN, aCons, eB, eCall, eTup, eLst, eIf, bAnd, bOr, bNot, tst, allD, viewT, viewL, viewX, tyD, isiB, hName, hTup, hsCons, hsNil, iSeq, wipeS, sAsg, gLe, gLt, gGe, gGt, gSub, gI20, gIsN, gNotN, gNotB, newL, eCut, ePart, gCut, iZip2, sFor, slotsB, h, allInts_map, s_is_ascending (ns := ns) (μ := μ) (by omega)]
theorem s_bag {n : Nat} {v : D} {ds : List D} {μ : List MO} (hv : okD n v = true) (hl : ds.length ≤ 1000) : g_is_bag [.d (.tup ds), .d v] μ = some (.ok (.d (.bl (areB v ds.length ds.length 0 1800))) μ) := by
  simp [eV_app, startS, eIsi, eNot, eAnd, eOr, eChain, sRet, sSeq, sSet, sIf, sNx, sDrop, sRaise, sRetN, aCons, eB, eCall, eTup, eLst, eIf, bAnd, bOr, bNot, tst, allD, viewT, viewL, viewX, tyD, isiB, hName, hTup, hsCons, hsNil, iSeq, wipeS, sAsg, gLe, gLt, gGe, gGt, gSub, gI20, gIsN, gNotN, gNotB, newL, eCut, ePart, gCut, iZip2, sFor, g_is_bag, fb_is_bag, gLen, s_are_in hv (show (ds.length : Int) ≤ 1000 by omega)]
def machineB : D → Bool
  | .tup ds => decide (1 ≤ ds.length) && decide (ds.length ≤ 6) && ds.all fun d => slotsB d 1
  | _ => false
theorem s_is_machine {n : Nat} {v : D} {μ : List MO} (hv : okD n v = true) : g_is_machine [.d v] μ = some (.ok (.d (.bl (machineB v))) μ) := by
  cases v <;> simp [eV_app, startS, eIsi, eNot, eAnd, eOr, eChain, sRet, sSeq, sSet, sIf, sNx, sDrop, sRaise, sRetN, aCons, eB, eCall, eTup, eLst, eIf, bAnd, bOr, bNot, tst, allD, viewT, viewL, viewX, tyD, isiB, hName, hTup, hsCons, hsNil, iSeq, wipeS, sAsg, gLe, gLt, gGe, gGt, gSub, gI20, gIsN, gNotN, gNotB, newL, eCut, ePart, gCut, iZip2, sFor, g_is_machine, fb_is_machine, gLen, machineB]
  · rename_i ds
    obtain ⟨k, _, hk⟩ := ok_tup hv
    by_cases h1 : (1 : Int) ≤ ds.length
    · by_cases h2 : (ds.length : Int) ≤ 6
      · have h1' : 1 ≤ ds.length := by omega
        have h2' : ds.length ≤ 6 := by omega
        simp [eV_app, startS, eIsi, eNot, eAnd, eOr, eChain, sRet, sSeq, sSet, sIf, sNx, sDrop, sRaise, sRetN, aCons, eB, eCall, eTup, eLst, eIf, bAnd, bOr, bNot, tst, allD, viewT, viewL, viewX, tyD, isiB, hName, hTup, hsCons, hsNil, iSeq, wipeS, sAsg, gLe, gLt, gGe, gGt, gSub, gI20, gIsN, gNotN, gNotB, newL, eCut, ePart, gCut, iZip2, sFor, h1, h2, h1', h2']
        rw [eLc_m (xs := ds) (it := id) (y := fun d => .bl (slotsB d 1))]
        · simp [eV_app, startS, eIsi, eNot, eAnd, eOr, eChain, sRet, sSeq, sSet, sIf, sNx, sDrop, sRaise, sRetN, aCons, eB, eCall, eTup, eLst, eIf, bAnd, bOr, bNot, tst, allD, viewT, viewL, viewX, tyD, isiB, hName, hTup, hsCons, hsNil, iSeq, wipeS, sAsg, gLe, gLt, gGe, gGt, gSub, gI20, gIsN, gNotN, gNotB, newL, eCut, ePart, gCut, iZip2, sFor, gOnBls, all_bls]
        · simp [eV_app, startS, eIsi, eNot, eAnd, eOr, eChain, sRet, sSeq, sSet, sIf, sNx, sDrop, sRaise, sRetN, aCons, eB, eCall, eTup, eLst, eIf, bAnd, bOr, bNot, tst, allD, viewT, viewL, viewX, tyD, isiB, hName, hTup, hsCons, hsNil, iSeq, wipeS, sAsg, gLe, gLt, gGe, gGt, gSub, gI20, gIsN, gNotN, gNotB, newL, eCut, ePart, gCut, iZip2, sFor]
        · unfold cap; omega
        · intro d hd
          exact ⟨_, rfl, by simp [eV_app, startS, eIsi, eNot, eAnd, eOr, eChain, sRet, sSeq, sSet, sIf, sNx, sDrop, sRaise, sRetN, aCons, eB, eCall, eTup, eLst, eIf, bAnd, bOr, bNot, tst, allD, viewT, viewL, viewX, tyD, isiB, hName, hTup, hsCons, hsNil, iSeq, wipeS, sAsg, gLe, gLt, gGe, gGt, gSub, gI20, gIsN, gNotN, gNotB, newL, eCut, ePart, gCut, iZip2, sFor, s_are_slots (ok_mem hk hd)]⟩
      · have h2' : ¬ ds.length ≤ 6 := by omega
        simp [eV_app, startS, eIsi, eNot, eAnd, eOr, eChain, sRet, sSeq, sSet, sIf, sNx, sDrop, sRaise, sRetN, aCons, eB, eCall, eTup, eLst, eIf, bAnd, bOr, bNot, tst, allD, viewT, viewL, viewX, tyD, isiB, hName, hTup, hsCons, hsNil, iSeq, wipeS, sAsg, gLe, gLt, gGe, gGt, gSub, gI20, gIsN, gNotN, gNotB, newL, eCut, ePart, gCut, iZip2, sFor, h1, h2, h2']
    · have h1' : ¬ 1 ≤ ds.length := by omega
      simp [eV_app, startS, eIsi, eNot, eAnd, eOr, eChain, sRet, sSeq, sSet, sIf, sNx, sDrop, sRaise, sRetN, aCons, eB, eCall, eTup, eLst, eIf, bAnd, bOr, bNot, tst, allD, viewT, viewL, viewX, tyD, isiB, hName, hTup, hsCons, hsNil, iSeq, wipeS, sAsg, gLe, gLt, gGe, gGt, gSub, gI20, gIsN, gNotN, gNotB, newL, eCut, ePart, gCut, iZip2, sFor, h1, h1']
  · cases n <;> simp [eV_app, startS, eIsi, eNot, eAnd, eOr, eChain, sRet, sSeq, sSet, sIf, sNx, sDrop, sRaise, sRetN, aCons, eB, eCall, eTup, eLst, eIf, bAnd, bOr, bNot, tst, allD, viewT, viewL, viewX, tyD, isiB, hName, hTup, hsCons, hsNil, iSeq, wipeS, sAsg, gLe, gLt, gGe, gGt, gSub, gI20, gIsN, gNotN, gNotB, newL, eCut, ePart, gCut, iZip2, sFor, okD] at hv
def widthsB (v : D) : Bool := areB v 1 7 1 1000 && match v with | .tup ds => (match allInts ds with | some ns => ascB ns | none => false) | _ => false
theorem s_are_widths {n : Nat} {v : D} {μ : List MO} (hv : okD n v = true) : g_are_widths [.d v] μ = some (.ok (.d (.bl (widthsB v))) μ) := by
  simp [eV_app, startS, eIsi, eNot, eAnd, eOr, eChain, sRet, sSeq, sSet, sIf, sNx, sDrop, sRaise, sRetN, aCons, eB, eCall, eTup, eLst, eIf, bAnd, bOr, bNot, tst, allD, viewT, viewL, viewX, tyD, isiB, hName, hTup, hsCons, hsNil, iSeq, wipeS, sAsg, gLe, gLt, gGe, gGt, gSub, gI20, gIsN, gNotN, gNotB, newL, eCut, ePart, gCut, iZip2, sFor, g_are_widths, fb_are_widths, s_are_in hv]
  cases h : areB v 1 7 1 1000 with
  | false => simp [eV_app, startS, eIsi, eNot, eAnd, eOr, eChain, sRet, sSeq, sSet, sIf, sNx, sDrop, sRaise, sRetN, aCons, eB, eCall, eTup, eLst, eIf, bAnd, bOr, bNot, tst, allD, viewT, viewL, viewX, tyD, isiB, hName, hTup, hsCons, hsNil, iSeq, wipeS, sAsg, gLe, gLt, gGe, gGt, gSub, gI20, gIsN, gNotN, gNotB, newL, eCut, ePart, gCut, iZip2, sFor, widthsB, h]
  | true =>
    obtain ⟨ns, rfl, h1, h2, h3⟩ := are_ints (n := n) h
    simp [eV_app, startS, eIsi, eNot, eAnd, eOr, eChain, sRet, sSeq, sSet, sIf, sNx, sDrop, sRaise, sRetN, aCons, eB, eCall, eTup, eLst, eIf, bAnd, bOr, bNot, tst, allD, viewT, viewL, viewX, tyD, isiB, hName, hTup, hsCons, hsNil, iSeq, wipeS, sAsg, gLe, gLt, gGe, gGt, gSub, gI20, gIsN, gNotN, gNotB, newL, eCut, ePart, gCut, iZip2, sFor, widthsB, h, allInts_map, s_is_ascending (ns := ns) (μ := μ) (by omega)]
def sizeB : D → Bool
  | .tup [.int a, b] => decide (1 ≤ a) && decide (a ≤ 1000) && inB b a 1000
  | _ => false
theorem s_is_size {n : Nat} {v : D} {μ : List MO} (hv : okD n v = true) : g_is_size [.d v] μ = some (.ok (.d (.bl (sizeB v))) μ) := by
  cases v <;> simp [eV_app, startS, eIsi, eNot, eAnd, eOr, eChain, sRet, sSeq, sSet, sIf, sNx, sDrop, sRaise, sRetN, aCons, eB, eCall, eTup, eLst, eIf, bAnd, bOr, bNot, tst, allD, viewT, viewL, viewX, tyD, isiB, hName, hTup, hsCons, hsNil, iSeq, wipeS, sAsg, gLe, gLt, gGe, gGt, gSub, gI20, gIsN, gNotN, gNotB, newL, eCut, ePart, gCut, iZip2, sFor, g_is_size, fb_is_size, gLen, sizeB]
  · rename_i ds
    obtain ⟨k, _, hk⟩ := ok_tup hv
    match ds, hk with
    | [], _ => simp [eV_app, startS, eIsi, eNot, eAnd, eOr, eChain, sRet, sSeq, sSet, sIf, sNx, sDrop, sRaise, sRetN, aCons, eB, eCall, eTup, eLst, eIf, bAnd, bOr, bNot, tst, allD, viewT, viewL, viewX, tyD, isiB, hName, hTup, hsCons, hsNil, iSeq, wipeS, sAsg, gLe, gLt, gGe, gGt, gSub, gI20, gIsN, gNotN, gNotB, newL, eCut, ePart, gCut, iZip2, sFor, gNe, toD, okD, eqvD]
    | [a], _ => simp [eV_app, startS, eIsi, eNot, eAnd, eOr, eChain, sRet, sSeq, sSet, sIf, sNx, sDrop, sRaise, sRetN, aCons, eB, eCall, eTup, eLst, eIf, bAnd, bOr, bNot, tst, allD, viewT, viewL, viewX, tyD, isiB, hName, hTup, hsCons, hsNil, iSeq, wipeS, sAsg, gLe, gLt, gGe, gGt, gSub, gI20, gIsN, gNotN, gNotB, newL, eCut, ePart, gCut, iZip2, sFor, gNe, toD, okD, eqvD]
    | a :: b :: c :: r, _ =>
      have : ((r.length : Int) + 1 + 1 + 1 == 2) = false := beq_eq_false_iff_ne.mpr (by omega)
      simp [eV_app, startS, eIsi, eNot, eAnd, eOr, eChain, sRet, sSeq, sSet, sIf, sNx, sDrop, sRaise, sRetN, aCons, eB, eCall, eTup, eLst, eIf, bAnd, bOr, bNot, tst, allD, viewT, viewL, viewX, tyD, isiB, hName, hTup, hsCons, hsNil, iSeq, wipeS, sAsg, gLe, gLt, gGe, gGt, gSub, gI20, gIsN, gNotN, gNotB, newL, eCut, ePart, gCut, iZip2, sFor, gNe, toD, okD, eqvD, this]
    | [a, b], hk =>
      have ha := ok_mem hk (d := a) (by simp [eV_app, startS, eIsi, eNot, eAnd, eOr, eChain, sRet, sSeq, sSet, sIf, sNx, sDrop, sRaise, sRetN, aCons, eB, eCall, eTup, eLst, eIf, bAnd, bOr, bNot, tst, allD, viewT, viewL, viewX, tyD, isiB, hName, hTup, hsCons, hsNil, iSeq, wipeS, sAsg, gLe, gLt, gGe, gGt, gSub, gI20, gIsN, gNotN, gNotB, newL, eCut, ePart, gCut, iZip2, sFor])
      have hb := ok_mem hk (d := b) (by simp [eV_app, startS, eIsi, eNot, eAnd, eOr, eChain, sRet, sSeq, sSet, sIf, sNx, sDrop, sRaise, sRetN, aCons, eB, eCall, eTup, eLst, eIf, bAnd, bOr, bNot, tst, allD, viewT, viewL, viewX, tyD, isiB, hName, hTup, hsCons, hsNil, iSeq, wipeS, sAsg, gLe, gLt, gGe, gGt, gSub, gI20, gIsN, gNotN, gNotB, newL, eCut, ePart, gCut, iZip2, sFor])
      have i0 : L2.atI [a, b] 0 = some a := rfl
      have i1 : L2.atI [a, b] 1 = some b := rfl
      simp [eV_app, startS, eIsi, eNot, eAnd, eOr, eChain, sRet, sSeq, sSet, sIf, sNx, sDrop, sRaise, sRetN, aCons, eB, eCall, eTup, eLst, eIf, bAnd, bOr, bNot, tst, allD, viewT, viewL, viewX, tyD, isiB, hName, hTup, hsCons, hsNil, iSeq, wipeS, sAsg, gLe, gLt, gGe, gGt, gSub, gI20, gIsN, gNotN, gNotB, newL, eCut, ePart, gCut, iZip2, sFor, gNe, toD, okD, eqvD, gIx, i0, i1, s_is_in (ok_ty ha)]
      cases a <;> simp [eV_app, startS, eIsi, eNot, eAnd, eOr, eChain, sRet, sSeq, sSet, sIf, sNx, sDrop, sRaise, sRetN, aCons, eB, eCall, eTup, eLst, eIf, bAnd, bOr, bNot, tst, allD, viewT, viewL, viewX, tyD, isiB, hName, hTup, hsCons, hsNil, iSeq, wipeS, sAsg, gLe, gLt, gGe, gGt, gSub, gI20, gIsN, gNotN, gNotB, newL, eCut, ePart, gCut, iZip2, sFor, inB]
      rename_i x
      by_cases h1 : 1 ≤ x
      · by_cases h2 : x ≤ 1000
        · simp [eV_app, startS, eIsi, eNot, eAnd, eOr, eChain, sRet, sSeq, sSet, sIf, sNx, sDrop, sRaise, sRetN, aCons, eB, eCall, eTup, eLst, eIf, bAnd, bOr, bNot, tst, allD, viewT, viewL, viewX, tyD, isiB, hName, hTup, hsCons, hsNil, iSeq, wipeS, sAsg, gLe, gLt, gGe, gGt, gSub, gI20, gIsN, gNotN, gNotB, newL, eCut, ePart, gCut, iZip2, sFor, h1, h2, s_is_in (ok_ty hb), i0, i1, gIx]
          rfl
        · simp [eV_app, startS, eIsi, eNot, eAnd, eOr, eChain, sRet, sSeq, sSet, sIf, sNx, sDrop, sRaise, sRetN, aCons, eB, eCall, eTup, eLst, eIf, bAnd, bOr, bNot, tst, allD, viewT, viewL, viewX, tyD, isiB, hName, hTup, hsCons, hsNil, iSeq, wipeS, sAsg, gLe, gLt, gGe, gGt, gSub, gI20, gIsN, gNotN, gNotB, newL, eCut, ePart, gCut, iZip2, sFor, h1, h2]
      · simp [eV_app, startS, eIsi, eNot, eAnd, eOr, eChain, sRet, sSeq, sSet, sIf, sNx, sDrop, sRaise, sRetN, aCons, eB, eCall, eTup, eLst, eIf, bAnd, bOr, bNot, tst, allD, viewT, viewL, viewX, tyD, isiB, hName, hTup, hsCons, hsNil, iSeq, wipeS, sAsg, gLe, gLt, gGe, gGt, gSub, gI20, gIsN, gNotN, gNotB, newL, eCut, ePart, gCut, iZip2, sFor, h1]
  · cases n <;> simp [eV_app, startS, eIsi, eNot, eAnd, eOr, eChain, sRet, sSeq, sSet, sIf, sNx, sDrop, sRaise, sRetN, aCons, eB, eCall, eTup, eLst, eIf, bAnd, bOr, bNot, tst, allD, viewT, viewL, viewX, tyD, isiB, hName, hTup, hsCons, hsNil, iSeq, wipeS, sAsg, gLe, gLt, gGe, gGt, gSub, gI20, gIsN, gNotN, gNotB, newL, eCut, ePart, gCut, iZip2, sFor, okD] at hv
def sizesB : D → Bool
  | .tup ds => decide (1 ≤ ds.length) && decide (ds.length ≤ 6) && ds.all sizeB
  | _ => false
theorem s_are_sizes {n : Nat} {v : D} {μ : List MO} (hv : okD n v = true) : g_are_sizes [.d v] μ = some (.ok (.d (.bl (sizesB v))) μ) := by
  cases v <;> simp [eV_app, startS, eIsi, eNot, eAnd, eOr, eChain, sRet, sSeq, sSet, sIf, sNx, sDrop, sRaise, sRetN, aCons, eB, eCall, eTup, eLst, eIf, bAnd, bOr, bNot, tst, allD, viewT, viewL, viewX, tyD, isiB, hName, hTup, hsCons, hsNil, iSeq, wipeS, sAsg, gLe, gLt, gGe, gGt, gSub, gI20, gIsN, gNotN, gNotB, newL, eCut, ePart, gCut, iZip2, sFor, g_are_sizes, fb_are_sizes, gLen, sizesB]
  · rename_i ds
    obtain ⟨k, _, hk⟩ := ok_tup hv
    by_cases h1 : (1 : Int) ≤ ds.length
    · by_cases h2 : (ds.length : Int) ≤ 6
      · have h1' : 1 ≤ ds.length := by omega
        have h2' : ds.length ≤ 6 := by omega
        simp [eV_app, startS, eIsi, eNot, eAnd, eOr, eChain, sRet, sSeq, sSet, sIf, sNx, sDrop, sRaise, sRetN, aCons, eB, eCall, eTup, eLst, eIf, bAnd, bOr, bNot, tst, allD, viewT, viewL, viewX, tyD, isiB, hName, hTup, hsCons, hsNil, iSeq, wipeS, sAsg, gLe, gLt, gGe, gGt, gSub, gI20, gIsN, gNotN, gNotB, newL, eCut, ePart, gCut, iZip2, sFor, h1, h2, h1', h2']
        rw [eLc_m (xs := ds) (it := id) (y := fun d => .bl (sizeB d))]
        · simp [eV_app, startS, eIsi, eNot, eAnd, eOr, eChain, sRet, sSeq, sSet, sIf, sNx, sDrop, sRaise, sRetN, aCons, eB, eCall, eTup, eLst, eIf, bAnd, bOr, bNot, tst, allD, viewT, viewL, viewX, tyD, isiB, hName, hTup, hsCons, hsNil, iSeq, wipeS, sAsg, gLe, gLt, gGe, gGt, gSub, gI20, gIsN, gNotN, gNotB, newL, eCut, ePart, gCut, iZip2, sFor, gOnBls, all_bls]
        · simp [eV_app, startS, eIsi, eNot, eAnd, eOr, eChain, sRet, sSeq, sSet, sIf, sNx, sDrop, sRaise, sRetN, aCons, eB, eCall, eTup, eLst, eIf, bAnd, bOr, bNot, tst, allD, viewT, viewL, viewX, tyD, isiB, hName, hTup, hsCons, hsNil, iSeq, wipeS, sAsg, gLe, gLt, gGe, gGt, gSub, gI20, gIsN, gNotN, gNotB, newL, eCut, ePart, gCut, iZip2, sFor]
        · unfold cap; omega
        · intro d hd
          exact ⟨_, rfl, by simp [eV_app, startS, eIsi, eNot, eAnd, eOr, eChain, sRet, sSeq, sSet, sIf, sNx, sDrop, sRaise, sRetN, aCons, eB, eCall, eTup, eLst, eIf, bAnd, bOr, bNot, tst, allD, viewT, viewL, viewX, tyD, isiB, hName, hTup, hsCons, hsNil, iSeq, wipeS, sAsg, gLe, gLt, gGe, gGt, gSub, gI20, gIsN, gNotN, gNotB, newL, eCut, ePart, gCut, iZip2, sFor, s_is_size (ok_mem hk hd)]⟩
      · have h2' : ¬ ds.length ≤ 6 := by omega
        simp [eV_app, startS, eIsi, eNot, eAnd, eOr, eChain, sRet, sSeq, sSet, sIf, sNx, sDrop, sRaise, sRetN, aCons, eB, eCall, eTup, eLst, eIf, bAnd, bOr, bNot, tst, allD, viewT, viewL, viewX, tyD, isiB, hName, hTup, hsCons, hsNil, iSeq, wipeS, sAsg, gLe, gLt, gGe, gGt, gSub, gI20, gIsN, gNotN, gNotB, newL, eCut, ePart, gCut, iZip2, sFor, h1, h2, h2']
    · have h1' : ¬ 1 ≤ ds.length := by omega
      simp [eV_app, startS, eIsi, eNot, eAnd, eOr, eChain, sRet, sSeq, sSet, sIf, sNx, sDrop, sRaise, sRetN, aCons, eB, eCall, eTup, eLst, eIf, bAnd, bOr, bNot, tst, allD, viewT, viewL, viewX, tyD, isiB, hName, hTup, hsCons, hsNil, iSeq, wipeS, sAsg, gLe, gLt, gGe, gGt, gSub, gI20, gIsN, gNotN, gNotB, newL, eCut, ePart, gCut, iZip2, sFor, h1, h1']
  · cases n <;> simp [eV_app, startS, eIsi, eNot, eAnd, eOr, eChain, sRet, sSeq, sSet, sIf, sNx, sDrop, sRaise, sRetN, aCons, eB, eCall, eTup, eLst, eIf, bAnd, bOr, bNot, tst, allD, viewT, viewL, viewX, tyD, isiB, hName, hTup, hsCons, hsNil, iSeq, wipeS, sAsg, gLe, gLt, gGe, gGt, gSub, gI20, gIsN, gNotN, gNotB, newL, eCut, ePart, gCut, iZip2, sFor, okD] at hv
def hole (ws : List Int) (w : Int) : Nat := (ws.filter fun h => decide (h < w)).length
theorem s_hole_of {ws : List Int} {w : Int} {μ : List MO} (hl : ws.length ≤ 1000) : g_hole_of [.d (.tup (ws.map .int)), .d (.int w)] μ = some (.ok (.d (.int (hole ws w))) μ) := by
  simp [eV_app, startS, eIsi, eNot, eAnd, eOr, eChain, sRet, sSeq, sSet, sIf, sNx, sDrop, sRaise, sRetN, aCons, eB, eCall, eTup, eLst, eIf, bAnd, bOr, bNot, tst, allD, viewT, viewL, viewX, tyD, isiB, hName, hTup, hsCons, hsNil, iSeq, wipeS, sAsg, gLe, gLt, gGe, gGt, gSub, gI20, gIsN, gNotN, gNotB, newL, eCut, ePart, gCut, iZip2, sFor, g_hole_of, fb_hole_of]
  rw [eLc_p (xs := ws) (it := D.int) (p := fun h => decide (h < w)) (y := D.int)]
  · simp [eV_app, startS, eIsi, eNot, eAnd, eOr, eChain, sRet, sSeq, sSet, sIf, sNx, sDrop, sRaise, sRetN, aCons, eB, eCall, eTup, eLst, eIf, bAnd, bOr, bNot, tst, allD, viewT, viewL, viewX, tyD, isiB, hName, hTup, hsCons, hsNil, iSeq, wipeS, sAsg, gLe, gLt, gGe, gGt, gSub, gI20, gIsN, gNotN, gNotB, newL, eCut, ePart, gCut, iZip2, sFor, gLen, hole]
  · simp [eV_app, startS, eIsi, eNot, eAnd, eOr, eChain, sRet, sSeq, sSet, sIf, sNx, sDrop, sRaise, sRetN, aCons, eB, eCall, eTup, eLst, eIf, bAnd, bOr, bNot, tst, allD, viewT, viewL, viewX, tyD, isiB, hName, hTup, hsCons, hsNil, iSeq, wipeS, sAsg, gLe, gLt, gGe, gGt, gSub, gI20, gIsN, gNotN, gNotB, newL, eCut, ePart, gCut, iZip2, sFor]
  · unfold cap; omega
  · intro h hh
    exact ⟨_, rfl, rfl, fun _ => rfl⟩
/-- the slots that a size takes -/
def takes (ws : List Int) (p : Int × Int) : List Int := rgI (hole ws p.1) (hole ws p.2 + 1)
abbrev tupI (ns : List Int) : D := .tup (ns.map .int)
theorem hole_le (ws : List Int) (w : Int) : hole ws w ≤ ws.length := List.length_filter_le _ _
theorem s_made_of {ws : List Int} {ps : List (Int × Int)} {μ : List MO} (hl : ws.length ≤ 1000) (hp : ps.length ≤ 1000) : g_made_of [.d (tupI ws), .d (.tup (ps.map pairD))] μ = some (.ok (.d (.tup (ps.map fun p => tupI (takes ws p)))) μ) := by
  simp [eV_app, startS, eIsi, eNot, eAnd, eOr, eChain, sRet, sSeq, sSet, sIf, sNx, sDrop, sRaise, sRetN, aCons, eB, eCall, eTup, eLst, eIf, bAnd, bOr, bNot, tst, allD, viewT, viewL, viewX, tyD, isiB, hName, hTup, hsCons, hsNil, iSeq, wipeS, sAsg, gLe, gLt, gGe, gGt, gSub, gI20, gIsN, gNotN, gNotB, newL, eCut, ePart, gCut, iZip2, sFor, g_made_of, fb_made_of, tupI]
  rw [eLc_m (xs := ps) (it := pairD) (y := fun p => tupI (takes ws p))]
  · simp [eV_app, startS, eIsi, eNot, eAnd, eOr, eChain, sRet, sSeq, sSet, sIf, sNx, sDrop, sRaise, sRetN, aCons, eB, eCall, eTup, eLst, eIf, bAnd, bOr, bNot, tst, allD, viewT, viewL, viewX, tyD, isiB, hName, hTup, hsCons, hsNil, iSeq, wipeS, sAsg, gLe, gLt, gGe, gGt, gSub, gI20, gIsN, gNotN, gNotB, newL, eCut, ePart, gCut, iZip2, sFor, gTup, tupI]
  · simp [eV_app, startS, eIsi, eNot, eAnd, eOr, eChain, sRet, sSeq, sSet, sIf, sNx, sDrop, sRaise, sRetN, aCons, eB, eCall, eTup, eLst, eIf, bAnd, bOr, bNot, tst, allD, viewT, viewL, viewX, tyD, isiB, hName, hTup, hsCons, hsNil, iSeq, wipeS, sAsg, gLe, gLt, gGe, gGt, gSub, gI20, gIsN, gNotN, gNotB, newL, eCut, ePart, gCut, iZip2, sFor]
  · unfold cap; omega
  · intro p _
    refine ⟨_, rfl, ?_⟩
    have h1 := hole_le ws p.1
    have h2 := hole_le ws p.2
    simp [eV_app, startS, eIsi, eNot, eAnd, eOr, eChain, sRet, sSeq, sSet, sIf, sNx, sDrop, sRaise, sRetN, aCons, eB, eCall, eTup, eLst, eIf, bAnd, bOr, bNot, tst, allD, viewT, viewL, viewX, tyD, isiB, hName, hTup, hsCons, hsNil, iSeq, wipeS, sAsg, gLe, gLt, gGe, gGt, gSub, gI20, gIsN, gNotN, gNotB, newL, eCut, ePart, gCut, iZip2, sFor, eTupRg, s_hole_of hl, gAdd]
    exact ⟨by omega, rfl⟩
theorem okDs_map {α : Type} {n : Nat} (f : α → D) : ∀ (xs : List α), (∀ x ∈ xs, okD n (f x) = true) → okDs n (xs.map f) = true
  | [], _ => by simp [eV_app, startS, eIsi, eNot, eAnd, eOr, eChain, sRet, sSeq, sSet, sIf, sNx, sDrop, sRaise, sRetN, aCons, eB, eCall, eTup, eLst, eIf, bAnd, bOr, bNot, tst, allD, viewT, viewL, viewX, tyD, isiB, hName, hTup, hsCons, hsNil, iSeq, wipeS, sAsg, gLe, gLt, gGe, gGt, gSub, gI20, gIsN, gNotN, gNotB, newL, eCut, ePart, gCut, iZip2, sFor, okDs]
  | x :: xs, h => by
    simp only [List.map_cons, okDs, h x List.mem_cons_self, okDs_map f xs fun z hz => h z (List.mem_cons_of_mem _ hz), Bool.and_self]
theorem ok_int (n : Nat) (i : Int) : okD n (.int i) = true := by cases n <;> rfl
theorem ok_tupI (n : Nat) (ns : List Int) : okD (n + 1) (tupI ns) = true := by
  simp only [tupI, okD]
  exact okDs_map _ ns fun x _ => ok_int n x
theorem ok_pair (n : Nat) (p : Int × Int) : okD (n + 1) (pairD p) = true := by simp [eV_app, startS, eIsi, eNot, eAnd, eOr, eChain, sRet, sSeq, sSet, sIf, sNx, sDrop, sRaise, sRetN, aCons, eB, eCall, eTup, eLst, eIf, bAnd, bOr, bNot, tst, allD, viewT, viewL, viewX, tyD, isiB, hName, hTup, hsCons, hsNil, iSeq, wipeS, sAsg, gLe, gLt, gGe, gGt, gSub, gI20, gIsN, gNotN, gNotB, newL, eCut, ePart, gCut, iZip2, sFor, pairD, okD, okDs, ok_int]
abbrev szD (ps : List (Int × Int)) : D := .tup (ps.map pairD)
theorem ok_sz (n : Nat) (ps : List (Int × Int)) : okD (n + 2) (szD ps) = true := by
  simp only [szD, okD]
  exact okDs_map _ ps fun p _ => ok_pair n p
/-- sizes as they are allowed -/
def SzOk (ps : List (Int × Int)) : Prop := 1 ≤ ps.length ∧ ps.length ≤ 6 ∧ ∀ p ∈ ps, 1 ≤ p.1 ∧ p.1 ≤ p.2 ∧ p.2 ≤ 1000
theorem sizesB_typed {ps : List (Int × Int)} (h : SzOk ps) : sizesB (szD ps) = true := by
  obtain ⟨h1, h2, h3⟩ := h
  simp only [sizesB, szD, List.length_map, Bool.and_eq_true, decide_eq_true_eq, List.all_eq_true]
  refine ⟨⟨h1, h2⟩, fun d hd => ?_⟩
  obtain ⟨p, hp, rfl⟩ := List.mem_map.mp hd
  obtain ⟨a, b, c⟩ := h3 p hp
  simp only [pairD, sizeB, inB, Bool.and_eq_true, decide_eq_true_eq]
  omega
theorem s_machine_of {ws : List Int} {ps : List (Int × Int)} {μ : List MO} (hw : widthsB (tupI ws) = true) (hs : SzOk ps) : g_machine_of [.d (tupI ws), .d (szD ps)] μ = some (.ok (.d (.tup (ps.map fun p => tupI (takes ws p)))) μ) := by
  have hl : ws.length ≤ 1000 := by
    simp only [widthsB, Bool.and_eq_true] at hw
    obtain ⟨ns, e, _, h2, _⟩ := are_ints (n := 20) hw.1
    simp only [tupI, D.tup.injEq] at e
    have := congrArg List.length e
    simp [eV_app, startS, eIsi, eNot, eAnd, eOr, eChain, sRet, sSeq, sSet, sIf, sNx, sDrop, sRaise, sRetN, aCons, eB, eCall, eTup, eLst, eIf, bAnd, bOr, bNot, tst, allD, viewT, viewL, viewX, tyD, isiB, hName, hTup, hsCons, hsNil, iSeq, wipeS, sAsg, gLe, gLt, gGe, gGt, gSub, gI20, gIsN, gNotN, gNotB, newL, eCut, ePart, gCut, iZip2, sFor] at this
    omega
  have hp : ps.length ≤ 1000 := by have := hs.2.1; omega
  simp [eV_app, startS, eIsi, eNot, eAnd, eOr, eChain, sRet, sSeq, sSet, sIf, sNx, sDrop, sRaise, sRetN, aCons, eB, eCall, eTup, eLst, eIf, bAnd, bOr, bNot, tst, allD, viewT, viewL, viewX, tyD, isiB, hName, hTup, hsCons, hsNil, iSeq, wipeS, sAsg, gLe, gLt, gGe, gGt, gSub, gI20, gIsN, gNotN, gNotB, newL, eCut, ePart, gCut, iZip2, sFor, g_machine_of, fb_machine_of, s_are_widths (ok_tupI 19 ws), s_are_sizes (ok_sz 18 ps), hw, sizesB_typed hs, s_demand, s_made_of hl hp]
theorem x_machine_of {v u : D} {n m : Nat} {μ : List MO} (hv : okD n v = true) (hu : okD m u = true) : g_machine_of [.d v, .d u] μ = if widthsB v = false then some (.ex (.arg (.str "widths")) μ) else if sizesB u = false then some (.ex (.arg (.str "sizes")) μ) else g_machine_of [.d v, .d u] μ := by
  cases h1 : widthsB v with
  | false => simp [eV_app, startS, eIsi, eNot, eAnd, eOr, eChain, sRet, sSeq, sSet, sIf, sNx, sDrop, sRaise, sRetN, aCons, eB, eCall, eTup, eLst, eIf, bAnd, bOr, bNot, tst, allD, viewT, viewL, viewX, tyD, isiB, hName, hTup, hsCons, hsNil, iSeq, wipeS, sAsg, gLe, gLt, gGe, gGt, gSub, gI20, gIsN, gNotN, gNotB, newL, eCut, ePart, gCut, iZip2, sFor, g_machine_of, fb_machine_of, s_are_widths hv, h1, s_demand]
  | true =>
    cases h2 : sizesB u with
    | false => simp [eV_app, startS, eIsi, eNot, eAnd, eOr, eChain, sRet, sSeq, sSet, sIf, sNx, sDrop, sRaise, sRetN, aCons, eB, eCall, eTup, eLst, eIf, bAnd, bOr, bNot, tst, allD, viewT, viewL, viewX, tyD, isiB, hName, hTup, hsCons, hsNil, iSeq, wipeS, sAsg, gLe, gLt, gGe, gGt, gSub, gI20, gIsN, gNotN, gNotB, newL, eCut, ePart, gCut, iZip2, sFor, g_machine_of, fb_machine_of, s_are_widths hv, s_are_sizes hu, h1, h2, s_demand]
    | true => simp [eV_app, startS, eIsi, eNot, eAnd, eOr, eChain, sRet, sSeq, sSet, sIf, sNx, sDrop, sRaise, sRetN, aCons, eB, eCall, eTup, eLst, eIf, bAnd, bOr, bNot, tst, allD, viewT, viewL, viewX, tyD, isiB, hName, hTup, hsCons, hsNil, iSeq, wipeS, sAsg, gLe, gLt, gGe, gGt, gSub, gI20, gIsN, gNotN, gNotB, newL, eCut, ePart, gCut, iZip2, sFor]
end K03
end

section
set_option linter.all false
set_option maxRecDepth 100000
set_option maxHeartbeats 1000000
namespace K03
open PySem DL
def clashB (ps : List (Int × Int)) : Bool := (ps.zip ps.tail).any fun z => decide (z.2.1 ≤ z.1.2)
def partedR (ps : List (Int × Int)) : D := if clashB (sortP ps) then .non else if 1 < ps.length then tupI ((sortP ps).dropLast.map (·.2)) else tupI [1000]
theorem s_parted {ps : List (Int × Int)} {μ : List MO} (hs : SzOk ps) : g_parted [.d (szD ps)] μ = some (.ok (.d (partedR ps)) μ) := by
  have hn : allInts (ps.map pairD) = none := by
    cases ps with
    | nil => exact absurd hs.1 (by simp [eV_app, startS, eIsi, eNot, eAnd, eOr, eChain, sRet, sSeq, sSet, sIf, sNx, sDrop, sRaise, sRetN, aCons, eB, eCall, eTup, eLst, eIf, bAnd, bOr, bNot, tst, allD, viewT, viewL, viewX, tyD, isiB, hName, hTup, hsCons, hsNil, iSeq, wipeS, sAsg, gLe, gLt, gGe, gGt, gSub, gI20, gIsN, gNotN, gNotB, newL, eCut, ePart, gCut, iZip2, sFor])
    | cons p ps => simp [eV_app, startS, eIsi, eNot, eAnd, eOr, eChain, sRet, sSeq, sSet, sIf, sNx, sDrop, sRaise, sRetN, aCons, eB, eCall, eTup, eLst, eIf, bAnd, bOr, bNot, tst, allD, viewT, viewL, viewX, tyD, isiB, hName, hTup, hsCons, hsNil, iSeq, wipeS, sAsg, gLe, gLt, gGe, gGt, gSub, gI20, gIsN, gNotN, gNotB, newL, eCut, ePart, gCut, iZip2, sFor, allInts, pairD]
  have hlen : (sortP ps).length = ps.length := (sortP_perm ps).length_eq
  have h6 := hs.2.1
  simp [eV_app, startS, eIsi, eNot, eAnd, eOr, eChain, sRet, sSeq, sSet, sIf, sNx, sDrop, sRaise, sRetN, aCons, eB, eCall, eTup, eLst, eIf, bAnd, bOr, bNot, tst, allD, viewT, viewL, viewX, tyD, isiB, hName, hTup, hsCons, hsNil, iSeq, wipeS, sAsg, gLe, gLt, gGe, gGt, gSub, gI20, gIsN, gNotN, gNotB, newL, eCut, ePart, gCut, iZip2, sFor, g_parted, fb_parted, s_are_sizes (ok_sz 18 ps), sizesB_typed hs, s_demand, gSorted, viewS, allPairs_map, hn]
  rw [eLc_m (xs := (sortP ps).zip (sortP ps).tail) (it := fun z => .tup [pairD z.1, pairD z.2]) (y := fun z => .bl (decide (z.2.1 ≤ z.1.2)))]
  · have hcl : (((sortP ps).zip (sortP ps).tail).any fun x => decide (x.2.1 ≤ x.1.2)) = clashB (sortP ps) := rfl
    simp [eV_app, startS, eIsi, eNot, eAnd, eOr, eChain, sRet, sSeq, sSet, sIf, sNx, sDrop, sRaise, sRetN, aCons, eB, eCall, eTup, eLst, eIf, bAnd, bOr, bNot, tst, allD, viewT, viewL, viewX, tyD, isiB, hName, hTup, hsCons, hsNil, iSeq, wipeS, sAsg, gLe, gLt, gGe, gGt, gSub, gI20, gIsN, gNotN, gNotB, newL, eCut, ePart, gCut, iZip2, sFor, gOnBls, all_bls]
    rw [hcl]
    cases hc : clashB (sortP ps) with
    | true => simp [eV_app, startS, eIsi, eNot, eAnd, eOr, eChain, sRet, sSeq, sSet, sIf, sNx, sDrop, sRaise, sRetN, aCons, eB, eCall, eTup, eLst, eIf, bAnd, bOr, bNot, tst, allD, viewT, viewL, viewX, tyD, isiB, hName, hTup, hsCons, hsNil, iSeq, wipeS, sAsg, gLe, gLt, gGe, gGt, gSub, gI20, gIsN, gNotN, gNotB, newL, eCut, ePart, gCut, iZip2, sFor, partedR, hc]
    | false =>
      by_cases h1 : 1 < ps.length
      · have h1' : (1 : Int) < ps.length := by omega
        simp [eV_app, startS, eIsi, eNot, eAnd, eOr, eChain, sRet, sSeq, sSet, sIf, sNx, sDrop, sRaise, sRetN, aCons, eB, eCall, eTup, eLst, eIf, bAnd, bOr, bNot, tst, allD, viewT, viewL, viewX, tyD, isiB, hName, hTup, hsCons, hsNil, iSeq, wipeS, sAsg, gLe, gLt, gGe, gGt, gSub, gI20, gIsN, gNotN, gNotB, newL, eCut, ePart, gCut, iZip2, sFor, partedR, hc, h1, gLen, hlen, h1']
        rw [eLc_m (xs := (sortP ps).dropLast) (it := pairD) (y := fun p => .int p.2)]
        · simp [eV_app, startS, eIsi, eNot, eAnd, eOr, eChain, sRet, sSeq, sSet, sIf, sNx, sDrop, sRaise, sRetN, aCons, eB, eCall, eTup, eLst, eIf, bAnd, bOr, bNot, tst, allD, viewT, viewL, viewX, tyD, isiB, hName, hTup, hsCons, hsNil, iSeq, wipeS, sAsg, gLe, gLt, gGe, gGt, gSub, gI20, gIsN, gNotN, gNotB, newL, eCut, ePart, gCut, iZip2, sFor, gTup, tupI, List.map_map]
          rfl
        · simp [eV_app, startS, eIsi, eNot, eAnd, eOr, eChain, sRet, sSeq, sSet, sIf, sNx, sDrop, sRaise, sRetN, aCons, eB, eCall, eTup, eLst, eIf, bAnd, bOr, bNot, tst, allD, viewT, viewL, viewX, tyD, isiB, hName, hTup, hsCons, hsNil, iSeq, wipeS, sAsg, gLe, gLt, gGe, gGt, gSub, gI20, gIsN, gNotN, gNotB, newL, eCut, ePart, gCut, iZip2, sFor, eNeg, cutD_init, List.map_dropLast]
        · simp [eV_app, startS, eIsi, eNot, eAnd, eOr, eChain, sRet, sSeq, sSet, sIf, sNx, sDrop, sRaise, sRetN, aCons, eB, eCall, eTup, eLst, eIf, bAnd, bOr, bNot, tst, allD, viewT, viewL, viewX, tyD, isiB, hName, hTup, hsCons, hsNil, iSeq, wipeS, sAsg, gLe, gLt, gGe, gGt, gSub, gI20, gIsN, gNotN, gNotB, newL, eCut, ePart, gCut, iZip2, sFor]; unfold cap; omega
        · intro p hp
          exact ⟨_, rfl, rfl⟩
      · have h1' : ¬ (1 : Int) < ps.length := by omega
        simp [eV_app, startS, eIsi, eNot, eAnd, eOr, eChain, sRet, sSeq, sSet, sIf, sNx, sDrop, sRaise, sRetN, aCons, eB, eCall, eTup, eLst, eIf, bAnd, bOr, bNot, tst, allD, viewT, viewL, viewX, tyD, isiB, hName, hTup, hsCons, hsNil, iSeq, wipeS, sAsg, gLe, gLt, gGe, gGt, gSub, gI20, gIsN, gNotN, gNotB, newL, eCut, ePart, gCut, iZip2, sFor, partedR, hc, h1, gLen, hlen, h1', tupI]
  · simp [eV_app, startS, eIsi, eNot, eAnd, eOr, eChain, sRet, sSeq, sSet, sIf, sNx, sDrop, sRaise, sRetN, aCons, eB, eCall, eTup, eLst, eIf, bAnd, bOr, bNot, tst, allD, viewT, viewL, viewX, tyD, isiB, hName, hTup, hsCons, hsNil, iSeq, wipeS, sAsg, gLe, gLt, gGe, gGt, gSub, gI20, gIsN, gNotN, gNotB, newL, eCut, ePart, gCut, iZip2, sFor, cutD_from, ← List.map_tail, zipD_map]
  · have : ((sortP ps).zip (sortP ps).tail).length ≤ (sortP ps).length := by simp [eV_app, startS, eIsi, eNot, eAnd, eOr, eChain, sRet, sSeq, sSet, sIf, sNx, sDrop, sRaise, sRetN, aCons, eB, eCall, eTup, eLst, eIf, bAnd, bOr, bNot, tst, allD, viewT, viewL, viewX, tyD, isiB, hName, hTup, hsCons, hsNil, iSeq, wipeS, sAsg, gLe, gLt, gGe, gGt, gSub, gI20, gIsN, gNotN, gNotB, newL, eCut, ePart, gCut, iZip2, sFor]
    unfold cap; omega
  · intro z hz
    exact ⟨_, rfl, rfl⟩
theorem x_parted {u : D} {m : Nat} {μ : List MO} (hu : okD m u = true) (h : sizesB u = false) : g_parted [.d u] μ = some (.ex (.arg (.str "sizes")) μ) := by
  simp [eV_app, startS, eIsi, eNot, eAnd, eOr, eChain, sRet, sSeq, sSet, sIf, sNx, sDrop, sRaise, sRetN, aCons, eB, eCall, eTup, eLst, eIf, bAnd, bOr, bNot, tst, allD, viewT, viewL, viewX, tyD, isiB, hName, hTup, hsCons, hsNil, iSeq, wipeS, sAsg, gLe, gLt, gGe, gGt, gSub, gI20, gIsN, gNotN, gNotB, newL, eCut, ePart, gCut, iZip2, sFor, g_parted, fb_parted, s_are_sizes hu, h, s_demand]
theorem x_is_parted {u v : D} {m : Nat} {μ : List MO} (hu : okD m u = true) (h : sizesB u = false) : g_is_parted [.d u, .d v] μ = some (.ex (.arg (.str "sizes")) μ) := by
  simp [eV_app, startS, eIsi, eNot, eAnd, eOr, eChain, sRet, sSeq, sSet, sIf, sNx, sDrop, sRaise, sRetN, aCons, eB, eCall, eTup, eLst, eIf, bAnd, bOr, bNot, tst, allD, viewT, viewL, viewX, tyD, isiB, hName, hTup, hsCons, hsNil, iSeq, wipeS, sAsg, gLe, gLt, gGe, gGt, gSub, gI20, gIsN, gNotN, gNotB, newL, eCut, ePart, gCut, iZip2, sFor, g_is_parted, fb_is_parted, s_are_sizes hu, h, s_demand]
def slotsOf (ws : List Int) (ps : List (Int × Int)) : List Int := (ps.map (takes ws)).flatten
def fitB (ws : List Int) (ps : List (Int × Int)) : Bool := ((dedI (slotsOf ws ps)).length : Int) == ((slotsOf ws ps).length : Int)
def isPartB (ps : List (Int × Int)) (v : D) : Bool := widthsB v && match v with | .tup ds => (match allInts ds with | some ws => fitB ws ps | none => false) | _ => false
theorem takes_len (ws : List Int) (p : Int × Int) (h : ws.length ≤ 7) : (takes ws p).length ≤ 8 := by
  unfold takes
  rw [rgI_length]
  have := hole_le ws p.1
  have := hole_le ws p.2
  omega
theorem slotsOf_len (ws : List Int) (h : ws.length ≤ 7) : ∀ ps : List (Int × Int), (slotsOf ws ps).length ≤ 8 * ps.length
  | [] => by simp [eV_app, startS, eIsi, eNot, eAnd, eOr, eChain, sRet, sSeq, sSet, sIf, sNx, sDrop, sRaise, sRetN, aCons, eB, eCall, eTup, eLst, eIf, bAnd, bOr, bNot, tst, allD, viewT, viewL, viewX, tyD, isiB, hName, hTup, hsCons, hsNil, iSeq, wipeS, sAsg, gLe, gLt, gGe, gGt, gSub, gI20, gIsN, gNotN, gNotB, newL, eCut, ePart, gCut, iZip2, sFor, slotsOf]
  | p :: ps => by
    have h1 := slotsOf_len ws h ps
    have h2 := takes_len ws p h
    unfold slotsOf at h1 ⊢
    simp only [List.map_cons, List.flatten_cons, List.length_append, List.length_cons]
    omega
theorem s_is_parted {ps : List (Int × Int)} {v : D} {n : Nat} {μ : List MO} (hs : SzOk ps) (hv : okD n v = true) : g_is_parted [.d (szD ps), .d v] μ = some (.ok (.d (.bl (isPartB ps v))) μ) := by
  have h6 := hs.2.1
  cases hw : widthsB v with
  | false => simp [eV_app, startS, eIsi, eNot, eAnd, eOr, eChain, sRet, sSeq, sSet, sIf, sNx, sDrop, sRaise, sRetN, aCons, eB, eCall, eTup, eLst, eIf, bAnd, bOr, bNot, tst, allD, viewT, viewL, viewX, tyD, isiB, hName, hTup, hsCons, hsNil, iSeq, wipeS, sAsg, gLe, gLt, gGe, gGt, gSub, gI20, gIsN, gNotN, gNotB, newL, eCut, ePart, gCut, iZip2, sFor, g_is_parted, fb_is_parted, s_are_sizes (ok_sz 18 ps), sizesB_typed hs, s_demand, s_are_widths hv, hw, isPartB]
  | true =>
    have hw' := hw
    simp only [widthsB, Bool.and_eq_true] at hw'
    obtain ⟨ws, rfl, h1, h2, h3⟩ := are_ints (n := n) hw'.1
    have h7 : ws.length ≤ 7 := by omega
    have hlen := slotsOf_len ws h7 ps
    simp [eV_app, startS, eIsi, eNot, eAnd, eOr, eChain, sRet, sSeq, sSet, sIf, sNx, sDrop, sRaise, sRetN, aCons, eB, eCall, eTup, eLst, eIf, bAnd, bOr, bNot, tst, allD, viewT, viewL, viewX, tyD, isiB, hName, hTup, hsCons, hsNil, iSeq, wipeS, sAsg, gLe, gLt, gGe, gGt, gSub, gI20, gIsN, gNotN, gNotB, newL, eCut, ePart, gCut, iZip2, sFor, g_is_parted, fb_is_parted, s_are_sizes (ok_sz 18 ps), sizesB_typed hs, s_demand, s_are_widths hv, hw, isPartB, allInts_map]
    rw [eLc2_p (xs := ps) (it := fun p => tupI (takes ws p)) (zs := takes ws) (it1 := D.int) (y := fun _ z => .int z)]
    · have e : (ps.map fun x => (takes ws x).map D.int).flatten = (slotsOf ws ps).map D.int := by
        unfold slotsOf
        rw [List.map_flatten, List.map_map]; rfl
      rw [e]
      simp [eV_app, startS, eIsi, eNot, eAnd, eOr, eChain, sRet, sSeq, sSet, sIf, sNx, sDrop, sRaise, sRetN, aCons, eB, eCall, eTup, eLst, eIf, bAnd, bOr, bNot, tst, allD, viewT, viewL, viewX, tyD, isiB, hName, hTup, hsCons, hsNil, iSeq, wipeS, sAsg, gLe, gLt, gGe, gGt, gSub, gI20, gIsN, gNotN, gNotB, newL, eCut, ePart, gCut, iZip2, sFor, eLenSet, viewS, allInts_map, gLen, gEq, toD, ok_int, eqvD]
      rw [if_pos (by omega)]
      simp [eV_app, startS, eIsi, eNot, eAnd, eOr, eChain, sRet, sSeq, sSet, sIf, sNx, sDrop, sRaise, sRetN, aCons, eB, eCall, eTup, eLst, eIf, bAnd, bOr, bNot, tst, allD, viewT, viewL, viewX, tyD, isiB, hName, hTup, hsCons, hsNil, iSeq, wipeS, sAsg, gLe, gLt, gGe, gGt, gSub, gI20, gIsN, gNotN, gNotB, newL, eCut, ePart, gCut, iZip2, sFor, ok_int, eqvD, fitB]
    · have hm := s_made_of (ws := ws) (ps := ps) (μ := μ) (by omega) (by omega)
      simp [eV_app, startS, eIsi, eNot, eAnd, eOr, eChain, sRet, sSeq, sSet, sIf, sNx, sDrop, sRaise, sRetN, aCons, eB, eCall, eTup, eLst, eIf, bAnd, bOr, bNot, tst, allD, viewT, viewL, viewX, tyD, isiB, hName, hTup, hsCons, hsNil, iSeq, wipeS, sAsg, gLe, gLt, gGe, gGt, gSub, gI20, gIsN, gNotN, gNotB, newL, eCut, ePart, gCut, iZip2, sFor, tupI] at hm ⊢
      simp [eV_app, startS, eIsi, eNot, eAnd, eOr, eChain, sRet, sSeq, sSet, sIf, sNx, sDrop, sRaise, sRetN, aCons, eB, eCall, eTup, eLst, eIf, bAnd, bOr, bNot, tst, allD, viewT, viewL, viewX, tyD, isiB, hName, hTup, hsCons, hsNil, iSeq, wipeS, sAsg, gLe, gLt, gGe, gGt, gSub, gI20, gIsN, gNotN, gNotB, newL, eCut, ePart, gCut, iZip2, sFor, hm]
    · have e : (ps.map fun x => (takes ws x).map D.int).flatten.length = (slotsOf ws ps).length := by
        unfold slotsOf
        have : (ps.map fun x => (takes ws x).map D.int) = (ps.map (takes ws)).map (List.map D.int) := by rw [List.map_map]; rfl
        rw [this, ← List.map_flatten, List.length_map]
      rw [e]; unfold cap; omega
    · intro p hp
      refine ⟨_, rfl, by simp [eV_app, startS, eIsi, eNot, eAnd, eOr, eChain, sRet, sSeq, sSet, sIf, sNx, sDrop, sRaise, sRetN, aCons, eB, eCall, eTup, eLst, eIf, bAnd, bOr, bNot, tst, allD, viewT, viewL, viewX, tyD, isiB, hName, hTup, hsCons, hsNil, iSeq, wipeS, sAsg, gLe, gLt, gGe, gGt, gSub, gI20, gIsN, gNotN, gNotB, newL, eCut, ePart, gCut, iZip2, sFor, tupI], fun z hz => ⟨_, rfl, by simp [eV_app, startS, eIsi, eNot, eAnd, eOr, eChain, sRet, sSeq, sSet, sIf, sNx, sDrop, sRaise, sRetN, aCons, eB, eCall, eTup, eLst, eIf, bAnd, bOr, bNot, tst, allD, viewT, viewL, viewX, tyD, isiB, hName, hTup, hsCons, hsNil, iSeq, wipeS, sAsg, gLe, gLt, gGe, gGt, gSub, gI20, gIsN, gNotN, gNotB, newL, eCut, ePart, gCut, iZip2, sFor]⟩⟩
/-! ### fills -/
def fillsR (m : List (List Int)) (bag : List Int) : List Int := (rgI 0 8).map fun s => (((m.zip bag).filter fun z => z.1.contains s).map (·.2)).sum
end K03
end

section
set_option linter.all false
set_option maxRecDepth 100000
set_option maxHeartbeats 1000000
namespace K03
open PySem DL
abbrev mcD (m : List (List Int)) : D := .tup (m.map tupI)
theorem ok_mc (n : Nat) (m : List (List Int)) : okD (n + 2) (mcD m) = true := by
  simp only [mcD, okD]
  exact okDs_map _ m fun p _ => ok_tupI n p
theorem gIn_ints {i : Int} {ns : List Int} {μ : List MO} : gIn false (.d (.int i)) (.d (tupI ns)) μ = some (.ok (.d (.bl (ns.contains i))) μ) := by
  simp [eV_app, startS, eIsi, eNot, eAnd, eOr, eChain, sRet, sSeq, sSet, sIf, sNx, sDrop, sRaise, sRetN, aCons, eB, eCall, eTup, eLst, eIf, bAnd, bOr, bNot, tst, allD, viewT, viewL, viewX, tyD, isiB, hName, hTup, hsCons, hsNil, iSeq, wipeS, sAsg, gLe, gLt, gGe, gGt, gSub, gI20, gIsN, gNotN, gNotB, newL, eCut, ePart, gCut, iZip2, sFor, gIn, tupI, allInts_map]
theorem zipD_mc (m : List (List Int)) (bag : List Int) : zipD (m.map tupI) (bag.map D.int) = (m.zip bag).map fun z => .tup [tupI z.1, .int z.2] := zipD_map m bag tupI D.int
theorem s_fills_of {m : List (List Int)} {bag : List Int} {μ : List MO} (hm : m.length ≤ 1000) : g_fills_of [.d (mcD m), .d (tupI bag)] μ = some (.ok (.d (.lst ((fillsR m bag).map .int))) μ) := by
  simp [eV_app, startS, eIsi, eNot, eAnd, eOr, eChain, sRet, sSeq, sSet, sIf, sNx, sDrop, sRaise, sRetN, aCons, eB, eCall, eTup, eLst, eIf, bAnd, bOr, bNot, tst, allD, viewT, viewL, viewX, tyD, isiB, hName, hTup, hsCons, hsNil, iSeq, wipeS, sAsg, gLe, gLt, gGe, gGt, gSub, gI20, gIsN, gNotN, gNotB, newL, eCut, ePart, gCut, iZip2, sFor, g_fills_of, fb_fills_of, tupI]
  rw [eLc_m (xs := rgI 0 8) (it := D.int) (y := fun s => .int (((m.zip bag).filter fun z => z.1.contains s).map (·.2)).sum)]
  · simp [eV_app, startS, eIsi, eNot, eAnd, eOr, eChain, sRet, sSeq, sSet, sIf, sNx, sDrop, sRaise, sRetN, aCons, eB, eCall, eTup, eLst, eIf, bAnd, bOr, bNot, tst, allD, viewT, viewL, viewX, tyD, isiB, hName, hTup, hsCons, hsNil, iSeq, wipeS, sAsg, gLe, gLt, gGe, gGt, gSub, gI20, gIsN, gNotN, gNotB, newL, eCut, ePart, gCut, iZip2, sFor, fillsR, List.map_map]
  · simp [eV_app, startS, eIsi, eNot, eAnd, eOr, eChain, sRet, sSeq, sSet, sIf, sNx, sDrop, sRaise, sRetN, aCons, eB, eCall, eTup, eLst, eIf, bAnd, bOr, bNot, tst, allD, viewT, viewL, viewX, tyD, isiB, hName, hTup, hsCons, hsNil, iSeq, wipeS, sAsg, gLe, gLt, gGe, gGt, gSub, gI20, gIsN, gNotN, gNotB, newL, eCut, ePart, gCut, iZip2, sFor, iRg]
  · rw [rgI_length]; decide
  · intro s hs
    refine ⟨_, rfl, ?_⟩
    simp [eV_app, startS, eIsi, eNot, eAnd, eOr, eChain, sRet, sSeq, sSet, sIf, sNx, sDrop, sRaise, sRetN, aCons, eB, eCall, eTup, eLst, eIf, bAnd, bOr, bNot, tst, allD, viewT, viewL, viewX, tyD, isiB, hName, hTup, hsCons, hsNil, iSeq, wipeS, sAsg, gLe, gLt, gGe, gGt, gSub, gI20, gIsN, gNotN, gNotB, newL, eCut, ePart, gCut, iZip2, sFor]
    rw [eLc_p (xs := m.zip bag) (it := fun z => .tup [tupI z.1, .int z.2]) (p := fun z => z.1.contains s) (y := fun z => .int z.2)]
    · simp [eV_app, startS, eIsi, eNot, eAnd, eOr, eChain, sRet, sSeq, sSet, sIf, sNx, sDrop, sRaise, sRetN, aCons, eB, eCall, eTup, eLst, eIf, bAnd, bOr, bNot, tst, allD, viewT, viewL, viewX, tyD, isiB, hName, hTup, hsCons, hsNil, iSeq, wipeS, sAsg, gLe, gLt, gGe, gGt, gSub, gI20, gIsN, gNotN, gNotB, newL, eCut, ePart, gCut, iZip2, sFor, gSum, all_ints]
    · simp [eV_app, startS, eIsi, eNot, eAnd, eOr, eChain, sRet, sSeq, sSet, sIf, sNx, sDrop, sRaise, sRetN, aCons, eB, eCall, eTup, eLst, eIf, bAnd, bOr, bNot, tst, allD, viewT, viewL, viewX, tyD, isiB, hName, hTup, hsCons, hsNil, iSeq, wipeS, sAsg, gLe, gLt, gGe, gGt, gSub, gI20, gIsN, gNotN, gNotB, newL, eCut, ePart, gCut, iZip2, sFor, zipD_mc]
    · simp [eV_app, startS, eIsi, eNot, eAnd, eOr, eChain, sRet, sSeq, sSet, sIf, sNx, sDrop, sRaise, sRetN, aCons, eB, eCall, eTup, eLst, eIf, bAnd, bOr, bNot, tst, allD, viewT, viewL, viewX, tyD, isiB, hName, hTup, hsCons, hsNil, iSeq, wipeS, sAsg, gLe, gLt, gGe, gGt, gSub, gI20, gIsN, gNotN, gNotB, newL, eCut, ePart, gCut, iZip2, sFor]; unfold cap; omega
    · intro z hz
      exact ⟨_, rfl, by simp [eV_app, startS, eIsi, eNot, eAnd, eOr, eChain, sRet, sSeq, sSet, sIf, sNx, sDrop, sRaise, sRetN, aCons, eB, eCall, eTup, eLst, eIf, bAnd, bOr, bNot, tst, allD, viewT, viewL, viewX, tyD, isiB, hName, hTup, hsCons, hsNil, iSeq, wipeS, sAsg, gLe, gLt, gGe, gGt, gSub, gI20, gIsN, gNotN, gNotB, newL, eCut, ePart, gCut, iZip2, sFor, gIn_ints], fun _ => by simp [eV_app, startS, eIsi, eNot, eAnd, eOr, eChain, sRet, sSeq, sSet, sIf, sNx, sDrop, sRaise, sRetN, aCons, eB, eCall, eTup, eLst, eIf, bAnd, bOr, bNot, tst, allD, viewT, viewL, viewX, tyD, isiB, hName, hTup, hsCons, hsNil, iSeq, wipeS, sAsg, gLe, gLt, gGe, gGt, gSub, gI20, gIsN, gNotN, gNotB, newL, eCut, ePart, gCut, iZip2, sFor]⟩
def McOk (m : List (List Int)) : Prop := 1 ≤ m.length ∧ m.length ≤ 6 ∧ ∀ sl ∈ m, 1 ≤ sl.length ∧ sl.length ≤ 8 ∧ (∀ x ∈ sl, 0 ≤ x ∧ x ≤ 7) ∧ ascB sl = true
theorem machineB_typed {m : List (List Int)} (h : McOk m) : machineB (mcD m) = true := by
  obtain ⟨h1, h2, h3⟩ := h
  simp only [machineB, mcD, List.length_map, Bool.and_eq_true, decide_eq_true_eq, List.all_eq_true]
  refine ⟨⟨h1, h2⟩, fun d hd => ?_⟩
  obtain ⟨sl, hs, rfl⟩ := List.mem_map.mp hd
  obtain ⟨a, b, c, e⟩ := h3 sl hs
  simp only [slotsB, tupI, areB, allInts_map, e, List.length_map, Bool.and_eq_true, decide_eq_true_eq, List.all_eq_true, and_true]
  refine ⟨⟨by omega, by omega⟩, fun d hd => ?_⟩
  obtain ⟨x, hx, rfl⟩ := List.mem_map.mp hd
  have := c x hx
  simp only [inB, Bool.and_eq_true, decide_eq_true_eq]
  omega
def IntsIn (ns : List Int) (n : Nat) (a b : Int) : Prop := ns.length = n ∧ ∀ x ∈ ns, a ≤ x ∧ x ≤ b
theorem areB_typed {ns : List Int} {n : Nat} {a b : Int} (h : IntsIn ns n a b) : areB (tupI ns) n n a b = true := by
  obtain ⟨h1, h2⟩ := h
  simp only [areB, tupI, List.length_map, h1, Bool.and_eq_true, decide_eq_true_eq, List.all_eq_true]
  refine ⟨⟨by omega, by omega⟩, fun d hd => ?_⟩
  obtain ⟨x, hx, rfl⟩ := List.mem_map.mp hd
  have := h2 x hx
  simp only [inB, Bool.and_eq_true, decide_eq_true_eq]
  omega
theorem s_fills {m : List (List Int)} {bag : List Int} {μ : List MO} (hm : McOk m) (hb : IntsIn bag m.length 0 1800) : g_fills [.d (mcD m), .d (tupI bag)] μ = some (.ok (.d (tupI (fillsR m bag))) μ) := by
  have h6 := hm.2.1
  have hb' := areB_typed hb
  have hbg := s_bag (v := tupI bag) (ds := m.map tupI) (μ := μ) (ok_tupI 5 bag) (by simp [eV_app, startS, eIsi, eNot, eAnd, eOr, eChain, sRet, sSeq, sSet, sIf, sNx, sDrop, sRaise, sRetN, aCons, eB, eCall, eTup, eLst, eIf, bAnd, bOr, bNot, tst, allD, viewT, viewL, viewX, tyD, isiB, hName, hTup, hsCons, hsNil, iSeq, wipeS, sAsg, gLe, gLt, gGe, gGt, gSub, gI20, gIsN, gNotN, gNotB, newL, eCut, ePart, gCut, iZip2, sFor]; omega)
  rw [List.length_map, hb'] at hbg
  simp [eV_app, startS, eIsi, eNot, eAnd, eOr, eChain, sRet, sSeq, sSet, sIf, sNx, sDrop, sRaise, sRetN, aCons, eB, eCall, eTup, eLst, eIf, bAnd, bOr, bNot, tst, allD, viewT, viewL, viewX, tyD, isiB, hName, hTup, hsCons, hsNil, iSeq, wipeS, sAsg, gLe, gLt, gGe, gGt, gSub, gI20, gIsN, gNotN, gNotB, newL, eCut, ePart, gCut, iZip2, sFor, g_fills, fb_fills, s_is_machine (ok_mc 5 m), machineB_typed hm, s_demand, hbg, s_fills_of (m := m) (bag := bag) (μ := μ) (by omega), gTup, tupI]
theorem s_never {m : List (List Int)} {bag bins : List Int} {μ : List MO} (hm : McOk m) (hb : IntsIn bag m.length 0 1800) (hn : IntsIn bins 8 0 20000) : g_never_fills [.d (mcD m), .d (tupI bag), .d (tupI bins)] μ = some (.ok (.d (.bl (((fillsR m bag).zip bins).all fun z => decide (z.1 ≤ z.2)))) μ) := by
  have h6 := hm.2.1
  have hb' := areB_typed hb
  have hbg := s_bag (v := tupI bag) (ds := m.map tupI) (μ := μ) (ok_tupI 5 bag) (by simp [eV_app, startS, eIsi, eNot, eAnd, eOr, eChain, sRet, sSeq, sSet, sIf, sNx, sDrop, sRaise, sRetN, aCons, eB, eCall, eTup, eLst, eIf, bAnd, bOr, bNot, tst, allD, viewT, viewL, viewX, tyD, isiB, hName, hTup, hsCons, hsNil, iSeq, wipeS, sAsg, gLe, gLt, gGe, gGt, gSub, gI20, gIsN, gNotN, gNotB, newL, eCut, ePart, gCut, iZip2, sFor]; omega)
  rw [List.length_map, hb'] at hbg
  have hn' := areB_typed hn
  have har := s_are_in (v := tupI bins) (l := 8) (m := 8) (a := 0) (b := 20000) (μ := μ) (ok_tupI 5 bins) (by omega)
  rw [show areB (tupI bins) 8 8 0 20000 = true from hn'] at har
  simp [eV_app, startS, eIsi, eNot, eAnd, eOr, eChain, sRet, sSeq, sSet, sIf, sNx, sDrop, sRaise, sRetN, aCons, eB, eCall, eTup, eLst, eIf, bAnd, bOr, bNot, tst, allD, viewT, viewL, viewX, tyD, isiB, hName, hTup, hsCons, hsNil, iSeq, wipeS, sAsg, gLe, gLt, gGe, gGt, gSub, gI20, gIsN, gNotN, gNotB, newL, eCut, ePart, gCut, iZip2, sFor, g_never_fills, fb_never_fills, s_is_machine (ok_mc 5 m), machineB_typed hm, s_demand, hbg, har]
  rw [eLc_m (xs := (fillsR m bag).zip bins) (it := pairD) (y := fun z => .bl (decide (z.1 ≤ z.2)))]
  · simp [eV_app, startS, eIsi, eNot, eAnd, eOr, eChain, sRet, sSeq, sSet, sIf, sNx, sDrop, sRaise, sRetN, aCons, eB, eCall, eTup, eLst, eIf, bAnd, bOr, bNot, tst, allD, viewT, viewL, viewX, tyD, isiB, hName, hTup, hsCons, hsNil, iSeq, wipeS, sAsg, gLe, gLt, gGe, gGt, gSub, gI20, gIsN, gNotN, gNotB, newL, eCut, ePart, gCut, iZip2, sFor, gOnBls, all_bls]
  · simp [eV_app, startS, eIsi, eNot, eAnd, eOr, eChain, sRet, sSeq, sSet, sIf, sNx, sDrop, sRaise, sRetN, aCons, eB, eCall, eTup, eLst, eIf, bAnd, bOr, bNot, tst, allD, viewT, viewL, viewX, tyD, isiB, hName, hTup, hsCons, hsNil, iSeq, wipeS, sAsg, gLe, gLt, gGe, gGt, gSub, gI20, gIsN, gNotN, gNotB, newL, eCut, ePart, gCut, iZip2, sFor, s_fills_of (m := m) (bag := bag) (μ := μ) (by omega), tupI, zipD_ints]
  · have : (fillsR m bag).length = 8 := by unfold fillsR; rw [List.length_map, rgI_length]; rfl
    have : ((fillsR m bag).zip bins).length ≤ 8 := by simp [eV_app, startS, eIsi, eNot, eAnd, eOr, eChain, sRet, sSeq, sSet, sIf, sNx, sDrop, sRaise, sRetN, aCons, eB, eCall, eTup, eLst, eIf, bAnd, bOr, bNot, tst, allD, viewT, viewL, viewX, tyD, isiB, hName, hTup, hsCons, hsNil, iSeq, wipeS, sAsg, gLe, gLt, gGe, gGt, gSub, gI20, gIsN, gNotN, gNotB, newL, eCut, ePart, gCut, iZip2, sFor]; omega
    unfold cap; omega
  · intro z hz
    exact ⟨_, rfl, rfl⟩
end K03
end

section
set_option linter.all false
set_option maxRecDepth 100000
set_option maxHeartbeats 1000000
namespace K03
open PySem DL
/-- the dice: counters up to N -/
structure Dice where
  a : Int
  b : Int
  c : Int
def Dice.mo (d : Dice) : MO := .ml [.int d.a, .int d.b, .int d.c]
def Dice.Ok (N : Nat) (d : Dice) : Prop := 0 ≤ d.a ∧ 0 ≤ d.b ∧ d.b < 2147480009 ∧ 0 ≤ d.c ∧ d.c ≤ N
/-- a store whose i-th object is the dice -/
structure Sto (M : Dice → List MO) (i : Nat) : Prop where
  get : ∀ d, (M d)[i]? = some d.mo
  set : ∀ d e, (M d).set i (Dice.mo e) = M e
theorem Sto.len {M : Dice → List MO} {i : Nat} (h : Sto M i) (d e : Dice) : (M d).length = (M e).length := by rw [← h.set d e, List.length_set]
theorem Sto.take {M : Dice → List MO} {i : Nat} (h : Sto M i) (d e : Dice) : (M e).take (M d).length = M e := by rw [h.len d e, List.take_length]
theorem ixN3 : L2.ixN 3 0 = some 0 ∧ L2.ixN 3 1 = some 1 ∧ L2.ixN 3 2 = some 2 := ⟨rfl, rfl, rfl⟩
theorem ix3 (x y z : D) : L2.atI [x, y, z] 0 = some x ∧ L2.atI [x, y, z] 1 = some y ∧ L2.atI [x, y, z] 2 = some z := ⟨rfl, rfl, rfl⟩
theorem s_roll {M : Dice → List MO} {i : Nat} (hM : Sto M i) {N : Nat} {d : Dice} {t : Int} (hd : d.Ok N) (ht : 0 < t) (ht2 : t < 1073741824) (hN : N < 1000000000) : ∃ r e, g__law_roll [.m i, .d (.int t)] (M d) = some (.ok (.d (.int r)) (M e)) ∧ 0 ≤ r ∧ r < t ∧ e.Ok (N + 1) := by
  obtain ⟨a, b, c⟩ := d
  obtain ⟨h1, h2, h3, h4, h5⟩ := hd
  dsimp only at h1 h2 h3 h4 h5
  have hg := hM.get ⟨a, b, c⟩
  by_cases ha : 0 < a
  · refine ⟨a % t, ⟨a / t, b, c⟩, ?_, Int.emod_nonneg _ (by omega), Int.emod_lt_of_pos _ ht, ⟨Int.ediv_nonneg h1 (by omega), h2, h3, h4, by show c ≤ _; push_cast; omega⟩⟩
    have hs := hM.set ⟨a, b, c⟩ ⟨a / t, b, c⟩
    simp [eV_app, startS, eIsi, eNot, eAnd, eOr, eChain, sRet, sSeq, sSet, sIf, sNx, sDrop, sRaise, sRetN, aCons, eB, eCall, eTup, eLst, eIf, bAnd, bOr, bNot, tst, allD, viewT, viewL, viewX, tyD, isiB, hName, hTup, hsCons, hsNil, iSeq, wipeS, sAsg, gLe, gLt, gGe, gGt, gSub, gI20, gIsN, gNotN, gNotB, newL, eCut, ePart, gCut, iZip2, sFor, g__law_roll, fb__law_roll, gIx, hg, Dice.mo, ix3, ixN3, ha, gInt, gMod, gI2, ht, sSetItem, gFdiv, ht2] at hs ⊢
    rw [hs]
    simp [eV_app, startS, eIsi, eNot, eAnd, eOr, eChain, sRet, sSeq, sSet, sIf, sNx, sDrop, sRaise, sRetN, aCons, eB, eCall, eTup, eLst, eIf, bAnd, bOr, bNot, tst, allD, viewT, viewL, viewX, tyD, isiB, hName, hTup, hsCons, hsNil, iSeq, wipeS, sAsg, gLe, gLt, gGe, gGt, gSub, gI20, gIsN, gNotN, gNotB, newL, eCut, ePart, gCut, iZip2, sFor, hM.take]
  · have ha0 : a = 0 := by omega
    subst ha0
    have hs1 := hM.set ⟨0, b, c⟩ ⟨0, b, c + 1⟩
    have hg1 := hM.get ⟨0, b, c + 1⟩
    have e1 : small64B 52501 = true := by decide
    have e2 : small64B 1009 = true := by decide
    have e3 : small64B (c + 1) = true := by
      simp only [small64B, Bool.and_eq_true, decide_eq_true_eq]
      omega
    have hs2 := hM.set ⟨0, b, c + 1⟩ ⟨0, (b * 52501 + (c + 1) * (c + 1) * 1009 + 77) % 2147480009, c + 1⟩
    have hg2 := hM.get ⟨0, (b * 52501 + (c + 1) * (c + 1) * 1009 + 77) % 2147480009, c + 1⟩
    refine ⟨((b * 52501 + (c + 1) * (c + 1) * 1009 + 77) % 2147480009 / 211) % t, ⟨0, (b * 52501 + (c + 1) * (c + 1) * 1009 + 77) % 2147480009, c + 1⟩, ?_, Int.emod_nonneg _ (by omega), Int.emod_lt_of_pos _ ht, ⟨by show (0 : Int) ≤ 0; omega, Int.emod_nonneg _ (by omega), Int.emod_lt_of_pos _ (by omega), by show 0 ≤ c + 1; omega, by show c + 1 ≤ _; push_cast; omega⟩⟩
    simp only [Dice.mo] at hs1 hg1 hs2 hg2 hg
    simp [eV_app, startS, eIsi, eNot, eAnd, eOr, eChain, sRet, sSeq, sSet, sIf, sNx, sDrop, sRaise, sRetN, aCons, eB, eCall, eTup, eLst, eIf, bAnd, bOr, bNot, tst, allD, viewT, viewL, viewX, tyD, isiB, hName, hTup, hsCons, hsNil, iSeq, wipeS, sAsg, gLe, gLt, gGe, gGt, gSub, gI20, gIsN, gNotN, gNotB, newL, eCut, ePart, gCut, iZip2, sFor, g__law_roll, fb__law_roll, gIx, hg, ix3, ixN3, gInt, gMod, gI2, ht, sSetItem, gFdiv, gAdd]
    rw [hs1]
    simp [eV_app, startS, eIsi, eNot, eAnd, eOr, eChain, sRet, sSeq, sSet, sIf, sNx, sDrop, sRaise, sRetN, aCons, eB, eCall, eTup, eLst, eIf, bAnd, bOr, bNot, tst, allD, viewT, viewL, viewX, tyD, isiB, hName, hTup, hsCons, hsNil, iSeq, wipeS, sAsg, gLe, gLt, gGe, gGt, gSub, gI20, gIsN, gNotN, gNotB, newL, eCut, ePart, gCut, iZip2, sFor, gIx, hg1, ix3, ixN3, gInt, gMod, gI2, ht, sSetItem, gFdiv, gAdd, gMul, e1, e2, e3]
    rw [hs2]
    simp [eV_app, startS, eIsi, eNot, eAnd, eOr, eChain, sRet, sSeq, sSet, sIf, sNx, sDrop, sRaise, sRetN, aCons, eB, eCall, eTup, eLst, eIf, bAnd, bOr, bNot, tst, allD, viewT, viewL, viewX, tyD, isiB, hName, hTup, hsCons, hsNil, iSeq, wipeS, sAsg, gLe, gLt, gGe, gGt, gSub, gI20, gIsN, gNotN, gNotB, newL, eCut, ePart, gCut, iZip2, sFor, gIx, hg2, ix3, ixN3, gInt, gMod, gI2, ht, gFdiv, hM.take]
theorem atI_lt {α : Type} {ds : List α} {r : Int} (h0 : 0 ≤ r) (h1 : r < ds.length) : ∃ x, L2.atI ds r = some x ∧ x ∈ ds ∧ ds[r.toNat]? = some x := by
  have hlt : r.toNat < ds.length := by omega
  have e : L2.ixN ds.length r = some r.toNat := by
    unfold L2.ixN
    first
      | (rw [if_pos (by omega)])
      | (simp [eV_app, startS, eIsi, eNot, eAnd, eOr, eChain, sRet, sSeq, sSet, sIf, sNx, sDrop, sRaise, sRetN, aCons, eB, eCall, eTup, eLst, eIf, bAnd, bOr, bNot, tst, allD, viewT, viewL, viewX, tyD, isiB, hName, hTup, hsCons, hsNil, iSeq, wipeS, sAsg, gLe, gLt, gGe, gGt, gSub, gI20, gIsN, gNotN, gNotB, newL, eCut, ePart, gCut, iZip2, sFor]; omega)
      | skip
    all_goals first | rfl | (simp [eV_app, startS, eIsi, eNot, eAnd, eOr, eChain, sRet, sSeq, sSet, sIf, sNx, sDrop, sRaise, sRetN, aCons, eB, eCall, eTup, eLst, eIf, bAnd, bOr, bNot, tst, allD, viewT, viewL, viewX, tyD, isiB, hName, hTup, hsCons, hsNil, iSeq, wipeS, sAsg, gLe, gLt, gGe, gGt, gSub, gI20, gIsN, gNotN, gNotB, newL, eCut, ePart, gCut, iZip2, sFor]; omega) | skip
  refine ⟨ds[r.toNat], ?_, List.getElem_mem _, List.getElem?_eq_getElem hlt⟩
  unfold L2.atI
  rw [e]
  exact List.getElem?_eq_getElem hlt
theorem s_pick {M : Dice → List MO} {i : Nat} (hM : Sto M i) {N : Nat} {d : Dice} {ds : List D} (hd : d.Ok N) (hN : N < 1000000000) (h0 : ds ≠ []) (h1 : ds.length ≤ 1000) : ∃ x e, g__law_pick [.m i, .d (.lst ds)] (M d) = some (.ok (.d x) (M e)) ∧ x ∈ ds ∧ e.Ok (N + 1) := by
  have hl : 0 < ds.length := List.length_pos_iff.mpr h0
  obtain ⟨r, e, h2, h3, h4, h5⟩ := s_roll hM (t := ds.length) hd (by omega) (by omega) hN
  obtain ⟨x, hx, hm, _⟩ := atI_lt h3 h4
  refine ⟨x, e, ?_, hm, h5⟩
  simp [eV_app, startS, eIsi, eNot, eAnd, eOr, eChain, sRet, sSeq, sSet, sIf, sNx, sDrop, sRaise, sRetN, aCons, eB, eCall, eTup, eLst, eIf, bAnd, bOr, bNot, tst, allD, viewT, viewL, viewX, tyD, isiB, hName, hTup, hsCons, hsNil, iSeq, wipeS, sAsg, gLe, gLt, gGe, gGt, gSub, gI20, gIsN, gNotN, gNotB, newL, eCut, ePart, gCut, iZip2, sFor, g__law_pick, fb__law_pick, gLen, h2, gIx, hx, hM.take]
end K03
end

section
set_option linter.all false
set_option maxRecDepth 100000
set_option maxHeartbeats 1000000
namespace K03
open PySem DL
theorem ints_of_all {a b : Int} : ∀ {ys : List D}, (∀ y ∈ ys, ∃ z : Int, y = .int z ∧ a ≤ z ∧ z ≤ b) → ∃ ns : List Int, ys = ns.map D.int ∧ ∀ z ∈ ns, a ≤ z ∧ z ≤ b
  | [], _ => ⟨[], rfl, by simp [eV_app, startS, eIsi, eNot, eAnd, eOr, eChain, sRet, sSeq, sSet, sIf, sNx, sDrop, sRaise, sRetN, aCons, eB, eCall, eTup, eLst, eIf, bAnd, bOr, bNot, tst, allD, viewT, viewL, viewX, tyD, isiB, hName, hTup, hsCons, hsNil, iSeq, wipeS, sAsg, gLe, gLt, gGe, gGt, gSub, gI20, gIsN, gNotN, gNotB, newL, eCut, ePart, gCut, iZip2, sFor]⟩
  | y :: ys, h => by
    obtain ⟨z, rfl, h1, h2⟩ := h y List.mem_cons_self
    obtain ⟨ns, rfl, hn⟩ := ints_of_all fun w hw => h w (List.mem_cons_of_mem _ hw)
    refine ⟨z :: ns, rfl, fun w hw => ?_⟩
    rcases List.mem_cons.mp hw with rfl | hw
    · exact ⟨h1, h2⟩
    · exact hn w hw
theorem eLc_state {α β : Type} {vs : List Nat} {fi : IF} {h : TF} {e : EF} {ρ : List S} (M : β → List MO) (I : Nat → β → Prop) (it : α → D) (G : α → D → Prop) (xs : List α) (k : Nat) (b : β) (hI : I k b) (hi : fi ρ (M b) = some (.ok (xs.map it) (M b))) (hl : xs.length ≤ cap)
    (hx : ∀ x ∈ xs, ∀ (j : Nat) (b : β), k ≤ j → j < k + xs.length → I j b → ∃ ρ1 y b', h (it x) (wipeS ρ vs) = some ρ1 ∧ e ρ1 (M b) = some (.ok (.d y) (M b')) ∧ G x y ∧ I (j + 1) b') :
    ∃ ys b', eLc false vs fi h bYes e ρ (M b) = some (.ok (.d (.lst ys)) (M b')) ∧ I (k + xs.length) b' ∧ ys.length = xs.length ∧ ∀ (i : Nat) x y, xs[i]? = some x → ys[i]? = some y → G x y := by
  obtain ⟨ys, b', e1, e2, e3, e4⟩ := lcF_state M I it G xs [] k b hI hx
  refine ⟨ys, b', ?_, e2, e3, e4⟩
  unfold eLc
  simp only [hi, List.length_map, if_pos hl, e1, List.nil_append]
  rfl
theorem mem_G {α : Type} {xs : List α} {ys : List D} {G : α → D → Prop} (hl : ys.length = xs.length) (h : ∀ (i : Nat) x y, xs[i]? = some x → ys[i]? = some y → G x y) : ∀ y ∈ ys, ∃ x ∈ xs, G x y := fun y hy => by
  obtain ⟨i, hi⟩ := List.mem_iff_getElem?.mp hy
  have hlt : i < xs.length := by rw [← hl]; exact (List.getElem?_eq_some_iff.mp hi).1
  exact ⟨xs[i], List.getElem_mem _, h i _ _ (List.getElem?_eq_getElem hlt) hi⟩
theorem s_b_bag {M : Dice → List MO} {i : Nat} (hM : Sto M i) {N kinds : Nat} {d : Dice} (hd : d.Ok N) (hN : N + 2 * kinds < 1000000) (hk : kinds ≤ 1000) : ∃ ns e, g__law_b_bag [.m i, .d (.int kinds), .d (.int 1800)] (M d) = some (.ok (.d (tupI ns)) (M e)) ∧ IntsIn ns kinds 0 1800 ∧ e.Ok (N + 2 * kinds) := by
  have hloop := eLc_state (vs := [3]) (fi := iRg none (eV 1)) (h := hName 3) (e := eCall 2 g__law_pick (aCons (eV 0) (aCons (eLst false (aCons (eC (.int 0)) (aCons (eC (.int 1)) (aCons (eCall 2 g__law_roll (aCons (eV 0) (aCons (e2 (gAdd false) (eV 2) (eC (.int 1))) aNil))) aNil)))) aNil)))
    (ρ := [.m i, .d (.int kinds), .d (.int 1800), .un]) M (fun k e => e.Ok (N + 2 * k)) D.int (fun _ y => ∃ z : Int, y = .int z ∧ 0 ≤ z ∧ z ≤ 1800) (rgI 0 kinds) 0 d hd (by simp [eV_app, startS, eIsi, eNot, eAnd, eOr, eChain, sRet, sSeq, sSet, sIf, sNx, sDrop, sRaise, sRetN, aCons, eB, eCall, eTup, eLst, eIf, bAnd, bOr, bNot, tst, allD, viewT, viewL, viewX, tyD, isiB, hName, hTup, hsCons, hsNil, iSeq, wipeS, sAsg, gLe, gLt, gGe, gGt, gSub, gI20, gIsN, gNotN, gNotB, newL, eCut, ePart, gCut, iZip2, sFor, iRg]; omega) (by rw [rgI_length]; unfold cap; omega)
    (fun x hx j b _ hj hI => ?_)
  · obtain ⟨ys, e, h1, h2, h3, h4⟩ := hloop
    have hk0 : (rgI 0 (kinds : Int)).length = kinds := by rw [rgI_length]; omega
    rw [hk0] at h2 h3
    obtain ⟨ns, rfl, hn⟩ := ints_of_all (a := 0) (b := 1800) fun y hy => (mem_G (xs := rgI 0 kinds) (by rw [hk0]; exact h3) h4 y hy).elim fun _ q => q.2
    refine ⟨ns, e, ?_, ⟨by simpa [eV_app, startS, eIsi, eNot, eAnd, eOr, eChain, sRet, sSeq, sSet, sIf, sNx, sDrop, sRaise, sRetN, aCons, eB, eCall, eTup, eLst, eIf, bAnd, bOr, bNot, tst, allD, viewT, viewL, viewX, tyD, isiB, hName, hTup, hsCons, hsNil, iSeq, wipeS, sAsg, gLe, gLt, gGe, gGt, gSub, gI20, gIsN, gNotN, gNotB, newL, eCut, ePart, gCut, iZip2, sFor] using h3, hn⟩, ?_⟩
    · simp [eV_app, startS, eIsi, eNot, eAnd, eOr, eChain, sRet, sSeq, sSet, sIf, sNx, sDrop, sRaise, sRetN, aCons, eB, eCall, eTup, eLst, eIf, bAnd, bOr, bNot, tst, allD, viewT, viewL, viewX, tyD, isiB, hName, hTup, hsCons, hsNil, iSeq, wipeS, sAsg, gLe, gLt, gGe, gGt, gSub, gI20, gIsN, gNotN, gNotB, newL, eCut, ePart, gCut, iZip2, sFor, g__law_b_bag, fb__law_b_bag, h1, gTup, hM.take]
    · simpa [eV_app, startS, eIsi, eNot, eAnd, eOr, eChain, sRet, sSeq, sSet, sIf, sNx, sDrop, sRaise, sRetN, aCons, eB, eCall, eTup, eLst, eIf, bAnd, bOr, bNot, tst, allD, viewT, viewL, viewX, tyD, isiB, hName, hTup, hsCons, hsNil, iSeq, wipeS, sAsg, gLe, gLt, gGe, gGt, gSub, gI20, gIsN, gNotN, gNotB, newL, eCut, ePart, gCut, iZip2, sFor] using h2
  · rw [rgI_length] at hj
    obtain ⟨r, b1, r1, r2, r3, r4⟩ := s_roll hM (t := 1801) hI (by omega) (by omega) (by omega)
    obtain ⟨y, b2, p1, p2, p3⟩ := s_pick hM (ds := [.int 0, .int 1, .int r]) r4 (by omega) (by simp [eV_app, startS, eIsi, eNot, eAnd, eOr, eChain, sRet, sSeq, sSet, sIf, sNx, sDrop, sRaise, sRetN, aCons, eB, eCall, eTup, eLst, eIf, bAnd, bOr, bNot, tst, allD, viewT, viewL, viewX, tyD, isiB, hName, hTup, hsCons, hsNil, iSeq, wipeS, sAsg, gLe, gLt, gGe, gGt, gSub, gI20, gIsN, gNotN, gNotB, newL, eCut, ePart, gCut, iZip2, sFor]) (by simp [eV_app, startS, eIsi, eNot, eAnd, eOr, eChain, sRet, sSeq, sSet, sIf, sNx, sDrop, sRaise, sRetN, aCons, eB, eCall, eTup, eLst, eIf, bAnd, bOr, bNot, tst, allD, viewT, viewL, viewX, tyD, isiB, hName, hTup, hsCons, hsNil, iSeq, wipeS, sAsg, gLe, gLt, gGe, gGt, gSub, gI20, gIsN, gNotN, gNotB, newL, eCut, ePart, gCut, iZip2, sFor])
    refine ⟨_, y, b2, rfl, ?_, ?_, ?_⟩
    · simp [eV_app, startS, eIsi, eNot, eAnd, eOr, eChain, sRet, sSeq, sSet, sIf, sNx, sDrop, sRaise, sRetN, aCons, eB, eCall, eTup, eLst, eIf, bAnd, bOr, bNot, tst, allD, viewT, viewL, viewX, tyD, isiB, hName, hTup, hsCons, hsNil, iSeq, wipeS, sAsg, gLe, gLt, gGe, gGt, gSub, gI20, gIsN, gNotN, gNotB, newL, eCut, ePart, gCut, iZip2, sFor, gAdd, r1, p1]
    · simp [eV_app, startS, eIsi, eNot, eAnd, eOr, eChain, sRet, sSeq, sSet, sIf, sNx, sDrop, sRaise, sRetN, aCons, eB, eCall, eTup, eLst, eIf, bAnd, bOr, bNot, tst, allD, viewT, viewL, viewX, tyD, isiB, hName, hTup, hsCons, hsNil, iSeq, wipeS, sAsg, gLe, gLt, gGe, gGt, gSub, gI20, gIsN, gNotN, gNotB, newL, eCut, ePart, gCut, iZip2, sFor] at p2
      rcases p2 with rfl | rfl | rfl
      · exact ⟨0, rfl, by omega, by omega⟩
      · exact ⟨1, rfl, by omega, by omega⟩
      · exact ⟨r, rfl, by omega, by omega⟩
    · have : N + 2 * (j + 1) = N + 2 * j + 1 + 1 := by omega
      rw [this]; exact p3
theorem s_size {M : Dice → List MO} {i : Nat} (hM : Sto M i) {N : Nat} {d : Dice} {far : Int} (hd : d.Ok N) (hN : N + 3 < 1000000) (h1 : 0 < far) (h2 : far ≤ 990) : ∃ p e, g__law_size [.m i, .d (.int far)] (M d) = some (.ok (.d (pairD p)) (M e)) ∧ (1 ≤ p.1 ∧ p.1 ≤ p.2 ∧ p.2 ≤ 1000) ∧ e.Ok (N + 3) := by
  obtain ⟨r, b1, r1, r2, r3, r4⟩ := s_roll hM (t := far) hd (by omega) (by omega) (by omega)
  obtain ⟨q, b2, q1, q2, q3, q4⟩ := s_roll hM (t := 9) r4 (by omega) (by omega) (by omega)
  obtain ⟨y, b3, p1, p2, p3⟩ := s_pick hM (ds := [.int 0, .int 1, .int 3, .int q]) q4 (by omega) (by simp [eV_app, startS, eIsi, eNot, eAnd, eOr, eChain, sRet, sSeq, sSet, sIf, sNx, sDrop, sRaise, sRetN, aCons, eB, eCall, eTup, eLst, eIf, bAnd, bOr, bNot, tst, allD, viewT, viewL, viewX, tyD, isiB, hName, hTup, hsCons, hsNil, iSeq, wipeS, sAsg, gLe, gLt, gGe, gGt, gSub, gI20, gIsN, gNotN, gNotB, newL, eCut, ePart, gCut, iZip2, sFor]) (by simp [eV_app, startS, eIsi, eNot, eAnd, eOr, eChain, sRet, sSeq, sSet, sIf, sNx, sDrop, sRaise, sRetN, aCons, eB, eCall, eTup, eLst, eIf, bAnd, bOr, bNot, tst, allD, viewT, viewL, viewX, tyD, isiB, hName, hTup, hsCons, hsNil, iSeq, wipeS, sAsg, gLe, gLt, gGe, gGt, gSub, gI20, gIsN, gNotN, gNotB, newL, eCut, ePart, gCut, iZip2, sFor])
  have hy : ∃ z : Int, y = .int z ∧ 0 ≤ z ∧ z ≤ 9 := by
    simp [eV_app, startS, eIsi, eNot, eAnd, eOr, eChain, sRet, sSeq, sSet, sIf, sNx, sDrop, sRaise, sRetN, aCons, eB, eCall, eTup, eLst, eIf, bAnd, bOr, bNot, tst, allD, viewT, viewL, viewX, tyD, isiB, hName, hTup, hsCons, hsNil, iSeq, wipeS, sAsg, gLe, gLt, gGe, gGt, gSub, gI20, gIsN, gNotN, gNotB, newL, eCut, ePart, gCut, iZip2, sFor] at p2
    rcases p2 with rfl | rfl | rfl | rfl
    · exact ⟨0, rfl, by omega, by omega⟩
    · exact ⟨1, rfl, by omega, by omega⟩
    · exact ⟨3, rfl, by omega, by omega⟩
    · exact ⟨q, rfl, by omega, by omega⟩
  obtain ⟨z, rfl, z1, z2⟩ := hy
  refine ⟨(1 + r, min 1000 (1 + r + z)), b3, ?_, ?_, p3⟩
  · simp [eV_app, startS, eIsi, eNot, eAnd, eOr, eChain, sRet, sSeq, sSet, sIf, sNx, sDrop, sRaise, sRetN, aCons, eB, eCall, eTup, eLst, eIf, bAnd, bOr, bNot, tst, allD, viewT, viewL, viewX, tyD, isiB, hName, hTup, hsCons, hsNil, iSeq, wipeS, sAsg, gLe, gLt, gGe, gGt, gSub, gI20, gIsN, gNotN, gNotB, newL, eCut, ePart, gCut, iZip2, sFor, g__law_size, fb__law_size, gAdd, r1, q1, p1, gMin, hM.take, pairD]
  · dsimp only; omega
end K03
end

section
set_option linter.all false
set_option maxRecDepth 100000
set_option maxHeartbeats 1000000
namespace K03
open PySem DL
theorem ascB_pw : ∀ {ns : List Int}, ascB ns = true ↔ ns.Pairwise (· < ·)
  | [] => by simp [eV_app, startS, eIsi, eNot, eAnd, eOr, eChain, sRet, sSeq, sSet, sIf, sNx, sDrop, sRaise, sRetN, aCons, eB, eCall, eTup, eLst, eIf, bAnd, bOr, bNot, tst, allD, viewT, viewL, viewX, tyD, isiB, hName, hTup, hsCons, hsNil, iSeq, wipeS, sAsg, gLe, gLt, gGe, gGt, gSub, gI20, gIsN, gNotN, gNotB, newL, eCut, ePart, gCut, iZip2, sFor, ascB]
  | [x] => by simp [eV_app, startS, eIsi, eNot, eAnd, eOr, eChain, sRet, sSeq, sSet, sIf, sNx, sDrop, sRaise, sRetN, aCons, eB, eCall, eTup, eLst, eIf, bAnd, bOr, bNot, tst, allD, viewT, viewL, viewX, tyD, isiB, hName, hTup, hsCons, hsNil, iSeq, wipeS, sAsg, gLe, gLt, gGe, gGt, gSub, gI20, gIsN, gNotN, gNotB, newL, eCut, ePart, gCut, iZip2, sFor, ascB]
  | x :: y :: r => by
    have ih := ascB_pw (ns := y :: r)
    have e : ascB (x :: y :: r) = (decide (x < y) && ascB (y :: r)) := by simp [eV_app, startS, eIsi, eNot, eAnd, eOr, eChain, sRet, sSeq, sSet, sIf, sNx, sDrop, sRaise, sRetN, aCons, eB, eCall, eTup, eLst, eIf, bAnd, bOr, bNot, tst, allD, viewT, viewL, viewX, tyD, isiB, hName, hTup, hsCons, hsNil, iSeq, wipeS, sAsg, gLe, gLt, gGe, gGt, gSub, gI20, gIsN, gNotN, gNotB, newL, eCut, ePart, gCut, iZip2, sFor, ascB]
    rw [e, Bool.and_eq_true, decide_eq_true_eq, ih]
    constructor
    · intro ⟨h1, h2⟩
      refine List.pairwise_cons.mpr ⟨fun z hz => ?_, h2⟩
      rcases List.mem_cons.mp hz with rfl | hz
      · exact h1
      · exact Int.lt_trans h1 ((List.pairwise_cons.mp h2).1 z hz)
    · intro h
      obtain ⟨h1, h2⟩ := List.pairwise_cons.mp h
      exact ⟨h1 y List.mem_cons_self, h2⟩
theorem hole_step {ws : List Int} (h : ws.Pairwise (· < ·)) (w : Int) : hole ws w ≤ hole ws (w + 1) ∧ hole ws (w + 1) ≤ hole ws w + 1 ∧ (w < (ws.head?.getD w) → hole ws (w + 1) = hole ws w) := by
  induction ws with
  | nil => simp [eV_app, startS, eIsi, eNot, eAnd, eOr, eChain, sRet, sSeq, sSet, sIf, sNx, sDrop, sRaise, sRetN, aCons, eB, eCall, eTup, eLst, eIf, bAnd, bOr, bNot, tst, allD, viewT, viewL, viewX, tyD, isiB, hName, hTup, hsCons, hsNil, iSeq, wipeS, sAsg, gLe, gLt, gGe, gGt, gSub, gI20, gIsN, gNotN, gNotB, newL, eCut, ePart, gCut, iZip2, sFor, hole]
  | cons x ws ih =>
    obtain ⟨h1, h2⟩ := List.pairwise_cons.mp h
    obtain ⟨a, b, c⟩ := ih h2
    have big : x ≥ w → hole ws (w + 1) = hole ws w := fun hx => by
      have : ∀ v : Int, v ≤ w + 1 → hole ws v = 0 := fun v hv => by
        unfold hole
        rw [List.length_eq_zero_iff, List.filter_eq_nil_iff]
        intro y hy
        have := h1 y hy
        simp [eV_app, startS, eIsi, eNot, eAnd, eOr, eChain, sRet, sSeq, sSet, sIf, sNx, sDrop, sRaise, sRetN, aCons, eB, eCall, eTup, eLst, eIf, bAnd, bOr, bNot, tst, allD, viewT, viewL, viewX, tyD, isiB, hName, hTup, hsCons, hsNil, iSeq, wipeS, sAsg, gLe, gLt, gGe, gGt, gSub, gI20, gIsN, gNotN, gNotB, newL, eCut, ePart, gCut, iZip2, sFor]; omega
      rw [this _ (by omega), this _ (by omega)]
    have e : ∀ v : Int, hole (x :: ws) v = (if x < v then 1 else 0) + hole ws v := fun v => by
      unfold hole
      rw [List.filter_cons]
      by_cases hv : x < v
      · simp [eV_app, startS, eIsi, eNot, eAnd, eOr, eChain, sRet, sSeq, sSet, sIf, sNx, sDrop, sRaise, sRetN, aCons, eB, eCall, eTup, eLst, eIf, bAnd, bOr, bNot, tst, allD, viewT, viewL, viewX, tyD, isiB, hName, hTup, hsCons, hsNil, iSeq, wipeS, sAsg, gLe, gLt, gGe, gGt, gSub, gI20, gIsN, gNotN, gNotB, newL, eCut, ePart, gCut, iZip2, sFor, hv]; omega
      · simp [eV_app, startS, eIsi, eNot, eAnd, eOr, eChain, sRet, sSeq, sSet, sIf, sNx, sDrop, sRaise, sRetN, aCons, eB, eCall, eTup, eLst, eIf, bAnd, bOr, bNot, tst, allD, viewT, viewL, viewX, tyD, isiB, hName, hTup, hsCons, hsNil, iSeq, wipeS, sAsg, gLe, gLt, gGe, gGt, gSub, gI20, gIsN, gNotN, gNotB, newL, eCut, ePart, gCut, iZip2, sFor, hv]
    rw [e, e]
    simp only [List.head?_cons, Option.getD_some]
    by_cases h3 : x < w
    · rw [if_pos h3, if_pos (by omega)]
      omega
    · have := big (by omega)
      rw [if_neg h3]
      by_cases h4 : x < w + 1
      · rw [if_pos h4]; omega
      · rw [if_neg h4]; omega
theorem slots_body {ws fs : List Int} {P : S} {x : Int} {b : S} {μ : List MO} (hl : ws.length ≤ 1000) (hf : fs.length ≤ 1000) : lb__law_slots_0 [.d (tupI ws), P, .m μ.length, .d (.int x), b, .un] (μ ++ [.ml (fs.map .int)]) =
    some (.nx [.d (tupI ws), P, .m μ.length, .d (.int x), .d (.int (hole ws x)), .un] (μ ++ [.ml ((if fs.contains (hole ws x : Int) then fs else fs ++ [(hole ws x : Int)]).map .int)])) := by
  simp [eV_app, startS, eIsi, eNot, eAnd, eOr, eChain, sRet, sSeq, sSet, sIf, sNx, sDrop, sRaise, sRetN, aCons, eB, eCall, eTup, eLst, eIf, bAnd, bOr, bNot, tst, allD, viewT, viewL, viewX, tyD, isiB, hName, hTup, hsCons, hsNil, iSeq, wipeS, sAsg, gLe, gLt, gGe, gGt, gSub, gI20, gIsN, gNotN, gNotB, newL, eCut, ePart, gCut, iZip2, sFor, lb__law_slots_0]
  rw [eLc_p (xs := ws) (it := D.int) (p := fun h => decide (h < x)) (y := D.int)]
  · have e : (List.filter (fun h => decide (h < x)) ws).length = hole ws x := rfl
    have ok : okDs 20 (fs.map D.int) = true := okDs_map _ fs fun x _ => ok_int _ x
    have any : fs.any ((fun z => eqvD z (.int (hole ws x : Int))) ∘ D.int) = fs.contains (hole ws x : Int) := by
      rw [← any_int, List.any_map]
    simp [eV_app, startS, eIsi, eNot, eAnd, eOr, eChain, sRet, sSeq, sSet, sIf, sNx, sDrop, sRaise, sRetN, aCons, eB, eCall, eTup, eLst, eIf, bAnd, bOr, bNot, tst, allD, viewT, viewL, viewX, tyD, isiB, hName, hTup, hsCons, hsNil, iSeq, wipeS, sAsg, gLe, gLt, gGe, gGt, gSub, gI20, gIsN, gNotN, gNotB, newL, eCut, ePart, gCut, iZip2, sFor, gLen, e, gIn, ok, ok_int, any]
    by_cases hc : (hole ws x : Int) ∈ fs
    · simp [eV_app, startS, eIsi, eNot, eAnd, eOr, eChain, sRet, sSeq, sSet, sIf, sNx, sDrop, sRaise, sRetN, aCons, eB, eCall, eTup, eLst, eIf, bAnd, bOr, bNot, tst, allD, viewT, viewL, viewX, tyD, isiB, hName, hTup, hsCons, hsNil, iSeq, wipeS, sAsg, gLe, gLt, gGe, gGt, gSub, gI20, gIsN, gNotN, gNotB, newL, eCut, ePart, gCut, iZip2, sFor, hc]
    · have hcap : fs.length < cap := by unfold cap; omega
      simp [eV_app, startS, eIsi, eNot, eAnd, eOr, eChain, sRet, sSeq, sSet, sIf, sNx, sDrop, sRaise, sRetN, aCons, eB, eCall, eTup, eLst, eIf, bAnd, bOr, bNot, tst, allD, viewT, viewL, viewX, tyD, isiB, hName, hTup, hsCons, hsNil, iSeq, wipeS, sAsg, gLe, gLt, gGe, gGt, gSub, gI20, gIsN, gNotN, gNotB, newL, eCut, ePart, gCut, iZip2, sFor, hc, eAppend, isML, hcap]
  · simp [eV_app, startS, eIsi, eNot, eAnd, eOr, eChain, sRet, sSeq, sSet, sIf, sNx, sDrop, sRaise, sRetN, aCons, eB, eCall, eTup, eLst, eIf, bAnd, bOr, bNot, tst, allD, viewT, viewL, viewX, tyD, isiB, hName, hTup, hsCons, hsNil, iSeq, wipeS, sAsg, gLe, gLt, gGe, gGt, gSub, gI20, gIsN, gNotN, gNotB, newL, eCut, ePart, gCut, iZip2, sFor]
  · unfold cap; omega
  · intro h hh
    exact ⟨_, rfl, rfl, fun _ => rfl⟩
theorem s_slots {ws : List Int} {p : Int × Int} {μ : List MO} (hw : ws.Pairwise (· < ·)) (hl : ws.length ≤ 900) (h1 : 1 ≤ p.1) (h2 : p.1 ≤ p.2) (h3 : p.2 ≤ 1000) : g__law_slots [.d (tupI ws), .d (pairD p)] μ = some (.ok (.d (tupI (takes ws p))) μ) := by
  have i0 : L2.atI [D.int p.1, D.int p.2] 0 = some (.int p.1) := rfl
  have i1 : L2.atI [D.int p.1, D.int p.2] 1 = some (.int p.2) := rfl
  have hstep := fun w => hole_step hw w
  obtain ⟨ρ', μ', e1, e2⟩ := forF_inv (h := hName 3) (b := lb__law_slots_0) D.int (full := rgI p.1 (p.2 + 1))
    (fun done ρ μ' => ∃ (fs : List Int) (a b : S), ρ = [.d (tupI ws), .d (pairD p), .m μ.length, a, b, .un] ∧ μ' = μ ++ [.ml (fs.map .int)] ∧ (done = [] → fs = []) ∧ (done ≠ [] → fs = rgI (hole ws p.1) (hole ws (p.1 + done.length - 1) + 1) ∧ hole ws p.1 ≤ hole ws (p.1 + done.length - 1)))
    (fun done x rest ρ μ' hf hI => by
      obtain ⟨fs, a, b, rfl, rfl, f1, f2⟩ := hI
      obtain ⟨hx, hx2⟩ := rgI_split hf
      have hfl : fs.length ≤ 1000 := by
        by_cases hd : done = []
        · rw [f1 hd]; simp [eV_app, startS, eIsi, eNot, eAnd, eOr, eChain, sRet, sSeq, sSet, sIf, sNx, sDrop, sRaise, sRetN, aCons, eB, eCall, eTup, eLst, eIf, bAnd, bOr, bNot, tst, allD, viewT, viewL, viewX, tyD, isiB, hName, hTup, hsCons, hsNil, iSeq, wipeS, sAsg, gLe, gLt, gGe, gGt, gSub, gI20, gIsN, gNotN, gNotB, newL, eCut, ePart, gCut, iZip2, sFor]
        · rw [(f2 hd).1, rgI_length]
          have := hole_le ws (p.1 + done.length - 1)
          omega
      refine ⟨_, _, _, rfl, slots_body (by omega) hfl, _, _, _, rfl, rfl, fun h => absurd h (by simp [eV_app, startS, eIsi, eNot, eAnd, eOr, eChain, sRet, sSeq, sSet, sIf, sNx, sDrop, sRaise, sRetN, aCons, eB, eCall, eTup, eLst, eIf, bAnd, bOr, bNot, tst, allD, viewT, viewL, viewX, tyD, isiB, hName, hTup, hsCons, hsNil, iSeq, wipeS, sAsg, gLe, gLt, gGe, gGt, gSub, gI20, gIsN, gNotN, gNotB, newL, eCut, ePart, gCut, iZip2, sFor]), fun _ => ?_⟩
      have hlen : (p.1 + ((done ++ [x]).length : Nat) - 1 : Int) = x := by rw [hx]; simp [eV_app, startS, eIsi, eNot, eAnd, eOr, eChain, sRet, sSeq, sSet, sIf, sNx, sDrop, sRaise, sRetN, aCons, eB, eCall, eTup, eLst, eIf, bAnd, bOr, bNot, tst, allD, viewT, viewL, viewX, tyD, isiB, hName, hTup, hsCons, hsNil, iSeq, wipeS, sAsg, gLe, gLt, gGe, gGt, gSub, gI20, gIsN, gNotN, gNotB, newL, eCut, ePart, gCut, iZip2, sFor]; omega
      rw [hlen]
      by_cases hd : done = []
      · have hxp : x = p.1 := by rw [hx, hd]; simp [eV_app, startS, eIsi, eNot, eAnd, eOr, eChain, sRet, sSeq, sSet, sIf, sNx, sDrop, sRaise, sRetN, aCons, eB, eCall, eTup, eLst, eIf, bAnd, bOr, bNot, tst, allD, viewT, viewL, viewX, tyD, isiB, hName, hTup, hsCons, hsNil, iSeq, wipeS, sAsg, gLe, gLt, gGe, gGt, gSub, gI20, gIsN, gNotN, gNotB, newL, eCut, ePart, gCut, iZip2, sFor]
        rw [f1 hd, hxp]
        refine ⟨?_, Nat.le_refl _⟩
        rw [rgI_snoc (Int.le_refl _), rgI_nil (Int.le_refl _)]
        simp [eV_app, startS, eIsi, eNot, eAnd, eOr, eChain, sRet, sSeq, sSet, sIf, sNx, sDrop, sRaise, sRetN, aCons, eB, eCall, eTup, eLst, eIf, bAnd, bOr, bNot, tst, allD, viewT, viewL, viewX, tyD, isiB, hName, hTup, hsCons, hsNil, iSeq, wipeS, sAsg, gLe, gLt, gGe, gGt, gSub, gI20, gIsN, gNotN, gNotB, newL, eCut, ePart, gCut, iZip2, sFor]
      · obtain ⟨g1, g2⟩ := f2 hd
        have hx1 : (p.1 + done.length - 1 : Int) + 1 = x := by omega
        obtain ⟨a1, a2, _⟩ := hstep (p.1 + done.length - 1)
        rw [hx1] at a1 a2
        refine ⟨?_, by omega⟩
        generalize hole ws (p.1 + done.length - 1) = q at *
        generalize hole ws x = r at *
        by_cases hr : r = q
        · subst hr
          have : fs.contains (r : Int) = true := by
            rw [g1]
            simp only [List.contains_iff_mem, mem_rgI]
            omega
          rw [if_pos this, g1]
        · have hr' : r = q + 1 := by omega
          subst hr'
          have : ¬ fs.contains ((q + 1 : Nat) : Int) = true := by
            rw [g1]
            simp only [List.contains_iff_mem, mem_rgI]
            push_cast
            omega
          rw [if_neg this, g1]
          push_cast
          rw [← rgI_snoc (by omega)])
    (rgI p.1 (p.2 + 1)) [] [.d (tupI ws), .d (pairD p), .m μ.length, .un, .un, .un] (μ ++ [.ml []]) rfl ⟨[], .un, .un, rfl, rfl, fun _ => rfl, fun h => absurd rfl h⟩
  obtain ⟨fs, a, b, rfl, rfl, _, f2⟩ := e2
  have hne : rgI p.1 (p.2 + 1) ≠ [] := fun z => by
    have := congrArg List.length z
    rw [rgI_length] at this
    simp [eV_app, startS, eIsi, eNot, eAnd, eOr, eChain, sRet, sSeq, sSet, sIf, sNx, sDrop, sRaise, sRetN, aCons, eB, eCall, eTup, eLst, eIf, bAnd, bOr, bNot, tst, allD, viewT, viewL, viewX, tyD, isiB, hName, hTup, hsCons, hsNil, iSeq, wipeS, sAsg, gLe, gLt, gGe, gGt, gSub, gI20, gIsN, gNotN, gNotB, newL, eCut, ePart, gCut, iZip2, sFor] at this; omega
  obtain ⟨g1, _⟩ := f2 hne
  have hend : (p.1 + ((rgI p.1 (p.2 + 1)).length : Nat) - 1 : Int) = p.2 := by rw [rgI_length]; omega
  rw [hend] at g1
  subst g1
  have hsort : sortI (rgI (hole ws p.1) (hole ws p.2 + 1)) = rgI (hole ws p.1) (hole ws p.2 + 1) := sortI_of ((rgI_sorted _ _).imp fun h => Int.le_of_lt h)
  simp only [pairD] at e1
  simp [eV_app, startS, eIsi, eNot, eAnd, eOr, eChain, sRet, sSeq, sSet, sIf, sNx, sDrop, sRaise, sRetN, aCons, eB, eCall, eTup, eLst, eIf, bAnd, bOr, bNot, tst, allD, viewT, viewL, viewX, tyD, isiB, hName, hTup, hsCons, hsNil, iSeq, wipeS, sAsg, gLe, gLt, gGe, gGt, gSub, gI20, gIsN, gNotN, gNotB, newL, eCut, ePart, gCut, iZip2, sFor, g__law_slots, fb__law_slots, iRg, gIx, pairD, i0, i1, gAdd]
  rw [if_pos (by omega)]
  simp [eV_app, startS, eIsi, eNot, eAnd, eOr, eChain, sRet, sSeq, sSet, sIf, sNx, sDrop, sRaise, sRetN, aCons, eB, eCall, eTup, eLst, eIf, bAnd, bOr, bNot, tst, allD, viewT, viewL, viewX, tyD, isiB, hName, hTup, hsCons, hsNil, iSeq, wipeS, sAsg, gLe, gLt, gGe, gGt, gSub, gI20, gIsN, gNotN, gNotB, newL, eCut, ePart, gCut, iZip2, sFor, e1, gSorted, viewS, allInts_map, hsort, gTup, takes]
end K03
end

section
set_option linter.all false
set_option maxRecDepth 100000
set_option maxHeartbeats 1000000
namespace K03
open PySem DL
theorem eqv_ints : ∀ xs ys : List Int, eqvDs (xs.map D.int) (ys.map D.int) = (xs == ys)
  | [], [] => by simp [eV_app, startS, eIsi, eNot, eAnd, eOr, eChain, sRet, sSeq, sSet, sIf, sNx, sDrop, sRaise, sRetN, aCons, eB, eCall, eTup, eLst, eIf, bAnd, bOr, bNot, tst, allD, viewT, viewL, viewX, tyD, isiB, hName, hTup, hsCons, hsNil, iSeq, wipeS, sAsg, gLe, gLt, gGe, gGt, gSub, gI20, gIsN, gNotN, gNotB, newL, eCut, ePart, gCut, iZip2, sFor, eqvDs]
  | [], _ :: _ => by simp [eV_app, startS, eIsi, eNot, eAnd, eOr, eChain, sRet, sSeq, sSet, sIf, sNx, sDrop, sRaise, sRetN, aCons, eB, eCall, eTup, eLst, eIf, bAnd, bOr, bNot, tst, allD, viewT, viewL, viewX, tyD, isiB, hName, hTup, hsCons, hsNil, iSeq, wipeS, sAsg, gLe, gLt, gGe, gGt, gSub, gI20, gIsN, gNotN, gNotB, newL, eCut, ePart, gCut, iZip2, sFor, eqvDs]
  | _ :: _, [] => by simp [eV_app, startS, eIsi, eNot, eAnd, eOr, eChain, sRet, sSeq, sSet, sIf, sNx, sDrop, sRaise, sRetN, aCons, eB, eCall, eTup, eLst, eIf, bAnd, bOr, bNot, tst, allD, viewT, viewL, viewX, tyD, isiB, hName, hTup, hsCons, hsNil, iSeq, wipeS, sAsg, gLe, gLt, gGe, gGt, gSub, gI20, gIsN, gNotN, gNotB, newL, eCut, ePart, gCut, iZip2, sFor, eqvDs]
  | x :: xs, y :: ys => by
    have h := eqv_ints xs ys
    simp only [List.map_cons, eqvDs, eqvD, h]
    rfl
theorem nodup_of_lt {ns : List Int} (h : ns.Pairwise (· < ·)) : ns.Nodup := h.imp fun h => by omega
theorem sorted_set {ns : List Int} : (ns == sortI (dedI ns)) = ascB ns := by
  have key : ns = sortI (dedI ns) ↔ ascB ns = true := by
    rw [ascB_pw]
    constructor
    · intro h
      have h1 := sortI_sorted (dedI ns)
      have h2 : (sortI (dedI ns)).Nodup := (sortI_perm _).nodup_iff.mpr (dedI_nodup ns)
      rw [← h] at h1 h2
      exact (h1.and h2).imp fun ⟨a, b⟩ => by omega
    · intro h
      refine sortI_eq ?_ (h.imp fun h => Int.le_of_lt h)
      exact (List.perm_ext_iff_of_nodup (nodup_of_lt h) (dedI_nodup ns)).mpr fun k => (dedI_mem ns k).symm
  by_cases h : ns = sortI (dedI ns)
  · rw [key.mp h]; simpa [eV_app, startS, eIsi, eNot, eAnd, eOr, eChain, sRet, sSeq, sSet, sIf, sNx, sDrop, sRaise, sRetN, aCons, eB, eCall, eTup, eLst, eIf, bAnd, bOr, bNot, tst, allD, viewT, viewL, viewX, tyD, isiB, hName, hTup, hsCons, hsNil, iSeq, wipeS, sAsg, gLe, gLt, gGe, gGt, gSub, gI20, gIsN, gNotN, gNotB, newL, eCut, ePart, gCut, iZip2, sFor] using h
  · have : ascB ns = false := by
      cases e : ascB ns with
      | false => rfl
      | true => exact absurd (key.mpr e) h
    rw [this]; simpa [eV_app, startS, eIsi, eNot, eAnd, eOr, eChain, sRet, sSeq, sSet, sIf, sNx, sDrop, sRaise, sRetN, aCons, eB, eCall, eTup, eLst, eIf, bAnd, bOr, bNot, tst, allD, viewT, viewL, viewX, tyD, isiB, hName, hTup, hsCons, hsNil, iSeq, wipeS, sAsg, gLe, gLt, gGe, gGt, gSub, gI20, gIsN, gNotN, gNotB, newL, eCut, ePart, gCut, iZip2, sFor] using h
theorem dedI_len (ns : List Int) : (dedI ns).length ≤ ns.length := by
  have : ∀ (ns acc : List Int), (ns.foldl (fun acc n => if acc.contains n then acc else acc ++ [n]) acc).length ≤ acc.length + ns.length := fun ns => by
    induction ns with
    | nil => exact fun acc => Nat.le_refl _
    | cons n ns ih =>
      intro acc
      rw [List.foldl_cons]
      by_cases hc : acc.contains n = true
      · rw [if_pos hc]; have := ih acc; simp only [List.length_cons]; omega
      · rw [if_neg hc]; have := ih (acc ++ [n]); simp only [List.length_cons, List.length_append, List.length_nil] at this ⊢; omega
  have h := this ns []
  simpa [eV_app, startS, eIsi, eNot, eAnd, eOr, eChain, sRet, sSeq, sSet, sIf, sNx, sDrop, sRaise, sRetN, aCons, eB, eCall, eTup, eLst, eIf, bAnd, bOr, bNot, tst, allD, viewT, viewL, viewX, tyD, isiB, hName, hTup, hsCons, hsNil, iSeq, wipeS, sAsg, gLe, gLt, gGe, gGt, gSub, gI20, gIsN, gNotN, gNotB, newL, eCut, ePart, gCut, iZip2, sFor, dedI] using h
theorem w_widths {ns : List Int} {μ : List MO} (hl : ns.length ≤ 60) : g__law_are_widths [.d (tupI ns)] μ = some (.ok (.d (.bl (widthsB (tupI ns)))) μ) := by
  simp [eV_app, startS, eIsi, eNot, eAnd, eOr, eChain, sRet, sSeq, sSet, sIf, sNx, sDrop, sRaise, sRetN, aCons, eB, eCall, eTup, eLst, eIf, bAnd, bOr, bNot, tst, allD, viewT, viewL, viewX, tyD, isiB, hName, hTup, hsCons, hsNil, iSeq, wipeS, sAsg, gLe, gLt, gGe, gGt, gSub, gI20, gIsN, gNotN, gNotB, newL, eCut, ePart, gCut, iZip2, sFor, g__law_are_widths, fb__law_are_widths, gLen]
  by_cases h1 : (1 : Int) ≤ ns.length
  · by_cases h2 : (ns.length : Int) ≤ 7
    · simp [eV_app, startS, eIsi, eNot, eAnd, eOr, eChain, sRet, sSeq, sSet, sIf, sNx, sDrop, sRaise, sRetN, aCons, eB, eCall, eTup, eLst, eIf, bAnd, bOr, bNot, tst, allD, viewT, viewL, viewX, tyD, isiB, hName, hTup, hsCons, hsNil, iSeq, wipeS, sAsg, gLe, gLt, gGe, gGt, gSub, gI20, gIsN, gNotN, gNotB, newL, eCut, ePart, gCut, iZip2, sFor, h1, h2]
      rw [eLc_p (xs := ns) (it := D.int) (p := fun x => (!decide (1 ≤ x) || !decide (x ≤ 1000))) (y := D.int)]
      · have ok1 : okD 20 (.lst ((ns.filter fun x => (!decide (1 ≤ x) || !decide (x ≤ 1000))).map D.int)) = true := by
          simp only [okD]; exact okDs_map _ _ fun x _ => ok_int _ x
        have ok2 : okD 20 (.lst []) = true := rfl
        have ok3 : okD 20 (.lst (ns.map D.int)) = true := by
          simp only [okD]; exact okDs_map _ _ fun x _ => ok_int _ x
        have ok4 : okD 20 (.lst ((sortI (dedI ns)).map D.int)) = true := by
          simp only [okD]; exact okDs_map _ _ fun x _ => ok_int _ x
        have e0 := eqv_ints (ns.filter fun x => (!decide (1 ≤ x) || !decide (x ≤ 1000))) []
        rw [List.map_nil] at e0
        have hd := dedI_len ns
        have e1 := eqv_ints ns (sortI (dedI ns))
        rw [sorted_set] at e1
        have hq : (dedI ns).length < 64 := by omega
        have hq2 : ns.length ≤ 4000 := by omega
        cases hf : (ns.filter fun x => (!decide (1 ≤ x) || !decide (x ≤ 1000))) == [] with
        | false =>
          have ha : areB (tupI ns) 1 7 1 1000 = false := by
            cases ha : areB (tupI ns) 1 7 1 1000 with
            | false => rfl
            | true =>
              obtain ⟨ms, e, _, _, hm⟩ := are_ints (n := 20) ha
              have : ns = ms := by
                have := congrArg (fun d => match d with | D.tup ds => allInts ds | _ => none) e
                simpa [eV_app, startS, eIsi, eNot, eAnd, eOr, eChain, sRet, sSeq, sSet, sIf, sNx, sDrop, sRaise, sRetN, aCons, eB, eCall, eTup, eLst, eIf, bAnd, bOr, bNot, tst, allD, viewT, viewL, viewX, tyD, isiB, hName, hTup, hsCons, hsNil, iSeq, wipeS, sAsg, gLe, gLt, gGe, gGt, gSub, gI20, gIsN, gNotN, gNotB, newL, eCut, ePart, gCut, iZip2, sFor, allInts_map] using this
              subst this
              have : (ns.filter fun x => (!decide (1 ≤ x) || !decide (x ≤ 1000))) = [] := by
                rw [List.filter_eq_nil_iff]
                intro x hx
                have := hm x hx
                simp [eV_app, startS, eIsi, eNot, eAnd, eOr, eChain, sRet, sSeq, sSet, sIf, sNx, sDrop, sRaise, sRetN, aCons, eB, eCall, eTup, eLst, eIf, bAnd, bOr, bNot, tst, allD, viewT, viewL, viewX, tyD, isiB, hName, hTup, hsCons, hsNil, iSeq, wipeS, sAsg, gLe, gLt, gGe, gGt, gSub, gI20, gIsN, gNotN, gNotB, newL, eCut, ePart, gCut, iZip2, sFor]; omega
              rw [this] at hf; simp [eV_app, startS, eIsi, eNot, eAnd, eOr, eChain, sRet, sSeq, sSet, sIf, sNx, sDrop, sRaise, sRetN, aCons, eB, eCall, eTup, eLst, eIf, bAnd, bOr, bNot, tst, allD, viewT, viewL, viewX, tyD, isiB, hName, hTup, hsCons, hsNil, iSeq, wipeS, sAsg, gLe, gLt, gGe, gGt, gSub, gI20, gIsN, gNotN, gNotB, newL, eCut, ePart, gCut, iZip2, sFor] at hf
          rw [hf] at e0
          simp [eV_app, startS, eIsi, eNot, eAnd, eOr, eChain, sRet, sSeq, sSet, sIf, sNx, sDrop, sRaise, sRetN, aCons, eB, eCall, eTup, eLst, eIf, bAnd, bOr, bNot, tst, allD, viewT, viewL, viewX, tyD, isiB, hName, hTup, hsCons, hsNil, iSeq, wipeS, sAsg, gLe, gLt, gGe, gGt, gSub, gI20, gIsN, gNotN, gNotB, newL, eCut, ePart, gCut, iZip2, sFor, gNe, toD, ok1, ok2, eqvD, e0, widthsB, ha]
        | true =>
          have ha : areB (tupI ns) 1 7 1 1000 = true := by
            have hf' : (ns.filter fun x => (!decide (1 ≤ x) || !decide (x ≤ 1000))) = [] := by simpa [eV_app, startS, eIsi, eNot, eAnd, eOr, eChain, sRet, sSeq, sSet, sIf, sNx, sDrop, sRaise, sRetN, aCons, eB, eCall, eTup, eLst, eIf, bAnd, bOr, bNot, tst, allD, viewT, viewL, viewX, tyD, isiB, hName, hTup, hsCons, hsNil, iSeq, wipeS, sAsg, gLe, gLt, gGe, gGt, gSub, gI20, gIsN, gNotN, gNotB, newL, eCut, ePart, gCut, iZip2, sFor] using hf
            rw [List.filter_eq_nil_iff] at hf'
            simp only [areB, tupI, List.length_map, Bool.and_eq_true, decide_eq_true_eq, List.all_eq_true]
            refine ⟨⟨h1, h2⟩, fun d hd => ?_⟩
            obtain ⟨x, hx, rfl⟩ := List.mem_map.mp hd
            have := hf' x hx
            simp [eV_app, startS, eIsi, eNot, eAnd, eOr, eChain, sRet, sSeq, sSet, sIf, sNx, sDrop, sRaise, sRetN, aCons, eB, eCall, eTup, eLst, eIf, bAnd, bOr, bNot, tst, allD, viewT, viewL, viewX, tyD, isiB, hName, hTup, hsCons, hsNil, iSeq, wipeS, sAsg, gLe, gLt, gGe, gGt, gSub, gI20, gIsN, gNotN, gNotB, newL, eCut, ePart, gCut, iZip2, sFor] at this
            simp only [inB, Bool.and_eq_true, decide_eq_true_eq]
            omega
          rw [hf] at e0
          simp [eV_app, startS, eIsi, eNot, eAnd, eOr, eChain, sRet, sSeq, sSet, sIf, sNx, sDrop, sRaise, sRetN, aCons, eB, eCall, eTup, eLst, eIf, bAnd, bOr, bNot, tst, allD, viewT, viewL, viewX, tyD, isiB, hName, hTup, hsCons, hsNil, iSeq, wipeS, sAsg, gLe, gLt, gGe, gGt, gSub, gI20, gIsN, gNotN, gNotB, newL, eCut, ePart, gCut, iZip2, sFor, gNe, toD, ok1, ok2, eqvD, e0, widthsB, ha, allInts_map, gLst, eSortedSet, viewS, hq, hq2, gEq, ok3, ok4, e1]
      · simp [eV_app, startS, eIsi, eNot, eAnd, eOr, eChain, sRet, sSeq, sSet, sIf, sNx, sDrop, sRaise, sRetN, aCons, eB, eCall, eTup, eLst, eIf, bAnd, bOr, bNot, tst, allD, viewT, viewL, viewX, tyD, isiB, hName, hTup, hsCons, hsNil, iSeq, wipeS, sAsg, gLe, gLt, gGe, gGt, gSub, gI20, gIsN, gNotN, gNotB, newL, eCut, ePart, gCut, iZip2, sFor]
      · unfold cap; omega
      · intro x hx
        refine ⟨_, rfl, ?_, fun _ => rfl⟩
        by_cases a : 1 ≤ x <;> by_cases b : x ≤ 1000 <;> simp [eV_app, startS, eIsi, eNot, eAnd, eOr, eChain, sRet, sSeq, sSet, sIf, sNx, sDrop, sRaise, sRetN, aCons, eB, eCall, eTup, eLst, eIf, bAnd, bOr, bNot, tst, allD, viewT, viewL, viewX, tyD, isiB, hName, hTup, hsCons, hsNil, iSeq, wipeS, sAsg, gLe, gLt, gGe, gGt, gSub, gI20, gIsN, gNotN, gNotB, newL, eCut, ePart, gCut, iZip2, sFor, a, b]
    · have : widthsB (tupI ns) = false := by simp [eV_app, startS, eIsi, eNot, eAnd, eOr, eChain, sRet, sSeq, sSet, sIf, sNx, sDrop, sRaise, sRetN, aCons, eB, eCall, eTup, eLst, eIf, bAnd, bOr, bNot, tst, allD, viewT, viewL, viewX, tyD, isiB, hName, hTup, hsCons, hsNil, iSeq, wipeS, sAsg, gLe, gLt, gGe, gGt, gSub, gI20, gIsN, gNotN, gNotB, newL, eCut, ePart, gCut, iZip2, sFor, widthsB, areB, tupI, h1, h2]
      simp [eV_app, startS, eIsi, eNot, eAnd, eOr, eChain, sRet, sSeq, sSet, sIf, sNx, sDrop, sRaise, sRetN, aCons, eB, eCall, eTup, eLst, eIf, bAnd, bOr, bNot, tst, allD, viewT, viewL, viewX, tyD, isiB, hName, hTup, hsCons, hsNil, iSeq, wipeS, sAsg, gLe, gLt, gGe, gGt, gSub, gI20, gIsN, gNotN, gNotB, newL, eCut, ePart, gCut, iZip2, sFor, h1, h2, this]
  · have : widthsB (tupI ns) = false := by simp [eV_app, startS, eIsi, eNot, eAnd, eOr, eChain, sRet, sSeq, sSet, sIf, sNx, sDrop, sRaise, sRetN, aCons, eB, eCall, eTup, eLst, eIf, bAnd, bOr, bNot, tst, allD, viewT, viewL, viewX, tyD, isiB, hName, hTup, hsCons, hsNil, iSeq, wipeS, sAsg, gLe, gLt, gGe, gGt, gSub, gI20, gIsN, gNotN, gNotB, newL, eCut, ePart, gCut, iZip2, sFor, widthsB, areB, tupI, h1]
    simp [eV_app, startS, eIsi, eNot, eAnd, eOr, eChain, sRet, sSeq, sSet, sIf, sNx, sDrop, sRaise, sRetN, aCons, eB, eCall, eTup, eLst, eIf, bAnd, bOr, bNot, tst, allD, viewT, viewL, viewX, tyD, isiB, hName, hTup, hsCons, hsNil, iSeq, wipeS, sAsg, gLe, gLt, gGe, gGt, gSub, gI20, gIsN, gNotN, gNotB, newL, eCut, ePart, gCut, iZip2, sFor, h1, this]
theorem widths_pw {ws : List Int} (h : widthsB (tupI ws) = true) : 1 ≤ ws.length ∧ ws.length ≤ 7 ∧ ws.Pairwise (· < ·) ∧ ∀ x ∈ ws, 1 ≤ x ∧ x ≤ 1000 := by
  simp only [widthsB, Bool.and_eq_true] at h
  obtain ⟨ms, e, a, b, hm⟩ := are_ints (n := 20) h.1
  have : ws = ms := by
    have := congrArg (fun d => match d with | D.tup ds => allInts ds | _ => none) e
    simpa [eV_app, startS, eIsi, eNot, eAnd, eOr, eChain, sRet, sSeq, sSet, sIf, sNx, sDrop, sRaise, sRetN, aCons, eB, eCall, eTup, eLst, eIf, bAnd, bOr, bNot, tst, allD, viewT, viewL, viewX, tyD, isiB, hName, hTup, hsCons, hsNil, iSeq, wipeS, sAsg, gLe, gLt, gGe, gGt, gSub, gI20, gIsN, gNotN, gNotB, newL, eCut, ePart, gCut, iZip2, sFor, allInts_map] using this
  subst this
  have h2 := h.2
  simp only [tupI, allInts_map] at h2
  exact ⟨by omega, by omega, ascB_pw.mp h2, hm⟩
theorem widths_of {ws : List Int} (h1 : 1 ≤ ws.length) (h2 : ws.length ≤ 7) (h3 : ws.Pairwise (· < ·)) (h4 : ∀ x ∈ ws, 1 ≤ x ∧ x ≤ 1000) : widthsB (tupI ws) = true := by
  simp only [widthsB, tupI, areB, allInts_map, ascB_pw.mpr h3, List.length_map, Bool.and_eq_true, decide_eq_true_eq, List.all_eq_true, and_true]
  refine ⟨⟨by omega, by omega⟩, fun d hd => ?_⟩
  obtain ⟨x, hx, rfl⟩ := List.mem_map.mp hd
  have := h4 x hx
  simp only [inB, Bool.and_eq_true, decide_eq_true_eq]
  omega
theorem parts_body {ws : List Int} {p : Int × Int} {P b : S} {as : List Int} {μ : List MO} (hw : ws.Pairwise (· < ·)) (hl : ws.length ≤ 7) (h1 : 1 ≤ p.1) (h2 : p.1 ≤ p.2) (h3 : p.2 ≤ 1000) (ha : as.length ≤ 1000) :
    lb__law_parts_0 [P, .d (tupI ws), .d (.lst (as.map .int)), .d (pairD p)] μ = some (.nx [P, .d (tupI ws), .d (.lst ((as ++ takes ws p).map .int)), .d (pairD p)] μ) := by
  have ht := takes_len ws p hl
  have hs := s_slots (p := p) (μ := μ) hw (by omega) h1 h2 h3
  have h24 : as.length + (takes ws p).length ≤ small24 := by unfold small24; omega
  simp only [tupI] at hs
  simp [eV_app, startS, eIsi, eNot, eAnd, eOr, eChain, sRet, sSeq, sSet, sIf, sNx, sDrop, sRaise, sRetN, aCons, eB, eCall, eTup, eLst, eIf, bAnd, bOr, bNot, tst, allD, viewT, viewL, viewX, tyD, isiB, hName, hTup, hsCons, hsNil, iSeq, wipeS, sAsg, gLe, gLt, gGe, gGt, gSub, gI20, gIsN, gNotN, gNotB, newL, eCut, ePart, gCut, iZip2, sFor, lb__law_parts_0, hs, gLst, gAdd, h24]
theorem w_parts {ps : List (Int × Int)} {ns : List Int} {μ : List MO} (hs : SzOk ps) (hl : ns.length ≤ 60) : g__law_parts [.d (szD ps), .d (tupI ns)] μ = some (.ok (.d (.bl (isPartB ps (tupI ns)))) μ) := by
  have hw := w_widths (μ := μ) hl
  simp only [tupI] at hw
  cases h : widthsB (tupI ns) with
  | false =>
    have h' := h
    simp only [tupI] at h'
    simp [eV_app, startS, eIsi, eNot, eAnd, eOr, eChain, sRet, sSeq, sSet, sIf, sNx, sDrop, sRaise, sRetN, aCons, eB, eCall, eTup, eLst, eIf, bAnd, bOr, bNot, tst, allD, viewT, viewL, viewX, tyD, isiB, hName, hTup, hsCons, hsNil, iSeq, wipeS, sAsg, gLe, gLt, gGe, gGt, gSub, gI20, gIsN, gNotN, gNotB, newL, eCut, ePart, gCut, iZip2, sFor, g__law_parts, fb__law_parts, hw, h', isPartB]
  | true =>
    have h' := h
    simp only [tupI] at h'
    obtain ⟨a1, a2, a3, a4⟩ := widths_pw h
    have hlen := slotsOf_len ns a2
    obtain ⟨ρ', μ', e1, e2⟩ := forF_inv (h := hName 3) (b := lb__law_parts_0) pairD (full := ps)
      (fun done ρ μ' => ∃ c, ρ = [.d (szD ps), .d (tupI ns), .d (.lst ((slotsOf ns done).map .int)), c] ∧ μ' = μ)
      (fun done x rest ρ μ' hf hI => by
        obtain ⟨c, rfl, rfl⟩ := hI
        obtain ⟨b1, b2, b3⟩ := hs.2.2 x (by rw [hf]; simp [eV_app, startS, eIsi, eNot, eAnd, eOr, eChain, sRet, sSeq, sSet, sIf, sNx, sDrop, sRaise, sRetN, aCons, eB, eCall, eTup, eLst, eIf, bAnd, bOr, bNot, tst, allD, viewT, viewL, viewX, tyD, isiB, hName, hTup, hsCons, hsNil, iSeq, wipeS, sAsg, gLe, gLt, gGe, gGt, gSub, gI20, gIsN, gNotN, gNotB, newL, eCut, ePart, gCut, iZip2, sFor])
        have hd : done.length ≤ 6 := by have := hs.2.1; rw [hf] at this; simp [eV_app, startS, eIsi, eNot, eAnd, eOr, eChain, sRet, sSeq, sSet, sIf, sNx, sDrop, sRaise, sRetN, aCons, eB, eCall, eTup, eLst, eIf, bAnd, bOr, bNot, tst, allD, viewT, viewL, viewX, tyD, isiB, hName, hTup, hsCons, hsNil, iSeq, wipeS, sAsg, gLe, gLt, gGe, gGt, gSub, gI20, gIsN, gNotN, gNotB, newL, eCut, ePart, gCut, iZip2, sFor] at this; omega
        have := hlen done
        refine ⟨_, _, _, rfl, parts_body (b := c) a3 a2 b1 b2 b3 (by omega), .d (pairD x), ?_, rfl⟩
        simp [eV_app, startS, eIsi, eNot, eAnd, eOr, eChain, sRet, sSeq, sSet, sIf, sNx, sDrop, sRaise, sRetN, aCons, eB, eCall, eTup, eLst, eIf, bAnd, bOr, bNot, tst, allD, viewT, viewL, viewX, tyD, isiB, hName, hTup, hsCons, hsNil, iSeq, wipeS, sAsg, gLe, gLt, gGe, gGt, gSub, gI20, gIsN, gNotN, gNotB, newL, eCut, ePart, gCut, iZip2, sFor, slotsOf])
      ps [] [.d (szD ps), .d (tupI ns), .d (.lst []), .un] μ rfl ⟨.un, by simp [eV_app, startS, eIsi, eNot, eAnd, eOr, eChain, sRet, sSeq, sSet, sIf, sNx, sDrop, sRaise, sRetN, aCons, eB, eCall, eTup, eLst, eIf, bAnd, bOr, bNot, tst, allD, viewT, viewL, viewX, tyD, isiB, hName, hTup, hsCons, hsNil, iSeq, wipeS, sAsg, gLe, gLt, gGe, gGt, gSub, gI20, gIsN, gNotN, gNotB, newL, eCut, ePart, gCut, iZip2, sFor, slotsOf], rfl⟩
    obtain ⟨c, rfl, rfl⟩ := e2
    have hl4 : (slotsOf ns ps).length ≤ 4000 := by have := hlen ps; have := hs.2.1; omega
    simp only [szD, tupI] at e1
    simp [eV_app, startS, eIsi, eNot, eAnd, eOr, eChain, sRet, sSeq, sSet, sIf, sNx, sDrop, sRaise, sRetN, aCons, eB, eCall, eTup, eLst, eIf, bAnd, bOr, bNot, tst, allD, viewT, viewL, viewX, tyD, isiB, hName, hTup, hsCons, hsNil, iSeq, wipeS, sAsg, gLe, gLt, gGe, gGt, gSub, gI20, gIsN, gNotN, gNotB, newL, eCut, ePart, gCut, iZip2, sFor, g__law_parts, fb__law_parts, hw, h', isPartB, e1, eLenSet, viewS, allInts_map, hl4, gLen, gEq, toD, ok_int, eqvD, fitB]
end K03
end

section
set_option linter.all false
set_option maxRecDepth 100000
set_option maxHeartbeats 1000000
namespace K03
open PySem DL
theorem eRef_arg {f : EF} {ρ : List S} {μ μ1 : List MO} {d : D} (h : f ρ μ = some (.ex (.arg d) μ1)) : eRefused f ρ μ = some (.ok (.d d) μ1) := by unfold eRefused; rw [h]
theorem x_machine1 {v u : D} {n m : Nat} {μ : List MO} (hv : okD n v = true) (hu : okD m u = true) (h1 : widthsB v = false) : g_machine_of [.d v, .d u] μ = some (.ex (.arg (.str "widths")) μ) := by
  simp [eV_app, startS, eIsi, eNot, eAnd, eOr, eChain, sRet, sSeq, sSet, sIf, sNx, sDrop, sRaise, sRetN, aCons, eB, eCall, eTup, eLst, eIf, bAnd, bOr, bNot, tst, allD, viewT, viewL, viewX, tyD, isiB, hName, hTup, hsCons, hsNil, iSeq, wipeS, sAsg, gLe, gLt, gGe, gGt, gSub, gI20, gIsN, gNotN, gNotB, newL, eCut, ePart, gCut, iZip2, sFor, g_machine_of, fb_machine_of, s_are_widths hv, h1, s_demand]
theorem x_machine2 {v u : D} {n m : Nat} {μ : List MO} (hv : okD n v = true) (hu : okD m u = true) (h1 : widthsB v = true) (h2 : sizesB u = false) : g_machine_of [.d v, .d u] μ = some (.ex (.arg (.str "sizes")) μ) := by
  simp [eV_app, startS, eIsi, eNot, eAnd, eOr, eChain, sRet, sSeq, sSet, sIf, sNx, sDrop, sRaise, sRetN, aCons, eB, eCall, eTup, eLst, eIf, bAnd, bOr, bNot, tst, allD, viewT, viewL, viewX, tyD, isiB, hName, hTup, hsCons, hsNil, iSeq, wipeS, sAsg, gLe, gLt, gGe, gGt, gSub, gI20, gIsN, gNotN, gNotB, newL, eCut, ePart, gCut, iZip2, sFor, g_machine_of, fb_machine_of, s_are_widths hv, s_are_sizes hu, h1, h2, s_demand]
theorem s_refuses {M : Dice → List MO} {i : Nat} (hM : Sto M i) {N : Nat} {d : Dice} {ps : List (Int × Int)} (hd : d.Ok N) (hN : N + 2 < 1000000) (hs : SzOk ps) : ∃ e, g__law_refuses [.m i, .d (szD ps)] (M d) = some (.ok (.d (.bl true)) (M e)) ∧ e.Ok (N + 2) := by
  obtain ⟨bad, e1, p1, p2, p3⟩ := s_pick hM (ds := [.non, .tup [], .lst [.int 1], .tup [.int 2, .int 1], .tup [.int 1, .int 1], .tup [.int 0], .tup [.int 1001], .tup [.int 1, .int 2, .int 3, .int 4, .int 5, .int 6, .int 7, .int 8]]) hd (by omega) (by simp [eV_app, startS, eIsi, eNot, eAnd, eOr, eChain, sRet, sSeq, sSet, sIf, sNx, sDrop, sRaise, sRetN, aCons, eB, eCall, eTup, eLst, eIf, bAnd, bOr, bNot, tst, allD, viewT, viewL, viewX, tyD, isiB, hName, hTup, hsCons, hsNil, iSeq, wipeS, sAsg, gLe, gLt, gGe, gGt, gSub, gI20, gIsN, gNotN, gNotB, newL, eCut, ePart, gCut, iZip2, sFor]) (by simp [eV_app, startS, eIsi, eNot, eAnd, eOr, eChain, sRet, sSeq, sSet, sIf, sNx, sDrop, sRaise, sRetN, aCons, eB, eCall, eTup, eLst, eIf, bAnd, bOr, bNot, tst, allD, viewT, viewL, viewX, tyD, isiB, hName, hTup, hsCons, hsNil, iSeq, wipeS, sAsg, gLe, gLt, gGe, gGt, gSub, gI20, gIsN, gNotN, gNotB, newL, eCut, ePart, gCut, iZip2, sFor])
  obtain ⟨odd, e2, q1, q2, q3⟩ := s_pick hM (ds := [.non, .tup [], .lst (ps.map pairD), .tup [.tup [.int 2, .int 1]], .tup [.tup [.int 0, .int 1]], .tup [.tup [.int 1, .int 1001]], .tup [.tup [.int 1]], .tup [.tup [.int 1, .int 1], .tup [.int 1, .int 1], .tup [.int 1, .int 1], .tup [.int 1, .int 1], .tup [.int 1, .int 1], .tup [.int 1, .int 1], .tup [.int 1, .int 1]]]) p3 (by omega) (by simp [eV_app, startS, eIsi, eNot, eAnd, eOr, eChain, sRet, sSeq, sSet, sIf, sNx, sDrop, sRaise, sRetN, aCons, eB, eCall, eTup, eLst, eIf, bAnd, bOr, bNot, tst, allD, viewT, viewL, viewX, tyD, isiB, hName, hTup, hsCons, hsNil, iSeq, wipeS, sAsg, gLe, gLt, gGe, gGt, gSub, gI20, gIsN, gNotN, gNotB, newL, eCut, ePart, gCut, iZip2, sFor]) (by simp [eV_app, startS, eIsi, eNot, eAnd, eOr, eChain, sRet, sSeq, sSet, sIf, sNx, sDrop, sRaise, sRetN, aCons, eB, eCall, eTup, eLst, eIf, bAnd, bOr, bNot, tst, allD, viewT, viewL, viewX, tyD, isiB, hName, hTup, hsCons, hsNil, iSeq, wipeS, sAsg, gLe, gLt, gGe, gGt, gSub, gI20, gIsN, gNotN, gNotB, newL, eCut, ePart, gCut, iZip2, sFor])
  have hb : okD 20 bad = true ∧ widthsB bad = false := by
    simp only [List.mem_cons, List.not_mem_nil, or_false] at p2
    rcases p2 with rfl | rfl | rfl | rfl | rfl | rfl | rfl | rfl <;> exact ⟨rfl, rfl⟩
  have ho : okD 20 odd = true ∧ sizesB odd = false := by
    simp only [List.mem_cons, List.not_mem_nil, or_false] at q2
    rcases q2 with rfl | rfl | rfl | rfl | rfl | rfl | rfl | rfl
    · exact ⟨rfl, rfl⟩
    · exact ⟨rfl, rfl⟩
    · refine ⟨?_, rfl⟩
      have := ok_sz 18 ps
      simpa [eV_app, startS, eIsi, eNot, eAnd, eOr, eChain, sRet, sSeq, sSet, sIf, sNx, sDrop, sRaise, sRetN, aCons, eB, eCall, eTup, eLst, eIf, bAnd, bOr, bNot, tst, allD, viewT, viewL, viewX, tyD, isiB, hName, hTup, hsCons, hsNil, iSeq, wipeS, sAsg, gLe, gLt, gGe, gGt, gSub, gI20, gIsN, gNotN, gNotB, newL, eCut, ePart, gCut, iZip2, sFor, okD, szD] using this
    all_goals exact ⟨rfl, rfl⟩
  obtain ⟨b1, b2⟩ := hb
  obtain ⟨o1, o2⟩ := ho
  have w5 : widthsB (.tup [.int 5]) = true := rfl
  have ok5 : okD 20 (.tup [.int 5]) = true := rfl
  have f1 := x_machine1 (μ := M e2) b1 o1 b2
  have f2 := x_machine2 (μ := M e2) ok5 o1 w5 o2
  have f3 := x_parted (μ := M e2) o1 o2
  have f4 := x_is_parted (v := .tup []) (μ := M e2) o1 o2
  have m1 : machineB (.tup []) = false := rfl
  have m2 : machineB (.tup [.tup [.int 0]]) = true := rfl
  have f5 : g_fills [.d (.tup []), .d (.tup [])] (M e2) = some (.ex (.arg (.str "machine")) (M e2)) := by
    have := s_is_machine (v := .tup []) (n := 5) (μ := M e2) rfl
    simp [eV_app, startS, eIsi, eNot, eAnd, eOr, eChain, sRet, sSeq, sSet, sIf, sNx, sDrop, sRaise, sRetN, aCons, eB, eCall, eTup, eLst, eIf, bAnd, bOr, bNot, tst, allD, viewT, viewL, viewX, tyD, isiB, hName, hTup, hsCons, hsNil, iSeq, wipeS, sAsg, gLe, gLt, gGe, gGt, gSub, gI20, gIsN, gNotN, gNotB, newL, eCut, ePart, gCut, iZip2, sFor, g_fills, fb_fills, this, m1, s_demand]
  have s2 := s_is_machine (v := .tup [.tup [.int 0]]) (n := 5) (μ := M e2) rfl
  have bg := fun (v : D) (hv : okD 5 v = true) => s_bag (v := v) (n := 5) (ds := [.tup [.int 0]]) (μ := M e2) hv (by decide)
  have f6 : g_fills [.d (.tup [.tup [.int 0]]), .d (.tup [.int 1, .int 2])] (M e2) = some (.ex (.arg (.str "bag")) (M e2)) := by
    have a := bg (.tup [.int 1, .int 2]) rfl
    have b : areB (.tup [.int 1, .int 2]) ([D.tup [.int 0]].length : Nat) ([D.tup [.int 0]].length : Nat) 0 1800 = false := rfl
    rw [b] at a
    simp [eV_app, startS, eIsi, eNot, eAnd, eOr, eChain, sRet, sSeq, sSet, sIf, sNx, sDrop, sRaise, sRetN, aCons, eB, eCall, eTup, eLst, eIf, bAnd, bOr, bNot, tst, allD, viewT, viewL, viewX, tyD, isiB, hName, hTup, hsCons, hsNil, iSeq, wipeS, sAsg, gLe, gLt, gGe, gGt, gSub, gI20, gIsN, gNotN, gNotB, newL, eCut, ePart, gCut, iZip2, sFor, g_fills, fb_fills, s2, m2, s_demand, a]
  have f7 : g_never_fills [.d (.tup [.tup [.int 0]]), .d (.tup [.int 1]), .d (.tup [.int 1, .int 1, .int 1, .int 1, .int 1, .int 1, .int 1])] (M e2) = some (.ex (.arg (.str "bins")) (M e2)) := by
    have a := bg (.tup [.int 1]) rfl
    have b : areB (.tup [.int 1]) ([D.tup [.int 0]].length : Nat) ([D.tup [.int 0]].length : Nat) 0 1800 = true := rfl
    rw [b] at a
    have c := s_are_in (n := 5) (v := .tup [.int 1, .int 1, .int 1, .int 1, .int 1, .int 1, .int 1]) (l := 8) (m := 8) (a := 0) (b := 20000) (μ := M e2) rfl (by decide)
    have c' : areB (.tup [.int 1, .int 1, .int 1, .int 1, .int 1, .int 1, .int 1]) 8 8 0 20000 = false := rfl
    rw [c'] at c
    simp [eV_app, startS, eIsi, eNot, eAnd, eOr, eChain, sRet, sSeq, sSet, sIf, sNx, sDrop, sRaise, sRetN, aCons, eB, eCall, eTup, eLst, eIf, bAnd, bOr, bNot, tst, allD, viewT, viewL, viewX, tyD, isiB, hName, hTup, hsCons, hsNil, iSeq, wipeS, sAsg, gLe, gLt, gGe, gGt, gSub, gI20, gIsN, gNotN, gNotB, newL, eCut, ePart, gCut, iZip2, sFor, g_never_fills, fb_never_fills, s2, m2, s_demand, a, c]
  have f8 : g_never_fills [.d (.tup [.tup [.int 0]]), .d (.tup [.int (-1)]), .d .non] (M e2) = some (.ex (.arg (.str "bag")) (M e2)) := by
    have a := bg (.tup [.int (-1)]) rfl
    have b : areB (.tup [.int (-1)]) ([D.tup [.int 0]].length : Nat) ([D.tup [.int 0]].length : Nat) 0 1800 = false := rfl
    rw [b] at a
    simp [eV_app, startS, eIsi, eNot, eAnd, eOr, eChain, sRet, sSeq, sSet, sIf, sNx, sDrop, sRaise, sRetN, aCons, eB, eCall, eTup, eLst, eIf, bAnd, bOr, bNot, tst, allD, viewT, viewL, viewX, tyD, isiB, hName, hTup, hsCons, hsNil, iSeq, wipeS, sAsg, gLe, gLt, gGe, gGt, gSub, gI20, gIsN, gNotN, gNotB, newL, eCut, ePart, gCut, iZip2, sFor, g_never_fills, fb_never_fills, s2, m2, s_demand, a]
  refine ⟨e2, ?_, q3⟩
  have hm7 : gMul false (.d (.tup [.tup [.int 1, .int 1]])) (.d (.int 7)) (M e1) = some (.ok (.d (.tup [.tup [.int 1, .int 1], .tup [.int 1, .int 1], .tup [.int 1, .int 1], .tup [.int 1, .int 1], .tup [.int 1, .int 1], .tup [.int 1, .int 1], .tup [.int 1, .int 1]])) (M e1)) := rfl
  have hm1 : gMul false (.d (.tup [.int 1])) (.d (.int 7)) (M e2) = some (.ok (.d (.tup [.int 1, .int 1, .int 1, .int 1, .int 1, .int 1, .int 1])) (M e2)) := rfl
  have hl : gLst false [.d (szD ps)] (M e1) = some (.ok (.d (.lst (ps.map pairD))) (M e1)) := rfl
  simp [eV_app, startS, eIsi, eNot, eAnd, eOr, eChain, sRet, sSeq, sSet, sIf, sNx, sDrop, sRaise, sRetN, aCons, eB, eCall, eTup, eLst, eIf, bAnd, bOr, bNot, tst, allD, viewT, viewL, viewX, tyD, isiB, hName, hTup, hsCons, hsNil, iSeq, wipeS, sAsg, gLe, gLt, gGe, gGt, gSub, gI20, gIsN, gNotN, gNotB, newL, eCut, ePart, gCut, iZip2, sFor, g__law_refuses, fb__law_refuses, p1, q1, hm7, hl]
  simp [eV_app, startS, eIsi, eNot, eAnd, eOr, eChain, sRet, sSeq, sSet, sIf, sNx, sDrop, sRaise, sRetN, aCons, eB, eCall, eTup, eLst, eIf, bAnd, bOr, bNot, tst, allD, viewT, viewL, viewX, tyD, isiB, hName, hTup, hsCons, hsNil, iSeq, wipeS, sAsg, gLe, gLt, gGe, gGt, gSub, gI20, gIsN, gNotN, gNotB, newL, eCut, ePart, gCut, iZip2, sFor, eRefused, f1, f2, f3, f4, f5, f6, f7, f8, hm1, eNeg]
  have ga : ∀ (a b c d e f : D) (μ : List MO), gAdd false (.d (.lst [a, b, c, d])) (.d (.lst [e, f])) μ = some (.ok (.d (.lst [a, b, c, d, e, f])) μ) := fun _ _ _ _ _ _ _ => rfl
  have gb : ∀ (a b c d e f g h : D) (μ : List MO), gAdd false (.d (.lst [a, b, c, d, e, f])) (.d (.lst [g, h])) μ = some (.ok (.d (.lst [a, b, c, d, e, f, g, h])) μ) := fun _ _ _ _ _ _ _ _ _ => rfl
  have hok : okD 20 (.lst [.str "widths", .str "sizes", .str "sizes", .str "sizes", .str "machine", .str "bag", .str "bins", .str "bag"]) = true := by decide +kernel
  have heq : eqvD (.lst [.str "widths", .str "sizes", .str "sizes", .str "sizes", .str "machine", .str "bag", .str "bins", .str "bag"]) (.lst [.str "widths", .str "sizes", .str "sizes", .str "sizes", .str "machine", .str "bag", .str "bins", .str "bag"]) = true := by simp [eV_app, startS, eIsi, eNot, eAnd, eOr, eChain, sRet, sSeq, sSet, sIf, sNx, sDrop, sRaise, sRetN, aCons, eB, eCall, eTup, eLst, eIf, bAnd, bOr, bNot, tst, allD, viewT, viewL, viewX, tyD, isiB, hName, hTup, hsCons, hsNil, iSeq, wipeS, sAsg, gLe, gLt, gGe, gGt, gSub, gI20, gIsN, gNotN, gNotB, newL, eCut, ePart, gCut, iZip2, sFor, eqvD, eqvDs]
  simp [eV_app, startS, eIsi, eNot, eAnd, eOr, eChain, sRet, sSeq, sSet, sIf, sNx, sDrop, sRaise, sRetN, aCons, eB, eCall, eTup, eLst, eIf, bAnd, bOr, bNot, tst, allD, viewT, viewL, viewX, tyD, isiB, hName, hTup, hsCons, hsNil, iSeq, wipeS, sAsg, gLe, gLt, gGe, gGt, gSub, gI20, gIsN, gNotN, gNotB, newL, eCut, ePart, gCut, iZip2, sFor, ga, gb, hm1, f7, f8, gEq, toD, hok, heq, hM.take]
end K03
end

section
set_option linter.all false
set_option maxRecDepth 100000
set_option maxHeartbeats 1000000
namespace K03
open PySem DL
theorem dice_body {a b : S} {own m c : Int} {μ : List MO} : lb__law_dice_0 [a, b, .d (.int own), .d (.int m), .d (.int c)] μ = some (.nx [a, b, .d (.int own), .d (.int ((m * 48271 + c) % 2147480009)), .d (.int c)] μ) := by
  have e1 : small64B 48271 = true := by decide
  simp [eV_app, startS, eIsi, eNot, eAnd, eOr, eChain, sRet, sSeq, sSet, sIf, sNx, sDrop, sRaise, sRetN, aCons, eB, eCall, eTup, eLst, eIf, bAnd, bOr, bNot, tst, allD, viewT, viewL, viewX, tyD, isiB, hName, hTup, hsCons, hsNil, iSeq, wipeS, sAsg, gLe, gLt, gGe, gGt, gSub, gI20, gIsN, gNotN, gNotB, newL, eCut, ePart, gCut, iZip2, sFor, lb__law_dice_0, gMul, e1, gInt, gMod, gAdd, gI2]
theorem dice_loop {a b : S} {own : Int} {μ : List MO} : ∀ (cs : List Int) (m : Int) (c0 : S), ∃ (m' : Int) (c : S), forF (hName 4) lb__law_dice_0 (cs.map .int) [a, b, .d (.int own), .d (.int m), c0] μ = some (.nx [a, b, .d (.int own), .d (.int m'), c] μ) ∧ (cs ≠ [] → 0 ≤ m' ∧ m' < 2147480009)
  | [], m, c0 => ⟨m, c0, by simp [eV_app, startS, eIsi, eNot, eAnd, eOr, eChain, sRet, sSeq, sSet, sIf, sNx, sDrop, sRaise, sRetN, aCons, eB, eCall, eTup, eLst, eIf, bAnd, bOr, bNot, tst, allD, viewT, viewL, viewX, tyD, isiB, hName, hTup, hsCons, hsNil, iSeq, wipeS, sAsg, gLe, gLt, gGe, gGt, gSub, gI20, gIsN, gNotN, gNotB, newL, eCut, ePart, gCut, iZip2, sFor, forF], by simp [eV_app, startS, eIsi, eNot, eAnd, eOr, eChain, sRet, sSeq, sSet, sIf, sNx, sDrop, sRaise, sRetN, aCons, eB, eCall, eTup, eLst, eIf, bAnd, bOr, bNot, tst, allD, viewT, viewL, viewX, tyD, isiB, hName, hTup, hsCons, hsNil, iSeq, wipeS, sAsg, gLe, gLt, gGe, gGt, gSub, gI20, gIsN, gNotN, gNotB, newL, eCut, ePart, gCut, iZip2, sFor]⟩
  | x :: cs, m, c0 => by
    obtain ⟨m', c, h1, h2⟩ := dice_loop (a := a) (b := b) (own := own) (μ := μ) cs ((m * 48271 + x) % 2147480009) (.d (.int x))
    refine ⟨m', c, ?_, fun _ => ?_⟩
    · rw [List.map_cons]
      unfold forF
      simp [eV_app, startS, eIsi, eNot, eAnd, eOr, eChain, sRet, sSeq, sSet, sIf, sNx, sDrop, sRaise, sRetN, aCons, eB, eCall, eTup, eLst, eIf, bAnd, bOr, bNot, tst, allD, viewT, viewL, viewX, tyD, isiB, hName, hTup, hsCons, hsNil, iSeq, wipeS, sAsg, gLe, gLt, gGe, gGt, gSub, gI20, gIsN, gNotN, gNotB, newL, eCut, ePart, gCut, iZip2, sFor, dice_body, h1]
    · by_cases hc : cs = []
      · subst hc
        simp [eV_app, startS, eIsi, eNot, eAnd, eOr, eChain, sRet, sSeq, sSet, sIf, sNx, sDrop, sRaise, sRetN, aCons, eB, eCall, eTup, eLst, eIf, bAnd, bOr, bNot, tst, allD, viewT, viewL, viewX, tyD, isiB, hName, hTup, hsCons, hsNil, iSeq, wipeS, sAsg, gLe, gLt, gGe, gGt, gSub, gI20, gIsN, gNotN, gNotB, newL, eCut, ePart, gCut, iZip2, sFor, forF] at h1
        obtain ⟨rfl, _⟩ := h1
        exact ⟨Int.emod_nonneg _ (by omega), Int.emod_lt_of_pos _ (by omega)⟩
      · exact h2 hc
theorem s_dice {ns : List Int} {spot : Nat} {μ : List MO} (hl : ns.length ≤ 63) (hs : spot ≤ 10) : ∃ d : Dice, d.Ok 0 ∧ g__law_dice [.d (.scr ns), .d (.int spot)] μ = some (.ok (.m μ.length) (μ ++ [d.mo])) := by
  have e1 : small64B 733 = true := by decide
  have e3 : small64B 7907 = true := by decide
  have key : ∀ own : Int, (if (spot : Int) < ns.length then L2.atI ns spot = some own else own = 733 * spot + 29) → ∃ d : Dice, d.Ok 0 ∧ g__law_dice [.d (.scr ns), .d (.int spot)] μ = some (.ok (.m μ.length) (μ ++ [d.mo])) := fun own ho => by
    obtain ⟨m', c, h1, h2⟩ := dice_loop (a := .d (.scr ns)) (b := .d (.int spot)) (own := own) (μ := μ) (ns.take 6 ++ [own]) (910003 + 7907 * spot) .un
    obtain ⟨h2, h3⟩ := h2 (by simp [eV_app, startS, eIsi, eNot, eAnd, eOr, eChain, sRet, sSeq, sSet, sIf, sNx, sDrop, sRaise, sRetN, aCons, eB, eCall, eTup, eLst, eIf, bAnd, bOr, bNot, tst, allD, viewT, viewL, viewX, tyD, isiB, hName, hTup, hsCons, hsNil, iSeq, wipeS, sAsg, gLe, gLt, gGe, gGt, gSub, gI20, gIsN, gNotN, gNotB, newL, eCut, ePart, gCut, iZip2, sFor])
    have ecut : cutD (ns.map D.int) none (some 6) = (ns.take 6).map D.int := by rw [cutD_to (by decide), List.map_take]; rfl
    have h24 : min 6 ns.length + 1 ≤ small24 := by unfold small24; omega
    simp only [List.map_append, List.map_cons, List.map_nil] at h1
    have hown : (eIf (tst (e2 gLt (eV 1) (eB gLen (aCons (eV 0) aNil)))) (e2 gIx (eV 0) (eV 1)) (e2 (gAdd false) (e2 (gMul false) (eC (.int 733)) (eV 1)) (eC (.int 29)))) [.d (.scr ns), .d (.int spot), .un, .un, .un] μ = some (.ok (.d (.int own)) μ) := by
      by_cases h : (spot : Int) < ns.length
      · rw [if_pos h] at ho
        have : L2.atI (ns.map D.int) spot = some (.int own) := by
          obtain ⟨x, a1, _, a2⟩ := atI_lt (ds := ns) (by omega) h
          obtain ⟨y, b1, _, b2⟩ := atI_lt (ds := ns.map D.int) (r := spot) (by omega) (by simpa [eV_app, startS, eIsi, eNot, eAnd, eOr, eChain, sRet, sSeq, sSet, sIf, sNx, sDrop, sRaise, sRetN, aCons, eB, eCall, eTup, eLst, eIf, bAnd, bOr, bNot, tst, allD, viewT, viewL, viewX, tyD, isiB, hName, hTup, hsCons, hsNil, iSeq, wipeS, sAsg, gLe, gLt, gGe, gGt, gSub, gI20, gIsN, gNotN, gNotB, newL, eCut, ePart, gCut, iZip2, sFor] using h)
          rw [ho] at a1; cases a1
          rw [List.getElem?_map, a2] at b2
          rw [b1, ← b2]; rfl
        simp [eV_app, startS, eIsi, eNot, eAnd, eOr, eChain, sRet, sSeq, sSet, sIf, sNx, sDrop, sRaise, sRetN, aCons, eB, eCall, eTup, eLst, eIf, bAnd, bOr, bNot, tst, allD, viewT, viewL, viewX, tyD, isiB, hName, hTup, hsCons, hsNil, iSeq, wipeS, sAsg, gLe, gLt, gGe, gGt, gSub, gI20, gIsN, gNotN, gNotB, newL, eCut, ePart, gCut, iZip2, sFor, gLen, h, gIx, this]
      · rw [if_neg h] at ho
        subst ho
        simp [eV_app, startS, eIsi, eNot, eAnd, eOr, eChain, sRet, sSeq, sSet, sIf, sNx, sDrop, sRaise, sRetN, aCons, eB, eCall, eTup, eLst, eIf, bAnd, bOr, bNot, tst, allD, viewT, viewL, viewX, tyD, isiB, hName, hTup, hsCons, hsNil, iSeq, wipeS, sAsg, gLe, gLt, gGe, gGt, gSub, gI20, gIsN, gNotN, gNotB, newL, eCut, ePart, gCut, iZip2, sFor, gLen, h, gMul, e1, gAdd]
    have hv : (eIf (bOr (tst (e2 gLt (eV 2) (eC (.int 0)))) (tst (e2 gGe (eV 2) (e2 (gPow) (eC (.int 10)) (eC (.int 16)))))) (eB (gAbs) (aCons (eV 2) aNil)) (eC (.int 0))) [.d (.scr ns), .d (.int spot), .d (.int own), .d (.int m'), c] μ = some (.ok (.d (.int (if own < 0 ∨ 10 ^ 16 ≤ own then own.natAbs else 0))) μ) := by
      by_cases h5 : own < 0
      · simp [eV_app, startS, eIsi, eNot, eAnd, eOr, eChain, sRet, sSeq, sSet, sIf, sNx, sDrop, sRaise, sRetN, aCons, eB, eCall, eTup, eLst, eIf, bAnd, bOr, bNot, tst, allD, viewT, viewL, viewX, tyD, isiB, hName, hTup, hsCons, hsNil, iSeq, wipeS, sAsg, gLe, gLt, gGe, gGt, gSub, gI20, gIsN, gNotN, gNotB, newL, eCut, ePart, gCut, iZip2, sFor, h5, gAbs]
      · by_cases h6 : (10000000000000000 : Int) ≤ own
        · simp [eV_app, startS, eIsi, eNot, eAnd, eOr, eChain, sRet, sSeq, sSet, sIf, sNx, sDrop, sRaise, sRetN, aCons, eB, eCall, eTup, eLst, eIf, bAnd, bOr, bNot, tst, allD, viewT, viewL, viewX, tyD, isiB, hName, hTup, hsCons, hsNil, iSeq, wipeS, sAsg, gLe, gLt, gGe, gGt, gSub, gI20, gIsN, gNotN, gNotB, newL, eCut, ePart, gCut, iZip2, sFor, h5, h6, gAbs, gPow, gI2]
        · simp [eV_app, startS, eIsi, eNot, eAnd, eOr, eChain, sRet, sSeq, sSet, sIf, sNx, sDrop, sRaise, sRetN, aCons, eB, eCall, eTup, eLst, eIf, bAnd, bOr, bNot, tst, allD, viewT, viewL, viewX, tyD, isiB, hName, hTup, hsCons, hsNil, iSeq, wipeS, sAsg, gLe, gLt, gGe, gGt, gSub, gI20, gIsN, gNotN, gNotB, newL, eCut, ePart, gCut, iZip2, sFor, h5, h6, gAbs, gPow, gI2]
    refine ⟨⟨if own < 0 ∨ 10 ^ 16 ≤ own then own.natAbs else 0, m', 0⟩, ⟨?_, h2, h3, by show (0 : Int) ≤ 0; omega, by show (0 : Int) ≤ _; omega⟩, ?_⟩
    · show (0 : Int) ≤ if own < 0 ∨ 10 ^ 16 ≤ own then (own.natAbs : Int) else 0
      split <;> omega
    · show finM μ.length (fb__law_dice [.d (.scr ns), .d (.int spot), .un, .un, .un] μ) = _
      generalize (if own < 0 ∨ 10 ^ 16 ≤ own then (own.natAbs : Int) else 0) = w at hv ⊢
      unfold fb__law_dice
      simp only [sSeq, sSet, hown, List.set_cons_succ, List.set_cons_zero]
      have hm : (e2 (gAdd false) (eC (.int 910003)) (e2 (gMul false) (eC (.int 7907)) (eV 1))) [.d (.scr ns), .d (.int spot), .d (.int own), .un, .un] μ = some (.ok (.d (.int (910003 + 7907 * spot))) μ) := by simp [eV_app, startS, eIsi, eNot, eAnd, eOr, eChain, sRet, sSeq, sSet, sIf, sNx, sDrop, sRaise, sRetN, aCons, eB, eCall, eTup, eLst, eIf, bAnd, bOr, bNot, tst, allD, viewT, viewL, viewX, tyD, isiB, hName, hTup, hsCons, hsNil, iSeq, wipeS, sAsg, gLe, gLt, gGe, gGt, gSub, gI20, gIsN, gNotN, gNotB, newL, eCut, ePart, gCut, iZip2, sFor, gMul, e3, gAdd]
      have hi : iSeq (e2 (gAdd false) (eCut false (eV 0) none (some (eC (.int 6)))) (eLst false (aCons (eV 2) aNil))) [.d (.scr ns), .d (.int spot), .d (.int own), .d (.int (910003 + 7907 * spot)), .un] μ = some (.ok ((ns.take 6).map .int ++ [.int own]) μ) := by
        simp [eV_app, startS, eIsi, eNot, eAnd, eOr, eChain, sRet, sSeq, sSet, sIf, sNx, sDrop, sRaise, sRetN, aCons, eB, eCall, eTup, eLst, eIf, bAnd, bOr, bNot, tst, allD, viewT, viewL, viewX, tyD, isiB, hName, hTup, hsCons, hsNil, iSeq, wipeS, sAsg, gLe, gLt, gGe, gGt, gSub, gI20, gIsN, gNotN, gNotB, newL, eCut, ePart, gCut, iZip2, sFor, ecut, gAdd, h24]
      simp only [hm, sFor, hi, h1, List.set_cons_succ, List.set_cons_zero]
      have ha := aCons_app (g := aCons (eV 3) (aCons (eC (.int 0)) aNil)) (ss := [.d (.int m'), .d (.int 0)]) (μ2 := μ) hv (by simp [eV_app, startS, eIsi, eNot, eAnd, eOr, eChain, sRet, sSeq, sSet, sIf, sNx, sDrop, sRaise, sRetN, aCons, eB, eCall, eTup, eLst, eIf, bAnd, bOr, bNot, tst, allD, viewT, viewL, viewX, tyD, isiB, hName, hTup, hsCons, hsNil, iSeq, wipeS, sAsg, gLe, gLt, gGe, gGt, gSub, gI20, gIsN, gNotN, gNotB, newL, eCut, ePart, gCut, iZip2, sFor])
      unfold sRet eLst
      simp only [ha]
      simp [eV_app, startS, eIsi, eNot, eAnd, eOr, eChain, sRet, sSeq, sSet, sIf, sNx, sDrop, sRaise, sRetN, aCons, eB, eCall, eTup, eLst, eIf, bAnd, bOr, bNot, tst, allD, viewT, viewL, viewX, tyD, isiB, hName, hTup, hsCons, hsNil, iSeq, wipeS, sAsg, gLe, gLt, gGe, gGt, gSub, gI20, gIsN, gNotN, gNotB, newL, eCut, ePart, gCut, iZip2, sFor, finM, Dice.mo]
  by_cases h : (spot : Int) < ns.length
  · obtain ⟨x, hx, _⟩ := atI_lt (ds := ns) (by omega) h
    exact key x (by rw [if_pos h]; exact hx)
  · exact key _ (by rw [if_neg h])
end K03
end

section
set_option linter.all false
set_option maxRecDepth 100000
set_option maxHeartbeats 1000000
namespace K03
open PySem DL
/-- two sizes meet -/
def meet (p q : Int × Int) : Bool := decide (p.1 ≤ q.2) && decide (q.1 ≤ p.2)
theorem clash_pw : ∀ {qs : List (Int × Int)}, (∀ p ∈ qs, p.1 ≤ p.2) → (clashB qs = false ↔ qs.Pairwise fun p q => p.2 < q.1)
  | [], _ => by simp [eV_app, startS, eIsi, eNot, eAnd, eOr, eChain, sRet, sSeq, sSet, sIf, sNx, sDrop, sRaise, sRetN, aCons, eB, eCall, eTup, eLst, eIf, bAnd, bOr, bNot, tst, allD, viewT, viewL, viewX, tyD, isiB, hName, hTup, hsCons, hsNil, iSeq, wipeS, sAsg, gLe, gLt, gGe, gGt, gSub, gI20, gIsN, gNotN, gNotB, newL, eCut, ePart, gCut, iZip2, sFor, clashB]
  | [x], _ => by simp [eV_app, startS, eIsi, eNot, eAnd, eOr, eChain, sRet, sSeq, sSet, sIf, sNx, sDrop, sRaise, sRetN, aCons, eB, eCall, eTup, eLst, eIf, bAnd, bOr, bNot, tst, allD, viewT, viewL, viewX, tyD, isiB, hName, hTup, hsCons, hsNil, iSeq, wipeS, sAsg, gLe, gLt, gGe, gGt, gSub, gI20, gIsN, gNotN, gNotB, newL, eCut, ePart, gCut, iZip2, sFor, clashB]
  | x :: y :: r, h => by
    have ih := clash_pw (qs := y :: r) fun p hp => h p (List.mem_cons_of_mem _ hp)
    have e : clashB (x :: y :: r) = (decide (y.1 ≤ x.2) || clashB (y :: r)) := by simp [eV_app, startS, eIsi, eNot, eAnd, eOr, eChain, sRet, sSeq, sSet, sIf, sNx, sDrop, sRaise, sRetN, aCons, eB, eCall, eTup, eLst, eIf, bAnd, bOr, bNot, tst, allD, viewT, viewL, viewX, tyD, isiB, hName, hTup, hsCons, hsNil, iSeq, wipeS, sAsg, gLe, gLt, gGe, gGt, gSub, gI20, gIsN, gNotN, gNotB, newL, eCut, ePart, gCut, iZip2, sFor, clashB]
    rw [e, Bool.or_eq_false_iff, decide_eq_false_iff_not, ih]
    constructor
    · intro ⟨h1, h2⟩
      refine List.pairwise_cons.mpr ⟨fun z hz => ?_, h2⟩
      rcases List.mem_cons.mp hz with rfl | hz
      · omega
      · have := (List.pairwise_cons.mp h2).1 z hz
        have := h y (by simp [eV_app, startS, eIsi, eNot, eAnd, eOr, eChain, sRet, sSeq, sSet, sIf, sNx, sDrop, sRaise, sRetN, aCons, eB, eCall, eTup, eLst, eIf, bAnd, bOr, bNot, tst, allD, viewT, viewL, viewX, tyD, isiB, hName, hTup, hsCons, hsNil, iSeq, wipeS, sAsg, gLe, gLt, gGe, gGt, gSub, gI20, gIsN, gNotN, gNotB, newL, eCut, ePart, gCut, iZip2, sFor])
        omega
    · intro h'
      obtain ⟨h1, h2⟩ := List.pairwise_cons.mp h'
      have := h1 y List.mem_cons_self
      exact ⟨by omega, h2⟩
theorem meet_symm {p q : Int × Int} : meet p q = meet q p := by unfold meet; rw [Bool.and_comm]
theorem sorted_meet {ps : List (Int × Int)} (hv : ∀ p ∈ ps, p.1 ≤ p.2) : (sortP ps).Pairwise (fun p q => p.2 < q.1) ↔ ps.Pairwise (fun p q => meet p q = false) := by
  have hv' : ∀ p ∈ sortP ps, p.1 ≤ p.2 := fun p hp => hv p ((sortP_perm ps).mem_iff.mp hp)
  have hp : ps.Pairwise (fun p q => meet p q = false) ↔ (sortP ps).Pairwise (fun p q => meet p q = false) := (List.Perm.pairwise_iff (fun {x y} h => by rw [meet_symm]; exact h) (sortP_perm ps)).symm
  rw [hp]
  constructor
  · intro h
    refine h.imp_of_mem fun {a b} ha hb h => ?_
    unfold meet
    simp [eV_app, startS, eIsi, eNot, eAnd, eOr, eChain, sRet, sSeq, sSet, sIf, sNx, sDrop, sRaise, sRetN, aCons, eB, eCall, eTup, eLst, eIf, bAnd, bOr, bNot, tst, allD, viewT, viewL, viewX, tyD, isiB, hName, hTup, hsCons, hsNil, iSeq, wipeS, sAsg, gLe, gLt, gGe, gGt, gSub, gI20, gIsN, gNotN, gNotB, newL, eCut, ePart, gCut, iZip2, sFor]; omega
  · intro h
    refine (h.and (sortP_sorted ps)).imp_of_mem fun {a b} ha hb h => ?_
    obtain ⟨h1, h2⟩ := h
    have := hv' a ha
    have := hv' b hb
    rw [leP_iff] at h2
    unfold meet at h1
    simp [eV_app, startS, eIsi, eNot, eAnd, eOr, eChain, sRet, sSeq, sSet, sIf, sNx, sDrop, sRaise, sRetN, aCons, eB, eCall, eTup, eLst, eIf, bAnd, bOr, bNot, tst, allD, viewT, viewL, viewX, tyD, isiB, hName, hTup, hsCons, hsNil, iSeq, wipeS, sAsg, gLe, gLt, gGe, gGt, gSub, gI20, gIsN, gNotN, gNotB, newL, eCut, ePart, gCut, iZip2, sFor] at h1
    omega
/-- the clashes, as the law lists them -/
def clashes (ps : List (Int × Int)) (one : Int) : List Int := (rgI 0 one).filter fun two => match ps[one.toNat]?, ps[two.toNat]? with
  | some p, some q => decide (p.1 ≤ q.2) && decide (q.1 ≤ p.2)
  | _, _ => false
def clashL (ps : List (Int × Int)) (k : Int) : List Int := ((rgI 0 k).map (clashes ps)).flatten
theorem clashL_nil {ps : List (Int × Int)} : clashL ps ps.length = [] ↔ ps.Pairwise fun p q => meet p q = false := by
  rw [List.pairwise_iff_getElem]
  unfold clashL
  rw [List.flatten_eq_nil_iff]
  constructor
  · intro h i j hi hj hij
    have h1 := h (clashes ps j) (List.mem_map.mpr ⟨j, mem_rgI.mpr (by omega), rfl⟩)
    unfold clashes at h1
    rw [List.filter_eq_nil_iff] at h1
    have h2 := h1 i (mem_rgI.mpr (by omega))
    simp only [Int.toNat_natCast, List.getElem?_eq_getElem hi, List.getElem?_eq_getElem hj, Bool.not_eq_true] at h2
    rw [meet_symm]; exact h2
  · intro h l hl
    obtain ⟨one, ho, rfl⟩ := List.mem_map.mp hl
    rw [mem_rgI] at ho
    unfold clashes
    rw [List.filter_eq_nil_iff]
    intro two ht
    rw [mem_rgI] at ht
    have := h two.toNat one.toNat (by omega) (by omega) (by omega)
    rw [meet_symm] at this
    rw [List.getElem?_eq_getElem (show one.toNat < ps.length by omega), List.getElem?_eq_getElem (show two.toNat < ps.length by omega)]
    simp only [Bool.not_eq_true]
    exact this
theorem clash_iff {ps : List (Int × Int)} (hv : ∀ p ∈ ps, p.1 ≤ p.2) : clashB (sortP ps) = false ↔ clashL ps ps.length = [] := by
  rw [clash_pw (fun p hp => hv p ((sortP_perm ps).mem_iff.mp hp)), sorted_meet hv, clashL_nil]
/-! ### what parted finds fits -/
theorem hole_bounds {qs : List (Int × Int)} (h : qs.Pairwise fun p q => p.2 < q.1) (hv : ∀ p ∈ qs, p.1 ≤ p.2) : ∀ (i : Nat) (q : Int × Int), qs[i]? = some q → ∀ w, q.1 ≤ w → w ≤ q.2 → ∀ m, i ≤ m → hole ((qs.take m).map (·.2)) w = i := by
  induction qs with
  | nil => intro i q hq; simp [eV_app, startS, eIsi, eNot, eAnd, eOr, eChain, sRet, sSeq, sSet, sIf, sNx, sDrop, sRaise, sRetN, aCons, eB, eCall, eTup, eLst, eIf, bAnd, bOr, bNot, tst, allD, viewT, viewL, viewX, tyD, isiB, hName, hTup, hsCons, hsNil, iSeq, wipeS, sAsg, gLe, gLt, gGe, gGt, gSub, gI20, gIsN, gNotN, gNotB, newL, eCut, ePart, gCut, iZip2, sFor] at hq
  | cons x qs ih =>
    obtain ⟨h1, h2⟩ := List.pairwise_cons.mp h
    have ih := ih h2 fun p hp => hv p (List.mem_cons_of_mem _ hp)
    intro i q hq w hw1 hw2 m hm
    cases i with
    | zero =>
      simp [eV_app, startS, eIsi, eNot, eAnd, eOr, eChain, sRet, sSeq, sSet, sIf, sNx, sDrop, sRaise, sRetN, aCons, eB, eCall, eTup, eLst, eIf, bAnd, bOr, bNot, tst, allD, viewT, viewL, viewX, tyD, isiB, hName, hTup, hsCons, hsNil, iSeq, wipeS, sAsg, gLe, gLt, gGe, gGt, gSub, gI20, gIsN, gNotN, gNotB, newL, eCut, ePart, gCut, iZip2, sFor] at hq; subst hq
      unfold hole
      rw [List.length_eq_zero_iff, List.filter_eq_nil_iff]
      intro y hy
      obtain ⟨z, hz, rfl⟩ := List.mem_map.mp hy
      have hz := List.mem_of_mem_take hz
      rcases List.mem_cons.mp hz with rfl | hz
      · simp [eV_app, startS, eIsi, eNot, eAnd, eOr, eChain, sRet, sSeq, sSet, sIf, sNx, sDrop, sRaise, sRetN, aCons, eB, eCall, eTup, eLst, eIf, bAnd, bOr, bNot, tst, allD, viewT, viewL, viewX, tyD, isiB, hName, hTup, hsCons, hsNil, iSeq, wipeS, sAsg, gLe, gLt, gGe, gGt, gSub, gI20, gIsN, gNotN, gNotB, newL, eCut, ePart, gCut, iZip2, sFor]; omega
      · have := h1 z hz
        have := hv z (List.mem_cons_of_mem _ hz)
        simp [eV_app, startS, eIsi, eNot, eAnd, eOr, eChain, sRet, sSeq, sSet, sIf, sNx, sDrop, sRaise, sRetN, aCons, eB, eCall, eTup, eLst, eIf, bAnd, bOr, bNot, tst, allD, viewT, viewL, viewX, tyD, isiB, hName, hTup, hsCons, hsNil, iSeq, wipeS, sAsg, gLe, gLt, gGe, gGt, gSub, gI20, gIsN, gNotN, gNotB, newL, eCut, ePart, gCut, iZip2, sFor]; omega
    | succ i =>
      cases m with
      | zero => omega
      | succ m =>
        have hq : qs[i]? = some q := by simpa [eV_app, startS, eIsi, eNot, eAnd, eOr, eChain, sRet, sSeq, sSet, sIf, sNx, sDrop, sRaise, sRetN, aCons, eB, eCall, eTup, eLst, eIf, bAnd, bOr, bNot, tst, allD, viewT, viewL, viewX, tyD, isiB, hName, hTup, hsCons, hsNil, iSeq, wipeS, sAsg, gLe, gLt, gGe, gGt, gSub, gI20, gIsN, gNotN, gNotB, newL, eCut, ePart, gCut, iZip2, sFor] using hq
        have := ih i q hq w hw1 hw2 m (by omega)
        have hx := h1 q (List.mem_of_getElem? hq)
        unfold hole at this ⊢
        rw [List.take_succ_cons, List.map_cons, List.filter_cons, if_pos (by simp [eV_app, startS, eIsi, eNot, eAnd, eOr, eChain, sRet, sSeq, sSet, sIf, sNx, sDrop, sRaise, sRetN, aCons, eB, eCall, eTup, eLst, eIf, bAnd, bOr, bNot, tst, allD, viewT, viewL, viewX, tyD, isiB, hName, hTup, hsCons, hsNil, iSeq, wipeS, sAsg, gLe, gLt, gGe, gGt, gSub, gI20, gIsN, gNotN, gNotB, newL, eCut, ePart, gCut, iZip2, sFor]; omega), List.length_cons, this]
theorem takes_one {ws : List Int} {q : Int × Int} {i : Nat} (h1 : hole ws q.1 = i) (h2 : hole ws q.2 = i) : takes ws q = [(i : Int)] := by
  unfold takes
  rw [h1, h2]
  unfold rgI
  rw [show ((i : Int) + 1 - i).toNat = 1 by omega]
  simp [eV_app, startS, eIsi, eNot, eAnd, eOr, eChain, sRet, sSeq, sSet, sIf, sNx, sDrop, sRaise, sRetN, aCons, eB, eCall, eTup, eLst, eIf, bAnd, bOr, bNot, tst, allD, viewT, viewL, viewX, tyD, isiB, hName, hTup, hsCons, hsNil, iSeq, wipeS, sAsg, gLe, gLt, gGe, gGt, gSub, gI20, gIsN, gNotN, gNotB, newL, eCut, ePart, gCut, iZip2, sFor]
theorem dedI_same {ns : List Int} (h : ns.Nodup) : (dedI ns).length = ns.length := nodup_len (dedI_nodup ns) h (dedI_mem ns)
/-- the widths that parted finds -/
def foundW (ps : List (Int × Int)) : List Int := if 1 < ps.length then (sortP ps).dropLast.map (·.2) else [1000]
theorem found_fit {ps : List (Int × Int)} (hs : SzOk ps) (hc : clashB (sortP ps) = false) : isPartB ps (tupI (foundW ps)) = true ∧ (foundW ps).length = max 1 (ps.length - 1) ∧ widthsB (tupI (foundW ps)) = true := by
  obtain ⟨s1, s2, s3⟩ := hs
  have hm : ∀ p, p ∈ sortP ps → 1 ≤ p.1 ∧ p.1 ≤ p.2 ∧ p.2 ≤ 1000 := fun p hp => s3 p ((sortP_perm ps).mem_iff.mp hp)
  have hv : ∀ p ∈ sortP ps, p.1 ≤ p.2 := fun p hp => (hm p hp).2.1
  have hl : (sortP ps).length = ps.length := (sortP_perm ps).length_eq
  have hpw := (clash_pw hv).mp hc
  have hlen : (foundW ps).length = max 1 (ps.length - 1) := by
    unfold foundW
    by_cases h : 1 < ps.length
    · rw [if_pos h]; simp [eV_app, startS, eIsi, eNot, eAnd, eOr, eChain, sRet, sSeq, sSet, sIf, sNx, sDrop, sRaise, sRetN, aCons, eB, eCall, eTup, eLst, eIf, bAnd, bOr, bNot, tst, allD, viewT, viewL, viewX, tyD, isiB, hName, hTup, hsCons, hsNil, iSeq, wipeS, sAsg, gLe, gLt, gGe, gGt, gSub, gI20, gIsN, gNotN, gNotB, newL, eCut, ePart, gCut, iZip2, sFor, hl]; omega
    · rw [if_neg h]; simp [eV_app, startS, eIsi, eNot, eAnd, eOr, eChain, sRet, sSeq, sSet, sIf, sNx, sDrop, sRaise, sRetN, aCons, eB, eCall, eTup, eLst, eIf, bAnd, bOr, bNot, tst, allD, viewT, viewL, viewX, tyD, isiB, hName, hTup, hsCons, hsNil, iSeq, wipeS, sAsg, gLe, gLt, gGe, gGt, gSub, gI20, gIsN, gNotN, gNotB, newL, eCut, ePart, gCut, iZip2, sFor]; omega
  have hw : widthsB (tupI (foundW ps)) = true := by
    refine widths_of (by omega) (by omega) ?_ ?_
    · unfold foundW
      split
      · rw [List.pairwise_map]
        refine (hpw.sublist (List.dropLast_sublist _)).imp_of_mem fun {a b} ha hb h => ?_
        have := hv b (List.dropLast_subset _ hb)
        omega
      · simp [eV_app, startS, eIsi, eNot, eAnd, eOr, eChain, sRet, sSeq, sSet, sIf, sNx, sDrop, sRaise, sRetN, aCons, eB, eCall, eTup, eLst, eIf, bAnd, bOr, bNot, tst, allD, viewT, viewL, viewX, tyD, isiB, hName, hTup, hsCons, hsNil, iSeq, wipeS, sAsg, gLe, gLt, gGe, gGt, gSub, gI20, gIsN, gNotN, gNotB, newL, eCut, ePart, gCut, iZip2, sFor]
    · unfold foundW
      intro x hx
      split at hx
      · obtain ⟨p, hp, rfl⟩ := List.mem_map.mp hx
        have := hm p (List.dropLast_subset _ hp)
        omega
      · simp [eV_app, startS, eIsi, eNot, eAnd, eOr, eChain, sRet, sSeq, sSet, sIf, sNx, sDrop, sRaise, sRetN, aCons, eB, eCall, eTup, eLst, eIf, bAnd, bOr, bNot, tst, allD, viewT, viewL, viewX, tyD, isiB, hName, hTup, hsCons, hsNil, iSeq, wipeS, sAsg, gLe, gLt, gGe, gGt, gSub, gI20, gIsN, gNotN, gNotB, newL, eCut, ePart, gCut, iZip2, sFor] at hx; omega
  have hole_at : ∀ (i : Nat) q, (sortP ps)[i]? = some q → ∀ w, q.1 ≤ w → w ≤ q.2 → hole (foundW ps) w = i := fun i q hq w h1 h2 => by
    have hi : i < (sortP ps).length := (List.getElem?_eq_some_iff.mp hq).1
    unfold foundW
    by_cases h : 1 < ps.length
    · rw [if_pos h, List.dropLast_eq_take]
      exact hole_bounds hpw hv i q hq w h1 h2 _ (by omega)
    · rw [if_neg h]
      have : i = 0 := by omega
      subst this
      have := hm q (List.mem_of_getElem? hq)
      unfold hole
      rw [List.length_eq_zero_iff, List.filter_eq_nil_iff]
      intro y hy
      simp [eV_app, startS, eIsi, eNot, eAnd, eOr, eChain, sRet, sSeq, sSet, sIf, sNx, sDrop, sRaise, sRetN, aCons, eB, eCall, eTup, eLst, eIf, bAnd, bOr, bNot, tst, allD, viewT, viewL, viewX, tyD, isiB, hName, hTup, hsCons, hsNil, iSeq, wipeS, sAsg, gLe, gLt, gGe, gGt, gSub, gI20, gIsN, gNotN, gNotB, newL, eCut, ePart, gCut, iZip2, sFor] at hy
      simp [eV_app, startS, eIsi, eNot, eAnd, eOr, eChain, sRet, sSeq, sSet, sIf, sNx, sDrop, sRaise, sRetN, aCons, eB, eCall, eTup, eLst, eIf, bAnd, bOr, bNot, tst, allD, viewT, viewL, viewX, tyD, isiB, hName, hTup, hsCons, hsNil, iSeq, wipeS, sAsg, gLe, gLt, gGe, gGt, gSub, gI20, gIsN, gNotN, gNotB, newL, eCut, ePart, gCut, iZip2, sFor]; omega
  have hfit : (slotsOf (foundW ps) ps).Nodup := by
    have hp : (slotsOf (foundW ps) ps).Perm (slotsOf (foundW ps) (sortP ps)) := ((sortP_perm ps).symm.map _).flatten
    rw [hp.nodup_iff]
    have e : slotsOf (foundW ps) (sortP ps) = (List.range (sortP ps).length).map fun i : Nat => (i : Int) := by
      unfold slotsOf
      have : (sortP ps).map (takes (foundW ps)) = ((List.range (sortP ps).length).map fun i : Nat => [(i : Int)]) := by
        apply List.ext_getElem?
        intro i
        rw [List.getElem?_map, List.getElem?_map]
        by_cases hi : i < (sortP ps).length
        · have hq := List.getElem?_eq_getElem hi
          have hin := hm _ (List.getElem_mem hi)
          rw [hq, List.getElem?_range hi]
          simp only [Option.map_some]
          rw [takes_one (hole_at i _ hq _ (by omega) (by omega)) (hole_at i _ hq _ (by omega) (by omega))]
        · rw [List.getElem?_eq_none (by omega), List.getElem?_eq_none (by simp [eV_app, startS, eIsi, eNot, eAnd, eOr, eChain, sRet, sSeq, sSet, sIf, sNx, sDrop, sRaise, sRetN, aCons, eB, eCall, eTup, eLst, eIf, bAnd, bOr, bNot, tst, allD, viewT, viewL, viewX, tyD, isiB, hName, hTup, hsCons, hsNil, iSeq, wipeS, sAsg, gLe, gLt, gGe, gGt, gSub, gI20, gIsN, gNotN, gNotB, newL, eCut, ePart, gCut, iZip2, sFor]; omega)]
          rfl
      rw [this]
      generalize List.range (sortP ps).length = l
      induction l with
      | nil => rfl
      | cons a l ih => rw [List.map_cons, List.flatten_cons, ih, List.map_cons]; rfl
    rw [e]
    exact List.Pairwise.map _ (fun a b h => by omega) (List.nodup_range (n := (sortP ps).length))
  refine ⟨?_, hlen, hw⟩
  unfold isPartB
  rw [hw]
  simp only [tupI, allInts_map, Bool.true_and, fitB, dedI_same hfit, beq_self_eq_true]
theorem partedR_eq (ps : List (Int × Int)) : partedR ps = if clashB (sortP ps) then .non else tupI (foundW ps) := by
  unfold partedR foundW
  split
  · rfl
  · split <;> rfl
end K03
end

section
set_option linter.all false
set_option maxRecDepth 100000
set_option maxHeartbeats 1000000
namespace K03
open PySem DL
theorem sSeq_nx {a b : SF} {ρ ρ1 : List S} {μ μ1 : List MO} {r : Option SR} (h1 : a ρ μ = some (.nx ρ1 μ1)) (h2 : b ρ1 μ1 = r) : sSeq a b ρ μ = r := by
  unfold sSeq; rw [h1]; exact h2
theorem sSet_ok {k : Nat} {e : EF} {ρ : List S} {μ μ1 : List MO} {s : S} (h : e ρ μ = some (.ok s μ1)) : sSet k e ρ μ = some (.nx (ρ.set k s) μ1) := by
  unfold sSet; rw [h]
mutual
theorem eqvD_refl : ∀ (n : Nat) (d : D), okD n d = true → eqvD d d = true
  | n, .non, _ => rfl
  | n, .bl b, _ => by simp [eV_app, startS, eIsi, eNot, eAnd, eOr, eChain, sRet, sSeq, sSet, sIf, sNx, sDrop, sRaise, sRetN, aCons, eB, eCall, eTup, eLst, eIf, bAnd, bOr, bNot, tst, allD, viewT, viewL, viewX, tyD, isiB, hName, hTup, hsCons, hsNil, iSeq, wipeS, sAsg, gLe, gLt, gGe, gGt, gSub, gI20, gIsN, gNotN, gNotB, newL, eCut, ePart, gCut, iZip2, sFor, eqvD]
  | n, .int b, _ => by simp [eV_app, startS, eIsi, eNot, eAnd, eOr, eChain, sRet, sSeq, sSet, sIf, sNx, sDrop, sRaise, sRetN, aCons, eB, eCall, eTup, eLst, eIf, bAnd, bOr, bNot, tst, allD, viewT, viewL, viewX, tyD, isiB, hName, hTup, hsCons, hsNil, iSeq, wipeS, sAsg, gLe, gLt, gGe, gGt, gSub, gI20, gIsN, gNotN, gNotB, newL, eCut, ePart, gCut, iZip2, sFor, eqvD]
  | n, .str b, _ => by simp [eV_app, startS, eIsi, eNot, eAnd, eOr, eChain, sRet, sSeq, sSet, sIf, sNx, sDrop, sRaise, sRetN, aCons, eB, eCall, eTup, eLst, eIf, bAnd, bOr, bNot, tst, allD, viewT, viewL, viewX, tyD, isiB, hName, hTup, hsCons, hsNil, iSeq, wipeS, sAsg, gLe, gLt, gGe, gGt, gSub, gI20, gIsN, gNotN, gNotB, newL, eCut, ePart, gCut, iZip2, sFor, eqvD]
  | 0, .tup _, h => by simp [eV_app, startS, eIsi, eNot, eAnd, eOr, eChain, sRet, sSeq, sSet, sIf, sNx, sDrop, sRaise, sRetN, aCons, eB, eCall, eTup, eLst, eIf, bAnd, bOr, bNot, tst, allD, viewT, viewL, viewX, tyD, isiB, hName, hTup, hsCons, hsNil, iSeq, wipeS, sAsg, gLe, gLt, gGe, gGt, gSub, gI20, gIsN, gNotN, gNotB, newL, eCut, ePart, gCut, iZip2, sFor, okD] at h
  | 0, .lst _, h => by simp [eV_app, startS, eIsi, eNot, eAnd, eOr, eChain, sRet, sSeq, sSet, sIf, sNx, sDrop, sRaise, sRetN, aCons, eB, eCall, eTup, eLst, eIf, bAnd, bOr, bNot, tst, allD, viewT, viewL, viewX, tyD, isiB, hName, hTup, hsCons, hsNil, iSeq, wipeS, sAsg, gLe, gLt, gGe, gGt, gSub, gI20, gIsN, gNotN, gNotB, newL, eCut, ePart, gCut, iZip2, sFor, okD] at h
  | n + 1, .tup ds, h => by simp only [eqvD]; exact eqvDs_refl n ds (by simpa [eV_app, startS, eIsi, eNot, eAnd, eOr, eChain, sRet, sSeq, sSet, sIf, sNx, sDrop, sRaise, sRetN, aCons, eB, eCall, eTup, eLst, eIf, bAnd, bOr, bNot, tst, allD, viewT, viewL, viewX, tyD, isiB, hName, hTup, hsCons, hsNil, iSeq, wipeS, sAsg, gLe, gLt, gGe, gGt, gSub, gI20, gIsN, gNotN, gNotB, newL, eCut, ePart, gCut, iZip2, sFor, okD] using h)
  | n + 1, .lst ds, h => by simp only [eqvD]; exact eqvDs_refl n ds (by simpa [eV_app, startS, eIsi, eNot, eAnd, eOr, eChain, sRet, sSeq, sSet, sIf, sNx, sDrop, sRaise, sRetN, aCons, eB, eCall, eTup, eLst, eIf, bAnd, bOr, bNot, tst, allD, viewT, viewL, viewX, tyD, isiB, hName, hTup, hsCons, hsNil, iSeq, wipeS, sAsg, gLe, gLt, gGe, gGt, gSub, gI20, gIsN, gNotN, gNotB, newL, eCut, ePart, gCut, iZip2, sFor, okD] using h)
  | n, .dct _, h => by cases n <;> simp [eV_app, startS, eIsi, eNot, eAnd, eOr, eChain, sRet, sSeq, sSet, sIf, sNx, sDrop, sRaise, sRetN, aCons, eB, eCall, eTup, eLst, eIf, bAnd, bOr, bNot, tst, allD, viewT, viewL, viewX, tyD, isiB, hName, hTup, hsCons, hsNil, iSeq, wipeS, sAsg, gLe, gLt, gGe, gGt, gSub, gI20, gIsN, gNotN, gNotB, newL, eCut, ePart, gCut, iZip2, sFor, okD] at h
  | n, .scr _, h => by cases n <;> simp [eV_app, startS, eIsi, eNot, eAnd, eOr, eChain, sRet, sSeq, sSet, sIf, sNx, sDrop, sRaise, sRetN, aCons, eB, eCall, eTup, eLst, eIf, bAnd, bOr, bNot, tst, allD, viewT, viewL, viewX, tyD, isiB, hName, hTup, hsCons, hsNil, iSeq, wipeS, sAsg, gLe, gLt, gGe, gGt, gSub, gI20, gIsN, gNotN, gNotB, newL, eCut, ePart, gCut, iZip2, sFor, okD] at h
theorem eqvDs_refl : ∀ (n : Nat) (ds : List D), okDs n ds = true → eqvDs ds ds = true
  | _, [], _ => rfl
  | n, d :: ds, h => by
    have h : okD n d = true ∧ okDs n ds = true := by simpa [eV_app, startS, eIsi, eNot, eAnd, eOr, eChain, sRet, sSeq, sSet, sIf, sNx, sDrop, sRaise, sRetN, aCons, eB, eCall, eTup, eLst, eIf, bAnd, bOr, bNot, tst, allD, viewT, viewL, viewX, tyD, isiB, hName, hTup, hsCons, hsNil, iSeq, wipeS, sAsg, gLe, gLt, gGe, gGt, gSub, gI20, gIsN, gNotN, gNotB, newL, eCut, ePart, gCut, iZip2, sFor, okDs] using h
    simp only [eqvDs, eqvD_refl n d h.1, eqvDs_refl n ds h.2, Bool.and_self]
end
theorem gNe_same {x : D} {μ : List MO} (h : okD 20 x = true) : gNe (.d x) (.d x) μ = some (.ok (.d (.bl false)) μ) := by
  simp [eV_app, startS, eIsi, eNot, eAnd, eOr, eChain, sRet, sSeq, sSet, sIf, sNx, sDrop, sRaise, sRetN, aCons, eB, eCall, eTup, eLst, eIf, bAnd, bOr, bNot, tst, allD, viewT, viewL, viewX, tyD, isiB, hName, hTup, hsCons, hsNil, iSeq, wipeS, sAsg, gLe, gLt, gGe, gGt, gSub, gI20, gIsN, gNotN, gNotB, newL, eCut, ePart, gCut, iZip2, sFor, gNe, toD, h, eqvD_refl 20 x h]
theorem gEq_same {x : D} {μ : List MO} (h : okD 20 x = true) : gEq (.d x) (.d x) μ = some (.ok (.d (.bl true)) μ) := by
  simp [eV_app, startS, eIsi, eNot, eAnd, eOr, eChain, sRet, sSeq, sSet, sIf, sNx, sDrop, sRaise, sRetN, aCons, eB, eCall, eTup, eLst, eIf, bAnd, bOr, bNot, tst, allD, viewT, viewL, viewX, tyD, isiB, hName, hTup, hsCons, hsNil, iSeq, wipeS, sAsg, gLe, gLt, gGe, gGt, gSub, gI20, gIsN, gNotN, gNotB, newL, eCut, ePart, gCut, iZip2, sFor, gEq, toD, h, eqvD_refl 20 x h]
theorem gNe_bl {x y : Bool} {μ : List MO} : gNe (.d (.bl x)) (.d (.bl y)) μ = some (.ok (.d (.bl (x != y))) μ) := by
  cases x <;> cases y <;> rfl
theorem gEq_bl {x y : Bool} {μ : List MO} : gEq (.d (.bl x)) (.d (.bl y)) μ = some (.ok (.d (.bl (x == y))) μ) := by
  cases x <;> cases y <;> rfl
theorem eLc_st {α β : Type} {vs : List Nat} {fi : IF} {h : TF} {e : EF} {ρ : List S} {μ : List MO} (M : β → List MO) (I : Nat → β → Prop) (it : α → D) (G : α → D → Prop) (xs : List α) (k : Nat) (b : β) (hI : I k b) (hi : fi ρ μ = some (.ok (xs.map it) (M b))) (hl : xs.length ≤ cap)
    (hx : ∀ x ∈ xs, ∀ (j : Nat) (b : β), k ≤ j → j < k + xs.length → I j b → ∃ ρ1 y b', h (it x) (wipeS ρ vs) = some ρ1 ∧ e ρ1 (M b) = some (.ok (.d y) (M b')) ∧ G x y ∧ I (j + 1) b') :
    ∃ ys b', eLc false vs fi h bYes e ρ μ = some (.ok (.d (.lst ys)) (M b')) ∧ I (k + xs.length) b' ∧ ys.length = xs.length ∧ ∀ (i : Nat) x y, xs[i]? = some x → ys[i]? = some y → G x y := by
  obtain ⟨ys, b', e1, e2, e3, e4⟩ := lcF_state M I it G xs [] k b hI hx
  refine ⟨ys, b', ?_, e2, e3, e4⟩
  unfold eLc
  simp only [hi, List.length_map, if_pos hl, e1, List.nil_append]
  rfl
theorem pairs_of_all {P : Int × Int → Prop} : ∀ {ys : List D}, (∀ y ∈ ys, ∃ p, y = pairD p ∧ P p) → ∃ ps : List (Int × Int), ys = ps.map pairD ∧ ∀ p ∈ ps, P p
  | [], _ => ⟨[], rfl, by simp [eV_app, startS, eIsi, eNot, eAnd, eOr, eChain, sRet, sSeq, sSet, sIf, sNx, sDrop, sRaise, sRetN, aCons, eB, eCall, eTup, eLst, eIf, bAnd, bOr, bNot, tst, allD, viewT, viewL, viewX, tyD, isiB, hName, hTup, hsCons, hsNil, iSeq, wipeS, sAsg, gLe, gLt, gGe, gGt, gSub, gI20, gIsN, gNotN, gNotB, newL, eCut, ePart, gCut, iZip2, sFor]⟩
  | y :: ys, h => by
    obtain ⟨z, rfl, h1⟩ := h y List.mem_cons_self
    obtain ⟨ns, rfl, hn⟩ := pairs_of_all fun w hw => h w (List.mem_cons_of_mem _ hw)
    refine ⟨z :: ns, rfl, fun w hw => ?_⟩
    rcases List.mem_cons.mp hw with rfl | hw
    · exact h1
    · exact hn w hw
theorem hole_mono : ∀ (ws : List Int) {a b : Int}, a ≤ b → hole ws a ≤ hole ws b
  | [], _, _, _ => Nat.le_refl _
  | x :: ws, a, b, h => by
    have ih := hole_mono ws h
    unfold hole at ih ⊢
    rw [List.filter_cons, List.filter_cons]
    by_cases h1 : x < a
    · rw [if_pos (by simpa [eV_app, startS, eIsi, eNot, eAnd, eOr, eChain, sRet, sSeq, sSet, sIf, sNx, sDrop, sRaise, sRetN, aCons, eB, eCall, eTup, eLst, eIf, bAnd, bOr, bNot, tst, allD, viewT, viewL, viewX, tyD, isiB, hName, hTup, hsCons, hsNil, iSeq, wipeS, sAsg, gLe, gLt, gGe, gGt, gSub, gI20, gIsN, gNotN, gNotB, newL, eCut, ePart, gCut, iZip2, sFor] using h1), if_pos (by simp [eV_app, startS, eIsi, eNot, eAnd, eOr, eChain, sRet, sSeq, sSet, sIf, sNx, sDrop, sRaise, sRetN, aCons, eB, eCall, eTup, eLst, eIf, bAnd, bOr, bNot, tst, allD, viewT, viewL, viewX, tyD, isiB, hName, hTup, hsCons, hsNil, iSeq, wipeS, sAsg, gLe, gLt, gGe, gGt, gSub, gI20, gIsN, gNotN, gNotB, newL, eCut, ePart, gCut, iZip2, sFor]; omega), List.length_cons, List.length_cons]; omega
    · rw [if_neg (by simpa [eV_app, startS, eIsi, eNot, eAnd, eOr, eChain, sRet, sSeq, sSet, sIf, sNx, sDrop, sRaise, sRetN, aCons, eB, eCall, eTup, eLst, eIf, bAnd, bOr, bNot, tst, allD, viewT, viewL, viewX, tyD, isiB, hName, hTup, hsCons, hsNil, iSeq, wipeS, sAsg, gLe, gLt, gGe, gGt, gSub, gI20, gIsN, gNotN, gNotB, newL, eCut, ePart, gCut, iZip2, sFor] using h1)]
      split
      · rw [List.length_cons]; omega
      · exact ih
section
variable {M : Dice → List MO} {i : Nat} (hM : Sto M i)
include hM
/-- the sizes -/
theorem r_sizes {N : Nat} {d : Dice} {far : Int} {c : List S} (hd : d.Ok N) (hN : N + 100 < 1000000) (h1 : 0 < far) (h2 : far ≤ 990) : ∃ ps e, (eB (gTup) (aCons (eLc false [3] (iRg none (e2 (gAdd false) (eC (.int 1)) (eCall 2 g__law_roll (aCons (eV 0) (aCons (eC (.int 6)) aNil))))) (hName 3) bYes (eCall 2 g__law_size (aCons (eV 0) (aCons (eV 1) aNil)))) aNil)) (.m i :: .d (.int far) :: .un :: .un :: c) (M d) = some (.ok (.d (szD ps)) (M e)) ∧ SzOk ps ∧ e.Ok (N + 19) := by
  obtain ⟨r, d1, r1, r2, r3, r4⟩ := s_roll hM (t := 6) hd (by omega) (by omega) (by omega)
  have hk : (rgI 0 (1 + r)).length = (1 + r).toNat := by rw [rgI_length]; omega
  obtain ⟨ys, e, l1, l2, l3, l4⟩ := eLc_st (vs := [3]) (fi := iRg none (e2 (gAdd false) (eC (.int 1)) (eCall 2 g__law_roll (aCons (eV 0) (aCons (eC (.int 6)) aNil))))) (h := hName 3) (e := eCall 2 g__law_size (aCons (eV 0) (aCons (eV 1) aNil)))
    (ρ := .m i :: .d (.int far) :: .un :: .un :: c) (μ := M d) M (fun k e => e.Ok (N + 1 + 3 * k)) D.int (fun _ y => ∃ p, y = pairD p ∧ 1 ≤ p.1 ∧ p.1 ≤ p.2 ∧ p.2 ≤ 1000) (rgI 0 (1 + r)) 0 d1 r4 (by
      have : 0 ≤ 1 + r ∧ 1 + r ≤ 2 ^ 61 := by omega
      simp [eV_app, startS, eIsi, eNot, eAnd, eOr, eChain, sRet, sSeq, sSet, sIf, sNx, sDrop, sRaise, sRetN, aCons, eB, eCall, eTup, eLst, eIf, bAnd, bOr, bNot, tst, allD, viewT, viewL, viewX, tyD, isiB, hName, hTup, hsCons, hsNil, iSeq, wipeS, sAsg, gLe, gLt, gGe, gGt, gSub, gI20, gIsN, gNotN, gNotB, newL, eCut, ePart, gCut, iZip2, sFor, iRg, r1, gAdd]; omega) (by rw [hk]; unfold cap; omega) (fun x hx j b _ hj hI => by
      rw [hk] at hj
      obtain ⟨p, b', p1, p2, p3⟩ := s_size hM (far := far) hI (by omega) h1 h2
      refine ⟨_, pairD p, b', rfl, by simp [eV_app, startS, eIsi, eNot, eAnd, eOr, eChain, sRet, sSeq, sSet, sIf, sNx, sDrop, sRaise, sRetN, aCons, eB, eCall, eTup, eLst, eIf, bAnd, bOr, bNot, tst, allD, viewT, viewL, viewX, tyD, isiB, hName, hTup, hsCons, hsNil, iSeq, wipeS, sAsg, gLe, gLt, gGe, gGt, gSub, gI20, gIsN, gNotN, gNotB, newL, eCut, ePart, gCut, iZip2, sFor, p1], ⟨p, rfl, p2⟩, ?_⟩
      have : N + 1 + 3 * (j + 1) = N + 1 + 3 * j + 3 := by omega
      rw [this]; exact p3)
  obtain ⟨ps, rfl, hp⟩ := pairs_of_all (P := fun p => 1 ≤ p.1 ∧ p.1 ≤ p.2 ∧ p.2 ≤ 1000) fun y hy => (mem_G l3 l4 y hy).elim fun _ q => q.2
  rw [hk] at l2 l3
  refine ⟨ps, e, ?_, ⟨?_, ?_, hp⟩, ?_⟩
  · simp only [eB, aCons, l1, aNil]
    simp [eV_app, startS, eIsi, eNot, eAnd, eOr, eChain, sRet, sSeq, sSet, sIf, sNx, sDrop, sRaise, sRetN, aCons, eB, eCall, eTup, eLst, eIf, bAnd, bOr, bNot, tst, allD, viewT, viewL, viewX, tyD, isiB, hName, hTup, hsCons, hsNil, iSeq, wipeS, sAsg, gLe, gLt, gGe, gGt, gSub, gI20, gIsN, gNotN, gNotB, newL, eCut, ePart, gCut, iZip2, sFor, gTup]
  · simp [eV_app, startS, eIsi, eNot, eAnd, eOr, eChain, sRet, sSeq, sSet, sIf, sNx, sDrop, sRaise, sRetN, aCons, eB, eCall, eTup, eLst, eIf, bAnd, bOr, bNot, tst, allD, viewT, viewL, viewX, tyD, isiB, hName, hTup, hsCons, hsNil, iSeq, wipeS, sAsg, gLe, gLt, gGe, gGt, gSub, gI20, gIsN, gNotN, gNotB, newL, eCut, ePart, gCut, iZip2, sFor] at l3; omega
  · simp [eV_app, startS, eIsi, eNot, eAnd, eOr, eChain, sRet, sSeq, sSet, sIf, sNx, sDrop, sRaise, sRetN, aCons, eB, eCall, eTup, eLst, eIf, bAnd, bOr, bNot, tst, allD, viewT, viewL, viewX, tyD, isiB, hName, hTup, hsCons, hsNil, iSeq, wipeS, sAsg, gLe, gLt, gGe, gGt, gSub, gI20, gIsN, gNotN, gNotB, newL, eCut, ePart, gCut, iZip2, sFor] at l3; omega
  · obtain ⟨a1, a2, a3, a4, a5⟩ := l2
    exact ⟨a1, a2, a3, a4, by omega⟩
/-- the widths -/
theorem r_widths {N : Nat} {d : Dice} {far : Int} {sz s3 : S} {c : List S} (hd : d.Ok N) (hN : N + 100 < 1000000) (h1 : 0 < far) (h2 : far ≤ 990) : ∃ ws e, (eB (gTup) (aCons (eSortedSet false (eLc false [5] (iRg none (e2 (gAdd false) (eC (.int 1)) (eCall 2 g__law_roll (aCons (eV 0) (aCons (eC (.int 7)) aNil))))) (hName 5) bYes (e2 (gAdd false) (eC (.int 1)) (eCall 2 g__law_roll (aCons (eV 0) (aCons (eV 1) aNil)))))) aNil)) (.m i :: .d (.int far) :: sz :: s3 :: .un :: .un :: c) (M d) = some (.ok (.d (tupI ws)) (M e)) ∧ widthsB (tupI ws) = true ∧ e.Ok (N + 8) := by
  obtain ⟨r, d1, r1, r2, r3, r4⟩ := s_roll hM (t := 7) hd (by omega) (by omega) (by omega)
  have hk : (rgI 0 (1 + r)).length = (1 + r).toNat := by rw [rgI_length]; omega
  obtain ⟨ys, e, l1, l2, l3, l4⟩ := eLc_st (vs := [5]) (fi := iRg none (e2 (gAdd false) (eC (.int 1)) (eCall 2 g__law_roll (aCons (eV 0) (aCons (eC (.int 7)) aNil))))) (h := hName 5) (e := e2 (gAdd false) (eC (.int 1)) (eCall 2 g__law_roll (aCons (eV 0) (aCons (eV 1) aNil))))
    (ρ := .m i :: .d (.int far) :: sz :: s3 :: .un :: .un :: c) (μ := M d) M (fun k e => e.Ok (N + 1 + k)) D.int (fun _ y => ∃ p : Int, y = .int p ∧ 1 ≤ p ∧ p ≤ 1000) (rgI 0 (1 + r)) 0 d1 r4 (by
      simp [eV_app, startS, eIsi, eNot, eAnd, eOr, eChain, sRet, sSeq, sSet, sIf, sNx, sDrop, sRaise, sRetN, aCons, eB, eCall, eTup, eLst, eIf, bAnd, bOr, bNot, tst, allD, viewT, viewL, viewX, tyD, isiB, hName, hTup, hsCons, hsNil, iSeq, wipeS, sAsg, gLe, gLt, gGe, gGt, gSub, gI20, gIsN, gNotN, gNotB, newL, eCut, ePart, gCut, iZip2, sFor, iRg, r1, gAdd]; omega) (by rw [hk]; unfold cap; omega) (fun x hx j b _ hj hI => by
      rw [hk] at hj
      obtain ⟨p, b', p1, p2, p3, p4⟩ := s_roll hM (t := far) hI (by omega) (by omega) (by omega)
      exact ⟨_, .int (1 + p), b', rfl, by simp [eV_app, startS, eIsi, eNot, eAnd, eOr, eChain, sRet, sSeq, sSet, sIf, sNx, sDrop, sRaise, sRetN, aCons, eB, eCall, eTup, eLst, eIf, bAnd, bOr, bNot, tst, allD, viewT, viewL, viewX, tyD, isiB, hName, hTup, hsCons, hsNil, iSeq, wipeS, sAsg, gLe, gLt, gGe, gGt, gSub, gI20, gIsN, gNotN, gNotB, newL, eCut, ePart, gCut, iZip2, sFor, p1, gAdd], ⟨1 + p, rfl, by omega, by omega⟩, p4⟩)
  obtain ⟨ns, rfl, hp⟩ := ints_of_all (a := 1) (b := 1000) fun y hy => (mem_G l3 l4 y hy).elim fun _ q => q.2
  rw [hk] at l2 l3
  simp [eV_app, startS, eIsi, eNot, eAnd, eOr, eChain, sRet, sSeq, sSet, sIf, sNx, sDrop, sRaise, sRetN, aCons, eB, eCall, eTup, eLst, eIf, bAnd, bOr, bNot, tst, allD, viewT, viewL, viewX, tyD, isiB, hName, hTup, hsCons, hsNil, iSeq, wipeS, sAsg, gLe, gLt, gGe, gGt, gSub, gI20, gIsN, gNotN, gNotB, newL, eCut, ePart, gCut, iZip2, sFor] at l3
  have hded := dedI_len ns
  have hperm := sortI_perm (dedI ns)
  have hnd : (sortI (dedI ns)).Nodup := hperm.nodup_iff.mpr (dedI_nodup ns)
  have hmem : ∀ x ∈ sortI (dedI ns), 1 ≤ x ∧ x ≤ 1000 := fun x hx => hp x ((dedI_mem ns x).mp (hperm.mem_iff.mp hx))
  have hpos : 1 ≤ (dedI ns).length := by
    cases hns : ns with
    | nil => rw [hns] at l3; simp [eV_app, startS, eIsi, eNot, eAnd, eOr, eChain, sRet, sSeq, sSet, sIf, sNx, sDrop, sRaise, sRetN, aCons, eB, eCall, eTup, eLst, eIf, bAnd, bOr, bNot, tst, allD, viewT, viewL, viewX, tyD, isiB, hName, hTup, hsCons, hsNil, iSeq, wipeS, sAsg, gLe, gLt, gGe, gGt, gSub, gI20, gIsN, gNotN, gNotB, newL, eCut, ePart, gCut, iZip2, sFor] at l3; omega
    | cons a r' =>
      have : a ∈ dedI (a :: r') := (dedI_mem _ a).mpr List.mem_cons_self
      exact List.length_pos_of_mem this
  refine ⟨sortI (dedI ns), e, ?_, widths_of ?_ ?_ ?_ hmem, ?_⟩
  · have q1 : ns.length ≤ 4000 := by omega
    have q2 : (dedI ns).length < 64 := by omega
    simp only [eB, aCons, eSortedSet, l1, aNil]
    simp [eV_app, startS, eIsi, eNot, eAnd, eOr, eChain, sRet, sSeq, sSet, sIf, sNx, sDrop, sRaise, sRetN, aCons, eB, eCall, eTup, eLst, eIf, bAnd, bOr, bNot, tst, allD, viewT, viewL, viewX, tyD, isiB, hName, hTup, hsCons, hsNil, iSeq, wipeS, sAsg, gLe, gLt, gGe, gGt, gSub, gI20, gIsN, gNotN, gNotB, newL, eCut, ePart, gCut, iZip2, sFor, gTup, viewS, allInts_map, q1, q2]
  · rw [hperm.length_eq]; exact hpos
  · rw [hperm.length_eq]; omega
  · exact ((sortI_sorted (dedI ns)).and hnd).imp fun ⟨a, b⟩ => by omega
  · obtain ⟨a1, a2, a3, a4, a5⟩ := l2
    exact ⟨a1, a2, a3, a4, by omega⟩
end
/-- the machine -/
theorem r_machine {ps : List (Int × Int)} {ws : List Int} {i : Nat} {s1 s3 s5 : S} {c : List S} {μ : List MO} (hs : SzOk ps) (hw : widthsB (tupI ws) = true) : (eB (gTup) (aCons (eLc false [7] (iSeq (eV 2)) (hName 7) bYes (eCall 2 g__law_slots (aCons (eV 4) (aCons (eV 7) aNil)))) aNil)) (.m i :: s1 :: .d (szD ps) :: s3 :: .d (tupI ws) :: s5 :: .un :: .un :: c) μ = some (.ok (.d (mcD (ps.map (takes ws)))) μ) := by
  obtain ⟨a1, a2, a3, a4⟩ := widths_pw hw
  have h6 := hs.2.1
  simp only [eB, aCons, aNil]
  rw [eLc_m (xs := ps) (it := pairD) (y := fun p => tupI (takes ws p))]
  · simp [eV_app, startS, eIsi, eNot, eAnd, eOr, eChain, sRet, sSeq, sSet, sIf, sNx, sDrop, sRaise, sRetN, aCons, eB, eCall, eTup, eLst, eIf, bAnd, bOr, bNot, tst, allD, viewT, viewL, viewX, tyD, isiB, hName, hTup, hsCons, hsNil, iSeq, wipeS, sAsg, gLe, gLt, gGe, gGt, gSub, gI20, gIsN, gNotN, gNotB, newL, eCut, ePart, gCut, iZip2, sFor, gTup, List.map_map]
  · simp [eV_app, startS, eIsi, eNot, eAnd, eOr, eChain, sRet, sSeq, sSet, sIf, sNx, sDrop, sRaise, sRetN, aCons, eB, eCall, eTup, eLst, eIf, bAnd, bOr, bNot, tst, allD, viewT, viewL, viewX, tyD, isiB, hName, hTup, hsCons, hsNil, iSeq, wipeS, sAsg, gLe, gLt, gGe, gGt, gSub, gI20, gIsN, gNotN, gNotB, newL, eCut, ePart, gCut, iZip2, sFor]
  · unfold cap; omega
  · intro p hp
    obtain ⟨b1, b2, b3⟩ := hs.2.2 p hp
    refine ⟨_, rfl, ?_⟩
    simp [eV_app, startS, eIsi, eNot, eAnd, eOr, eChain, sRet, sSeq, sSet, sIf, sNx, sDrop, sRaise, sRetN, aCons, eB, eCall, eTup, eLst, eIf, bAnd, bOr, bNot, tst, allD, viewT, viewL, viewX, tyD, isiB, hName, hTup, hsCons, hsNil, iSeq, wipeS, sAsg, gLe, gLt, gGe, gGt, gSub, gI20, gIsN, gNotN, gNotB, newL, eCut, ePart, gCut, iZip2, sFor, s_slots a3 (show ws.length ≤ 900 by omega) b1 b2 b3]
theorem mc_ok {ps : List (Int × Int)} {ws : List Int} (hs : SzOk ps) (hw : widthsB (tupI ws) = true) : McOk (ps.map (takes ws)) := by
  obtain ⟨a1, a2, a3, a4⟩ := widths_pw hw
  obtain ⟨s1, s2, s3⟩ := hs
  refine ⟨by simpa [eV_app, startS, eIsi, eNot, eAnd, eOr, eChain, sRet, sSeq, sSet, sIf, sNx, sDrop, sRaise, sRetN, aCons, eB, eCall, eTup, eLst, eIf, bAnd, bOr, bNot, tst, allD, viewT, viewL, viewX, tyD, isiB, hName, hTup, hsCons, hsNil, iSeq, wipeS, sAsg, gLe, gLt, gGe, gGt, gSub, gI20, gIsN, gNotN, gNotB, newL, eCut, ePart, gCut, iZip2, sFor] using s1, by simpa [eV_app, startS, eIsi, eNot, eAnd, eOr, eChain, sRet, sSeq, sSet, sIf, sNx, sDrop, sRaise, sRetN, aCons, eB, eCall, eTup, eLst, eIf, bAnd, bOr, bNot, tst, allD, viewT, viewL, viewX, tyD, isiB, hName, hTup, hsCons, hsNil, iSeq, wipeS, sAsg, gLe, gLt, gGe, gGt, gSub, gI20, gIsN, gNotN, gNotB, newL, eCut, ePart, gCut, iZip2, sFor] using s2, fun sl hsl => ?_⟩
  obtain ⟨p, hp, rfl⟩ := List.mem_map.mp hsl
  obtain ⟨b1, b2, b3⟩ := s3 p hp
  have g1 := hole_le ws p.1
  have g2 := hole_le ws p.2
  have mono : hole ws p.1 ≤ hole ws p.2 := by
    exact hole_mono ws b2
  refine ⟨?_, takes_len ws p a2, ?_, ascB_pw.mpr (rgI_sorted _ _)⟩
  · unfold takes; rw [rgI_length]; omega
  · intro x hx
    unfold takes at hx
    rw [mem_rgI] at hx
    omega
end K03
end

section
set_option linter.all false
set_option maxRecDepth 100000
set_option maxHeartbeats 1000000
namespace K03
open PySem DL
theorem atI_map {α : Type} (f : α → D) {xs : List α} {r : Int} (h0 : 0 ≤ r) (h1 : r < xs.length) : ∃ x, xs[r.toNat]? = some x ∧ L2.atI (xs.map f) r = some (f x) := by
  obtain ⟨y, b1, _, b2⟩ := atI_lt (ds := xs.map f) (r := r) h0 (by simpa [eV_app, startS, eIsi, eNot, eAnd, eOr, eChain, sRet, sSeq, sSet, sIf, sNx, sDrop, sRaise, sRetN, aCons, eB, eCall, eTup, eLst, eIf, bAnd, bOr, bNot, tst, allD, viewT, viewL, viewX, tyD, isiB, hName, hTup, hsCons, hsNil, iSeq, wipeS, sAsg, gLe, gLt, gGe, gGt, gSub, gI20, gIsN, gNotN, gNotB, newL, eCut, ePart, gCut, iZip2, sFor] using h1)
  have hlt : r.toNat < xs.length := by omega
  refine ⟨xs[r.toNat], List.getElem?_eq_getElem hlt, ?_⟩
  rw [List.getElem?_map, List.getElem?_eq_getElem hlt] at b2
  rw [b1, ← b2]; rfl
theorem eB_1 {g : GF} {f : EF} {ρ : List S} {μ μ1 : List MO} {s : S} {r : Option ER} (h : f ρ μ = some (.ok s μ1)) (hg : g [s] μ1 = r) : eB g (aCons f aNil) ρ μ = r := by
  show bAE (aCons f aNil ρ μ) g = r
  rw [aCons_app h aNil_app]; exact hg
theorem pair01 (p : Int × Int) : L2.atI [D.int p.1, D.int p.2] 0 = some (.int p.1) ∧ L2.atI [D.int p.1, D.int p.2] 1 = some (.int p.2) := ⟨rfl, rfl⟩
theorem r_clash_body {ps : List (Int × Int)} {one : Int} {cl : List Int} {a0 a1 a3 a4 a5 a6 a7 a10 : S} {c : List S} {μ : List MO} (h0 : 0 ≤ one) (h1 : one < ps.length) (hps : ps.length ≤ 6) (hc : cl.length ≤ 1000) :
    lb__law_right_0 (a0 :: a1 :: .d (szD ps) :: a3 :: a4 :: a5 :: a6 :: a7 :: .d (.lst (cl.map .int)) :: .d (.int one) :: a10 :: c) μ = some (.nx (a0 :: a1 :: .d (szD ps) :: a3 :: a4 :: a5 :: a6 :: a7 :: .d (.lst ((cl ++ clashes ps one).map .int)) :: .d (.int one) :: a10 :: c) μ) := by
  obtain ⟨p, p1, p2⟩ := atI_map pairD h0 h1
  simp [eV_app, startS, eIsi, eNot, eAnd, eOr, eChain, sRet, sSeq, sSet, sIf, sNx, sDrop, sRaise, sRetN, aCons, eB, eCall, eTup, eLst, eIf, bAnd, bOr, bNot, tst, allD, viewT, viewL, viewX, tyD, isiB, hName, hTup, hsCons, hsNil, iSeq, wipeS, sAsg, gLe, gLt, gGe, gGt, gSub, gI20, gIsN, gNotN, gNotB, newL, eCut, ePart, gCut, iZip2, sFor, lb__law_right_0]
  rw [eLc_p (xs := rgI 0 one) (it := D.int) (p := fun two => match ps[one.toNat]?, ps[two.toNat]? with
  | some p, some q => decide (p.1 ≤ q.2) && decide (q.1 ≤ p.2)
  | _, _ => false) (y := D.int)]
  · have hl : (clashes ps one).length ≤ 6 := by
      have : (clashes ps one).length ≤ (rgI 0 one).length := List.length_filter_le _ _
      rw [rgI_length] at this; omega
    have h24 : cl.length + (clashes ps one).length ≤ small24 := by unfold small24; omega
    show (match bE _ _ with | some (.ok s μ1) => _ | some (.ex x μ1) => _ | none => none) = _
    have e : (rgI 0 one).filter (fun two => match ps[one.toNat]?, ps[two.toNat]? with
      | some p, some q => decide (p.1 ≤ q.2) && decide (q.1 ≤ p.2)
      | _, _ => false) = clashes ps one := rfl
    rw [e]
    simp [eV_app, startS, eIsi, eNot, eAnd, eOr, eChain, sRet, sSeq, sSet, sIf, sNx, sDrop, sRaise, sRetN, aCons, eB, eCall, eTup, eLst, eIf, bAnd, bOr, bNot, tst, allD, viewT, viewL, viewX, tyD, isiB, hName, hTup, hsCons, hsNil, iSeq, wipeS, sAsg, gLe, gLt, gGe, gGt, gSub, gI20, gIsN, gNotN, gNotB, newL, eCut, ePart, gCut, iZip2, sFor, gAdd, h24]
  · simp [eV_app, startS, eIsi, eNot, eAnd, eOr, eChain, sRet, sSeq, sSet, sIf, sNx, sDrop, sRaise, sRetN, aCons, eB, eCall, eTup, eLst, eIf, bAnd, bOr, bNot, tst, allD, viewT, viewL, viewX, tyD, isiB, hName, hTup, hsCons, hsNil, iSeq, wipeS, sAsg, gLe, gLt, gGe, gGt, gSub, gI20, gIsN, gNotN, gNotB, newL, eCut, ePart, gCut, iZip2, sFor, iRg]; omega
  · rw [rgI_length]; unfold cap; omega
  · intro two ht
    rw [mem_rgI] at ht
    obtain ⟨q, q1, q2⟩ := atI_map pairD (xs := ps) (r := two) ht.1 (by omega)
    have pp := pair01 p
    have qq := pair01 q
    refine ⟨_, rfl, ?_, fun _ => rfl⟩
    rw [p1, q1]
    by_cases hh : p.1 ≤ q.2 <;> simp [eV_app, startS, eIsi, eNot, eAnd, eOr, eChain, sRet, sSeq, sSet, sIf, sNx, sDrop, sRaise, sRetN, aCons, eB, eCall, eTup, eLst, eIf, bAnd, bOr, bNot, tst, allD, viewT, viewL, viewX, tyD, isiB, hName, hTup, hsCons, hsNil, iSeq, wipeS, sAsg, gLe, gLt, gGe, gGt, gSub, gI20, gIsN, gNotN, gNotB, newL, eCut, ePart, gCut, iZip2, sFor, gIx, p2, q2, pairD, pp, qq, hh]
theorem r_clash {ps : List (Int × Int)} {a0 a1 a3 a4 a5 a6 a7 a9 a10 : S} {c : List S} {μ : List MO} (hs : SzOk ps) : ∃ b9, sFor (iRg none (eB (gLen) (aCons (eV 2) aNil))) (hName 9) lb__law_right_0 (a0 :: a1 :: .d (szD ps) :: a3 :: a4 :: a5 :: a6 :: a7 :: .d (.lst []) :: a9 :: a10 :: c) μ = some (.nx (a0 :: a1 :: .d (szD ps) :: a3 :: a4 :: a5 :: a6 :: a7 :: .d (.lst ((clashL ps ps.length).map .int)) :: b9 :: a10 :: c) μ) := by
  obtain ⟨s1, s2, s3⟩ := hs
  obtain ⟨ρ', μ', e1, e2⟩ := forF_inv (h := hName 9) (b := lb__law_right_0) D.int (full := rgI 0 ps.length)
    (fun done ρ μ' => μ' = μ ∧ ∃ b9 cl, ρ = (a0 :: a1 :: .d (szD ps) :: a3 :: a4 :: a5 :: a6 :: a7 :: .d (.lst (cl.map .int)) :: b9 :: a10 :: c) ∧ cl = (done.map (clashes ps)).flatten ∧ cl.length ≤ 6 * done.length)
    (fun done x rest ρ μ' hf hI => by
      obtain ⟨rfl, b9, cl, rfl, h1, h2⟩ := hI
      obtain ⟨hx, hx2⟩ := rgI_split hf
      refine ⟨_, _, _, rfl, r_clash_body (by omega) (by omega) s2 (by omega), rfl, .d (.int x), cl ++ clashes ps x, rfl, ?_, ?_⟩
      · rw [h1]; simp [eV_app, startS, eIsi, eNot, eAnd, eOr, eChain, sRet, sSeq, sSet, sIf, sNx, sDrop, sRaise, sRetN, aCons, eB, eCall, eTup, eLst, eIf, bAnd, bOr, bNot, tst, allD, viewT, viewL, viewX, tyD, isiB, hName, hTup, hsCons, hsNil, iSeq, wipeS, sAsg, gLe, gLt, gGe, gGt, gSub, gI20, gIsN, gNotN, gNotB, newL, eCut, ePart, gCut, iZip2, sFor]
      · have : (clashes ps x).length ≤ (rgI 0 x).length := List.length_filter_le _ _
        rw [rgI_length] at this
        rw [List.length_append, List.length_append, List.length_singleton]; omega)
    (rgI 0 ps.length) [] (a0 :: a1 :: .d (szD ps) :: a3 :: a4 :: a5 :: a6 :: a7 :: .d (.lst []) :: a9 :: a10 :: c) μ rfl ⟨rfl, a9, [], rfl, rfl, by simp [eV_app, startS, eIsi, eNot, eAnd, eOr, eChain, sRet, sSeq, sSet, sIf, sNx, sDrop, sRaise, sRetN, aCons, eB, eCall, eTup, eLst, eIf, bAnd, bOr, bNot, tst, allD, viewT, viewL, viewX, tyD, isiB, hName, hTup, hsCons, hsNil, iSeq, wipeS, sAsg, gLe, gLt, gGe, gGt, gSub, gI20, gIsN, gNotN, gNotB, newL, eCut, ePart, gCut, iZip2, sFor]⟩
  obtain ⟨rfl, b9, cl, rfl, h1, _⟩ := e2
  refine ⟨b9, ?_⟩
  rw [h1] at e1
  have hi : iRg none (eB (gLen) (aCons (eV 2) aNil)) (a0 :: a1 :: .d (szD ps) :: a3 :: a4 :: a5 :: a6 :: a7 :: .d (.lst []) :: a9 :: a10 :: c) μ' = some (.ok ((rgI 0 ps.length).map .int) μ') := by
    simp [eV_app, startS, eIsi, eNot, eAnd, eOr, eChain, sRet, sSeq, sSet, sIf, sNx, sDrop, sRaise, sRetN, aCons, eB, eCall, eTup, eLst, eIf, bAnd, bOr, bNot, tst, allD, viewT, viewL, viewX, tyD, isiB, hName, hTup, hsCons, hsNil, iSeq, wipeS, sAsg, gLe, gLt, gGe, gGt, gSub, gI20, gIsN, gNotN, gNotB, newL, eCut, ePart, gCut, iZip2, sFor, iRg, gLen]; omega
  unfold sFor
  rw [hi]
  exact e1
theorem w_parts_no {ps : List (Int × Int)} {v : D} {μ : List MO} (h : tyD v ≠ none) (h2 : viewT (.d v) = none) : g__law_parts [.d (szD ps), .d v] μ = some (.ok (.d (.bl false)) μ) := by
  cases v <;> simp [eV_app, startS, eIsi, eNot, eAnd, eOr, eChain, sRet, sSeq, sSet, sIf, sNx, sDrop, sRaise, sRetN, aCons, eB, eCall, eTup, eLst, eIf, bAnd, bOr, bNot, tst, allD, viewT, viewL, viewX, tyD, isiB, hName, hTup, hsCons, hsNil, iSeq, wipeS, sAsg, gLe, gLt, gGe, gGt, gSub, gI20, gIsN, gNotN, gNotB, newL, eCut, ePart, gCut, iZip2, sFor] at h h2 <;> simp [eV_app, startS, eIsi, eNot, eAnd, eOr, eChain, sRet, sSeq, sSet, sIf, sNx, sDrop, sRaise, sRetN, aCons, eB, eCall, eTup, eLst, eIf, bAnd, bOr, bNot, tst, allD, viewT, viewL, viewX, tyD, isiB, hName, hTup, hsCons, hsNil, iSeq, wipeS, sAsg, gLe, gLt, gGe, gGt, gSub, gI20, gIsN, gNotN, gNotB, newL, eCut, ePart, gCut, iZip2, sFor, g__law_parts, fb__law_parts, g__law_are_widths, fb__law_are_widths]
theorem turn_same {ps : List (Int × Int)} {v : D} {μ : List MO} (hs : SzOk ps) (h : (∃ ns : List Int, v = tupI ns ∧ ns.length ≤ 60) ∨ (∃ ns : List Int, v = .lst (ns.map .int)) ∨ v = .non) : ∃ b, g_is_parted [.d (szD ps), .d v] μ = some (.ok (.d (.bl b)) μ) ∧ g__law_parts [.d (szD ps), .d v] μ = some (.ok (.d (.bl b)) μ) := by
  rcases h with ⟨ns, rfl, h⟩ | ⟨ns, rfl⟩ | rfl
  · exact ⟨_, s_is_parted hs (ok_tupI 5 ns), w_parts hs h⟩
  · have hok : okD 5 (.lst (ns.map D.int)) = true := by simp only [okD]; exact okDs_map _ _ fun x _ => ok_int _ x
    have := s_is_parted (v := .lst (ns.map D.int)) (μ := μ) hs hok
    exact ⟨false, this, w_parts_no (by simp [eV_app, startS, eIsi, eNot, eAnd, eOr, eChain, sRet, sSeq, sSet, sIf, sNx, sDrop, sRaise, sRetN, aCons, eB, eCall, eTup, eLst, eIf, bAnd, bOr, bNot, tst, allD, viewT, viewL, viewX, tyD, isiB, hName, hTup, hsCons, hsNil, iSeq, wipeS, sAsg, gLe, gLt, gGe, gGt, gSub, gI20, gIsN, gNotN, gNotB, newL, eCut, ePart, gCut, iZip2, sFor]) rfl⟩
  · have := s_is_parted (v := .non) (n := 5) (μ := μ) hs rfl
    exact ⟨false, this, w_parts_no (by simp [eV_app, startS, eIsi, eNot, eAnd, eOr, eChain, sRet, sSeq, sSet, sIf, sNx, sDrop, sRaise, sRetN, aCons, eB, eCall, eTup, eLst, eIf, bAnd, bOr, bNot, tst, allD, viewT, viewL, viewX, tyD, isiB, hName, hTup, hsCons, hsNil, iSeq, wipeS, sAsg, gLe, gLt, gGe, gGt, gSub, gI20, gIsN, gNotN, gNotB, newL, eCut, ePart, gCut, iZip2, sFor]) rfl⟩
section
variable {M : Dice → List MO} {i : Nat} (hM : Sto M i)
include hM
theorem r_turn_body {N : Nat} {d : Dice} {far : Int} {ps : List (Int × Int)} {ws st : List Int} {a3 a5 a6 a7 a8 a9 a10 a11 a13 a14 a15 a16 : S} {c : List S} (hd : d.Ok N) (hN : N + 100 < 1000000) (h1 : 0 < far) (h2 : far ≤ 990) (hs : SzOk ps) (hw : ws.length ≤ 7) (hst : st.length ≤ 7) :
    ∃ e b14 b15 b16, lb__law_right_1 (.m i :: .d (.int far) :: .d (szD ps) :: a3 :: .d (tupI ws) :: a5 :: a6 :: a7 :: a8 :: a9 :: a10 :: a11 :: .d (tupI st) :: a13 :: a14 :: a15 :: a16 :: c) (M d) = some (.nx (.m i :: .d (.int far) :: .d (szD ps) :: a3 :: .d (tupI ws) :: a5 :: a6 :: a7 :: a8 :: a9 :: a10 :: a11 :: .d (tupI st) :: a13 :: b14 :: b15 :: b16 :: c) (M e)) ∧ e.Ok (N + 3) := by
  obtain ⟨at', d1, r1, r2, r3, r4⟩ := s_roll hM (t := st.length + 1) hd (by omega) (by omega) (by omega)
  obtain ⟨x, d2, x1, x2, x3, x4⟩ := s_roll hM (t := far) r4 (by omega) (by omega) (by omega)
  obtain ⟨near, d3, n1, n2, n3⟩ := s_pick hM (ds := [tupI ws, tupI (st.take at'.toNat ++ st.drop (at' + 1).toNat), tupI (sortI (dedI (st ++ [1 + x]))), tupI st.reverse, .lst (st.map .int), .non, tupI (st.map fun one => min 1000 (one + 1))]) x4 (by omega) (by simp [eV_app, startS, eIsi, eNot, eAnd, eOr, eChain, sRet, sSeq, sSet, sIf, sNx, sDrop, sRaise, sRetN, aCons, eB, eCall, eTup, eLst, eIf, bAnd, bOr, bNot, tst, allD, viewT, viewL, viewX, tyD, isiB, hName, hTup, hsCons, hsNil, iSeq, wipeS, sAsg, gLe, gLt, gGe, gGt, gSub, gI20, gIsN, gNotN, gNotB, newL, eCut, ePart, gCut, iZip2, sFor]) (by simp [eV_app, startS, eIsi, eNot, eAnd, eOr, eChain, sRet, sSeq, sSet, sIf, sNx, sDrop, sRaise, sRetN, aCons, eB, eCall, eTup, eLst, eIf, bAnd, bOr, bNot, tst, allD, viewT, viewL, viewX, tyD, isiB, hName, hTup, hsCons, hsNil, iSeq, wipeS, sAsg, gLe, gLt, gGe, gGt, gSub, gI20, gIsN, gNotN, gNotB, newL, eCut, ePart, gCut, iZip2, sFor])
  have hnear : (∃ ns : List Int, near = tupI ns ∧ ns.length ≤ 60) ∨ (∃ ns : List Int, near = .lst (ns.map .int)) ∨ near = .non := by
    simp only [List.mem_cons, List.not_mem_nil, or_false] at n2
    rcases n2 with rfl | rfl | rfl | rfl | rfl | rfl | rfl
    · exact .inl ⟨_, rfl, by omega⟩
    · exact .inl ⟨_, rfl, by simp [eV_app, startS, eIsi, eNot, eAnd, eOr, eChain, sRet, sSeq, sSet, sIf, sNx, sDrop, sRaise, sRetN, aCons, eB, eCall, eTup, eLst, eIf, bAnd, bOr, bNot, tst, allD, viewT, viewL, viewX, tyD, isiB, hName, hTup, hsCons, hsNil, iSeq, wipeS, sAsg, gLe, gLt, gGe, gGt, gSub, gI20, gIsN, gNotN, gNotB, newL, eCut, ePart, gCut, iZip2, sFor]; omega⟩
    · refine .inl ⟨_, rfl, ?_⟩
      rw [(sortI_perm _).length_eq]
      have := dedI_len (st ++ [1 + x])
      simp [eV_app, startS, eIsi, eNot, eAnd, eOr, eChain, sRet, sSeq, sSet, sIf, sNx, sDrop, sRaise, sRetN, aCons, eB, eCall, eTup, eLst, eIf, bAnd, bOr, bNot, tst, allD, viewT, viewL, viewX, tyD, isiB, hName, hTup, hsCons, hsNil, iSeq, wipeS, sAsg, gLe, gLt, gGe, gGt, gSub, gI20, gIsN, gNotN, gNotB, newL, eCut, ePart, gCut, iZip2, sFor] at this; omega
    · exact .inl ⟨_, rfl, by simp [eV_app, startS, eIsi, eNot, eAnd, eOr, eChain, sRet, sSeq, sSet, sIf, sNx, sDrop, sRaise, sRetN, aCons, eB, eCall, eTup, eLst, eIf, bAnd, bOr, bNot, tst, allD, viewT, viewL, viewX, tyD, isiB, hName, hTup, hsCons, hsNil, iSeq, wipeS, sAsg, gLe, gLt, gGe, gGt, gSub, gI20, gIsN, gNotN, gNotB, newL, eCut, ePart, gCut, iZip2, sFor]; omega⟩
    · exact .inr (.inl ⟨_, rfl⟩)
    · exact .inr (.inr rfl)
    · exact .inl ⟨_, rfl, by simp [eV_app, startS, eIsi, eNot, eAnd, eOr, eChain, sRet, sSeq, sSet, sIf, sNx, sDrop, sRaise, sRetN, aCons, eB, eCall, eTup, eLst, eIf, bAnd, bOr, bNot, tst, allD, viewT, viewL, viewX, tyD, isiB, hName, hTup, hsCons, hsNil, iSeq, wipeS, sAsg, gLe, gLt, gGe, gGt, gSub, gI20, gIsN, gNotN, gNotB, newL, eCut, ePart, gCut, iZip2, sFor]; omega⟩
  obtain ⟨b, g1, g2⟩ := turn_same (μ := M d3) hs hnear
  refine ⟨d3, .d (.int at'), .d (.lst [tupI ws, tupI (st.take at'.toNat ++ st.drop (at' + 1).toNat), tupI (sortI (dedI (st ++ [1 + x]))), tupI st.reverse, .lst (st.map .int), .non]), .d near, ?_, n3⟩
  unfold lb__law_right_1
  refine sSeq_nx (sSet_ok (s := .d (.int at')) (μ1 := M d1) (by simp [eV_app, startS, eIsi, eNot, eAnd, eOr, eChain, sRet, sSeq, sSet, sIf, sNx, sDrop, sRaise, sRetN, aCons, eB, eCall, eTup, eLst, eIf, bAnd, bOr, bNot, tst, allD, viewT, viewL, viewX, tyD, isiB, hName, hTup, hsCons, hsNil, iSeq, wipeS, sAsg, gLe, gLt, gGe, gGt, gSub, gI20, gIsN, gNotN, gNotB, newL, eCut, ePart, gCut, iZip2, sFor, gLen, gAdd, r1])) ?_
  simp only [List.set_cons_succ, List.set_cons_zero]
  refine sSeq_nx (sSet_ok (s := .d (.lst [tupI ws, tupI (st.take at'.toNat ++ st.drop (at' + 1).toNat), tupI (sortI (dedI (st ++ [1 + x]))), tupI st.reverse, .lst (st.map .int), .non])) (μ1 := M d2) ?_) ?_
  · have c1 : cutD (st.map D.int) none (some at') = (st.take at'.toNat).map D.int := by rw [cutD_to r2, List.map_take]
    have c2 : cutD (st.map D.int) (some (at' + 1)) none = (st.drop (at' + 1).toNat).map D.int := by rw [cutD_from (by omega), List.map_drop]
    have ga : ∀ (xs ys : List Int) (μ : List MO), xs.length ≤ 1000 → ys.length ≤ 1000 → gAdd false (.d (.tup (xs.map .int))) (.d (.tup (ys.map .int))) μ = some (.ok (.d (tupI (xs ++ ys))) μ) := fun xs ys μ hx hy => by
      have : xs.length + ys.length ≤ small24 := by unfold small24; omega
      simp [eV_app, startS, eIsi, eNot, eAnd, eOr, eChain, sRet, sSeq, sSet, sIf, sNx, sDrop, sRaise, sRetN, aCons, eB, eCall, eTup, eLst, eIf, bAnd, bOr, bNot, tst, allD, viewT, viewL, viewX, tyD, isiB, hName, hTup, hsCons, hsNil, iSeq, wipeS, sAsg, gLe, gLt, gGe, gGt, gSub, gI20, gIsN, gNotN, gNotB, newL, eCut, ePart, gCut, iZip2, sFor, gAdd, this]
    have g3 := fun μ => ga (st.take at'.toNat) (st.drop (at' + 1).toNat) μ (by simp [eV_app, startS, eIsi, eNot, eAnd, eOr, eChain, sRet, sSeq, sSet, sIf, sNx, sDrop, sRaise, sRetN, aCons, eB, eCall, eTup, eLst, eIf, bAnd, bOr, bNot, tst, allD, viewT, viewL, viewX, tyD, isiB, hName, hTup, hsCons, hsNil, iSeq, wipeS, sAsg, gLe, gLt, gGe, gGt, gSub, gI20, gIsN, gNotN, gNotB, newL, eCut, ePart, gCut, iZip2, sFor]; omega) (by simp [eV_app, startS, eIsi, eNot, eAnd, eOr, eChain, sRet, sSeq, sSet, sIf, sNx, sDrop, sRaise, sRetN, aCons, eB, eCall, eTup, eLst, eIf, bAnd, bOr, bNot, tst, allD, viewT, viewL, viewX, tyD, isiB, hName, hTup, hsCons, hsNil, iSeq, wipeS, sAsg, gLe, gLt, gGe, gGt, gSub, gI20, gIsN, gNotN, gNotB, newL, eCut, ePart, gCut, iZip2, sFor]; omega)
    have g4 := fun μ => ga st [1 + x] μ (by omega) (by simp [eV_app, startS, eIsi, eNot, eAnd, eOr, eChain, sRet, sSeq, sSet, sIf, sNx, sDrop, sRaise, sRetN, aCons, eB, eCall, eTup, eLst, eIf, bAnd, bOr, bNot, tst, allD, viewT, viewL, viewX, tyD, isiB, hName, hTup, hsCons, hsNil, iSeq, wipeS, sAsg, gLe, gLt, gGe, gGt, gSub, gI20, gIsN, gNotN, gNotB, newL, eCut, ePart, gCut, iZip2, sFor])
    have g5 : ∀ μ, gAdd false (.d (.int at')) (.d (.int 1)) μ = some (.ok (.d (.int (at' + 1))) μ) := fun _ => rfl
    have g6 : ∀ μ, gAdd false (.d (.int 1)) (.d (.int x)) μ = some (.ok (.d (.int (1 + x))) μ) := fun _ => rfl
    have g7 := dedI_len (st ++ [1 + x])
    have g8 : (dedI (st ++ [1 + x])).length < 64 := by simp [eV_app, startS, eIsi, eNot, eAnd, eOr, eChain, sRet, sSeq, sSet, sIf, sNx, sDrop, sRaise, sRetN, aCons, eB, eCall, eTup, eLst, eIf, bAnd, bOr, bNot, tst, allD, viewT, viewL, viewX, tyD, isiB, hName, hTup, hsCons, hsNil, iSeq, wipeS, sAsg, gLe, gLt, gGe, gGt, gSub, gI20, gIsN, gNotN, gNotB, newL, eCut, ePart, gCut, iZip2, sFor] at g7; omega
    have g9 : (st ++ [1 + x]).length ≤ 4000 := by simp [eV_app, startS, eIsi, eNot, eAnd, eOr, eChain, sRet, sSeq, sSet, sIf, sNx, sDrop, sRaise, sRetN, aCons, eB, eCall, eTup, eLst, eIf, bAnd, bOr, bNot, tst, allD, viewT, viewL, viewX, tyD, isiB, hName, hTup, hsCons, hsNil, iSeq, wipeS, sAsg, gLe, gLt, gGe, gGt, gSub, gI20, gIsN, gNotN, gNotB, newL, eCut, ePart, gCut, iZip2, sFor]; omega
    generalize hρ : (.m i :: .d (.int far) :: .d (szD ps) :: a3 :: .d (tupI ws) :: a5 :: a6 :: a7 :: a8 :: a9 :: a10 :: a11 :: .d (tupI st) :: a13 :: .d (.int at') :: a15 :: a16 :: c : List S) = ρ
    have v0 : ∀ μ, eV 0 ρ μ = some (.ok (.m i) μ) := fun _ => by rw [← hρ]; rfl
    have v1 : ∀ μ, eV 1 ρ μ = some (.ok (.d (.int far)) μ) := fun _ => by rw [← hρ]; rfl
    have v4 : ∀ μ, eV 4 ρ μ = some (.ok (.d (tupI ws)) μ) := fun _ => by rw [← hρ]; rfl
    have v12 : ∀ μ, eV 12 ρ μ = some (.ok (.d (tupI st)) μ) := fun _ => by rw [← hρ]; rfl
    have v14 : ∀ μ, eV 14 ρ μ = some (.ok (.d (.int at')) μ) := fun _ => by rw [← hρ]; rfl
    have A2 : e2 (gAdd false) (eCut false (eV 12) none (some (eV 14))) (eCut false (eV 12) (some (e2 (gAdd false) (eV 14) (eC (.int 1)))) none) ρ (M d1) = some (.ok (.d (tupI (st.take at'.toNat ++ st.drop (at' + 1).toNat))) (M d1)) := by
      simp only [e2_app, eCut, ePart, v12, v14, bE_ok, gCut, viewT, tupI, c1, eC_app, g5, c2, g3]
    have A3 : (eB (gTup) (aCons (eSortedSet false (e2 (gAdd false) (eV 12) (eTup (aCons (e2 (gAdd false) (eC (.int 1)) (eCall 2 g__law_roll (aCons (eV 0) (aCons (eV 1) aNil)))) aNil)))) aNil)) ρ (M d1) = some (.ok (.d (tupI (sortI (dedI (st ++ [1 + x]))))) (M d2)) := by
      have B : eCall 2 g__law_roll (aCons (eV 0) (aCons (eV 1) aNil)) ρ (M d1) = some (.ok (.d (.int x)) (M d2)) := by
        simp only [eCall, aCons, aNil, v0, v1]
        simp [eV_app, startS, eIsi, eNot, eAnd, eOr, eChain, sRet, sSeq, sSet, sIf, sNx, sDrop, sRaise, sRetN, aCons, eB, eCall, eTup, eLst, eIf, bAnd, bOr, bNot, tst, allD, viewT, viewL, viewX, tyD, isiB, hName, hTup, hsCons, hsNil, iSeq, wipeS, sAsg, gLe, gLt, gGe, gGt, gSub, gI20, gIsN, gNotN, gNotB, newL, eCut, ePart, gCut, iZip2, sFor, x1]
      have B2 : eTup (aCons (e2 (gAdd false) (eC (.int 1)) (eCall 2 g__law_roll (aCons (eV 0) (aCons (eV 1) aNil)))) aNil) ρ (M d1) = some (.ok (.d (.tup ([1 + x].map D.int))) (M d2)) := by
        have : e2 (gAdd false) (eC (.int 1)) (eCall 2 g__law_roll (aCons (eV 0) (aCons (eV 1) aNil))) ρ (M d1) = some (.ok (.d (.int (1 + x))) (M d2)) := by
          rw [e2_app, eC_app, bE_ok, B, bE_ok, g6]
        unfold eTup
        rw [aCons_app this aNil_app]
        simp [eV_app, startS, eIsi, eNot, eAnd, eOr, eChain, sRet, sSeq, sSet, sIf, sNx, sDrop, sRaise, sRetN, aCons, eB, eCall, eTup, eLst, eIf, bAnd, bOr, bNot, tst, allD, viewT, viewL, viewX, tyD, isiB, hName, hTup, hsCons, hsNil, iSeq, wipeS, sAsg, gLe, gLt, gGe, gGt, gSub, gI20, gIsN, gNotN, gNotB, newL, eCut, ePart, gCut, iZip2, sFor]
      have B3 : e2 (gAdd false) (eV 12) (eTup (aCons (e2 (gAdd false) (eC (.int 1)) (eCall 2 g__law_roll (aCons (eV 0) (aCons (eV 1) aNil)))) aNil)) ρ (M d1) = some (.ok (.d (tupI (st ++ [1 + x]))) (M d2)) := by
        rw [e2_app, v12, bE_ok, B2, bE_ok]; exact g4 _
      have B4 : eSortedSet false (e2 (gAdd false) (eV 12) (eTup (aCons (e2 (gAdd false) (eC (.int 1)) (eCall 2 g__law_roll (aCons (eV 0) (aCons (eV 1) aNil)))) aNil))) ρ (M d1) = some (.ok (.d (.lst ((sortI (dedI (st ++ [1 + x]))).map .int))) (M d2)) := by
        unfold eSortedSet
        rw [B3]
        simp only [bE_ok, viewS, viewT, tupI, Option.bind_some, allInts_map, g8, g9, and_self, if_true, newL]
        try simp [eV_app, startS, eIsi, eNot, eAnd, eOr, eChain, sRet, sSeq, sSet, sIf, sNx, sDrop, sRaise, sRetN, aCons, eB, eCall, eTup, eLst, eIf, bAnd, bOr, bNot, tst, allD, viewT, viewL, viewX, tyD, isiB, hName, hTup, hsCons, hsNil, iSeq, wipeS, sAsg, gLe, gLt, gGe, gGt, gSub, gI20, gIsN, gNotN, gNotB, newL, eCut, ePart, gCut, iZip2, sFor]
      unfold eB
      rw [aCons_app B4 aNil_app]
      simp [eV_app, startS, eIsi, eNot, eAnd, eOr, eChain, sRet, sSeq, sSet, sIf, sNx, sDrop, sRaise, sRetN, aCons, eB, eCall, eTup, eLst, eIf, bAnd, bOr, bNot, tst, allD, viewT, viewL, viewX, tyD, isiB, hName, hTup, hsCons, hsNil, iSeq, wipeS, sAsg, gLe, gLt, gGe, gGt, gSub, gI20, gIsN, gNotN, gNotB, newL, eCut, ePart, gCut, iZip2, sFor, gTup]
    have A4 : eRev false (eV 12) ρ (M d2) = some (.ok (.d (tupI st.reverse)) (M d2)) := by
      unfold eRev
      rw [v12]
      simp [eV_app, startS, eIsi, eNot, eAnd, eOr, eChain, sRet, sSeq, sSet, sIf, sNx, sDrop, sRaise, sRetN, aCons, eB, eCall, eTup, eLst, eIf, bAnd, bOr, bNot, tst, allD, viewT, viewL, viewX, tyD, isiB, hName, hTup, hsCons, hsNil, iSeq, wipeS, sAsg, gLe, gLt, gGe, gGt, gSub, gI20, gIsN, gNotN, gNotB, newL, eCut, ePart, gCut, iZip2, sFor, tupI, List.map_reverse]
    have A5 : eB (gLst false) (aCons (eV 12) aNil) ρ (M d2) = some (.ok (.d (.lst (st.map .int))) (M d2)) := by
      unfold eB
      rw [aCons_app (v12 _) aNil_app]
      simp [eV_app, startS, eIsi, eNot, eAnd, eOr, eChain, sRet, sSeq, sSet, sIf, sNx, sDrop, sRaise, sRetN, aCons, eB, eCall, eTup, eLst, eIf, bAnd, bOr, bNot, tst, allD, viewT, viewL, viewX, tyD, isiB, hName, hTup, hsCons, hsNil, iSeq, wipeS, sAsg, gLe, gLt, gGe, gGt, gSub, gI20, gIsN, gNotN, gNotB, newL, eCut, ePart, gCut, iZip2, sFor, gLst, tupI]
    unfold eLst
    rw [aCons_app (v4 _) (aCons_app A2 (aCons_app A3 (aCons_app A4 (aCons_app A5 (aCons_app eC_app aNil_app)))))]
    simp [eV_app, startS, eIsi, eNot, eAnd, eOr, eChain, sRet, sSeq, sSet, sIf, sNx, sDrop, sRaise, sRetN, aCons, eB, eCall, eTup, eLst, eIf, bAnd, bOr, bNot, tst, allD, viewT, viewL, viewX, tyD, isiB, hName, hTup, hsCons, hsNil, iSeq, wipeS, sAsg, gLe, gLt, gGe, gGt, gSub, gI20, gIsN, gNotN, gNotB, newL, eCut, ePart, gCut, iZip2, sFor]
  · simp only [List.set_cons_succ, List.set_cons_zero]
    refine sSeq_nx (sSet_ok (s := .d near) (μ1 := M d3) ?_) ?_
    · generalize hρ : (.m i :: .d (.int far) :: .d (szD ps) :: a3 :: .d (tupI ws) :: a5 :: a6 :: a7 :: a8 :: a9 :: a10 :: a11 :: .d (tupI st) :: a13 :: .d (.int at') :: .d (.lst [tupI ws, tupI (st.take at'.toNat ++ st.drop (at' + 1).toNat), tupI (sortI (dedI (st ++ [1 + x]))), tupI st.reverse, .lst (st.map .int), .non]) :: a16 :: c : List S) = ρ
      have v0 : ∀ μ, eV 0 ρ μ = some (.ok (.m i) μ) := fun _ => by rw [← hρ]; rfl
      have v15 : ∀ μ, eV 15 ρ μ = some (.ok (.d (.lst [tupI ws, tupI (st.take at'.toNat ++ st.drop (at' + 1).toNat), tupI (sortI (dedI (st ++ [1 + x]))), tupI st.reverse, .lst (st.map .int), .non])) μ) := fun _ => by rw [← hρ]; rfl
      have L : (eLc false [9] (iSeq (eV 12)) (hName 9) bYes (eB (gMin) (aCons (eC (.int 1000)) (aCons (e2 (gAdd false) (eV 9) (eC (.int 1))) aNil)))) ρ (M d2) = some (.ok (.d (.lst (st.map fun one => .int (min 1000 (one + 1))))) (M d2)) := by
        rw [← hρ]
        rw [eLc_m (xs := st) (it := D.int) (y := fun one => .int (min 1000 (one + 1)))]
        · simp [eV_app, startS, eIsi, eNot, eAnd, eOr, eChain, sRet, sSeq, sSet, sIf, sNx, sDrop, sRaise, sRetN, aCons, eB, eCall, eTup, eLst, eIf, bAnd, bOr, bNot, tst, allD, viewT, viewL, viewX, tyD, isiB, hName, hTup, hsCons, hsNil, iSeq, wipeS, sAsg, gLe, gLt, gGe, gGt, gSub, gI20, gIsN, gNotN, gNotB, newL, eCut, ePart, gCut, iZip2, sFor, tupI]
        · unfold cap; omega
        · intro one _
          exact ⟨_, rfl, by simp [eV_app, startS, eIsi, eNot, eAnd, eOr, eChain, sRet, sSeq, sSet, sIf, sNx, sDrop, sRaise, sRetN, aCons, eB, eCall, eTup, eLst, eIf, bAnd, bOr, bNot, tst, allD, viewT, viewL, viewX, tyD, isiB, hName, hTup, hsCons, hsNil, iSeq, wipeS, sAsg, gLe, gLt, gGe, gGt, gSub, gI20, gIsN, gNotN, gNotB, newL, eCut, ePart, gCut, iZip2, sFor, gMin, gAdd]⟩
      have L2 : (eLst false (aCons (eB (gTup) (aCons (eLc false [9] (iSeq (eV 12)) (hName 9) bYes (eB (gMin) (aCons (eC (.int 1000)) (aCons (e2 (gAdd false) (eV 9) (eC (.int 1))) aNil)))) aNil)) aNil)) ρ (M d2) = some (.ok (.d (.lst [tupI (st.map fun one => min 1000 (one + 1))])) (M d2)) := by
        have : (eB (gTup) (aCons (eLc false [9] (iSeq (eV 12)) (hName 9) bYes (eB (gMin) (aCons (eC (.int 1000)) (aCons (e2 (gAdd false) (eV 9) (eC (.int 1))) aNil)))) aNil)) ρ (M d2) = some (.ok (.d (tupI (st.map fun one => min 1000 (one + 1)))) (M d2)) := by
          refine eB_1 L ?_
          simp [eV_app, startS, eIsi, eNot, eAnd, eOr, eChain, sRet, sSeq, sSet, sIf, sNx, sDrop, sRaise, sRetN, aCons, eB, eCall, eTup, eLst, eIf, bAnd, bOr, bNot, tst, allD, viewT, viewL, viewX, tyD, isiB, hName, hTup, hsCons, hsNil, iSeq, wipeS, sAsg, gLe, gLt, gGe, gGt, gSub, gI20, gIsN, gNotN, gNotB, newL, eCut, ePart, gCut, iZip2, sFor, gTup, List.map_map]
        unfold eLst
        rw [aCons_app this aNil_app]
        simp [eV_app, startS, eIsi, eNot, eAnd, eOr, eChain, sRet, sSeq, sSet, sIf, sNx, sDrop, sRaise, sRetN, aCons, eB, eCall, eTup, eLst, eIf, bAnd, bOr, bNot, tst, allD, viewT, viewL, viewX, tyD, isiB, hName, hTup, hsCons, hsNil, iSeq, wipeS, sAsg, gLe, gLt, gGe, gGt, gSub, gI20, gIsN, gNotN, gNotB, newL, eCut, ePart, gCut, iZip2, sFor]
      have L3 : e2 (gAdd false) (eV 15) (eLst false (aCons (eB (gTup) (aCons (eLc false [9] (iSeq (eV 12)) (hName 9) bYes (eB (gMin) (aCons (eC (.int 1000)) (aCons (e2 (gAdd false) (eV 9) (eC (.int 1))) aNil)))) aNil)) aNil)) ρ (M d2) = some (.ok (.d (.lst [tupI ws, tupI (st.take at'.toNat ++ st.drop (at' + 1).toNat), tupI (sortI (dedI (st ++ [1 + x]))), tupI st.reverse, .lst (st.map .int), .non, tupI (st.map fun one => min 1000 (one + 1))])) (M d2)) := by
        rw [e2_app, v15, bE_ok, L2, bE_ok]; rfl
      unfold eCall
      rw [aCons_app (v0 _) (aCons_app L3 aNil_app)]
      simp only [bAE_ok, List.length_cons, List.length_nil, n1, onlyD_ok]
      rfl
    · simp only [List.set_cons_succ, List.set_cons_zero]
      simp [eV_app, startS, eIsi, eNot, eAnd, eOr, eChain, sRet, sSeq, sSet, sIf, sNx, sDrop, sRaise, sRetN, aCons, eB, eCall, eTup, eLst, eIf, bAnd, bOr, bNot, tst, allD, viewT, viewL, viewX, tyD, isiB, hName, hTup, hsCons, hsNil, iSeq, wipeS, sAsg, gLe, gLt, gGe, gGt, gSub, gI20, gIsN, gNotN, gNotB, newL, eCut, ePart, gCut, iZip2, sFor, eCallK, g1, g2, gNe_bl, pmF]
end
end K03
end

section
set_option linter.all false
set_option maxRecDepth 100000
set_option maxHeartbeats 1000000
namespace K03
open PySem DL
section
variable {M : Dice → List MO} {i : Nat} (hM : Sto M i)
include hM
theorem r_turns {N : Nat} {d : Dice} {far : Int} {ps : List (Int × Int)} {ws st : List Int} {a3 a5 a6 a7 a8 a9 a10 a11 a13 a14 a15 a16 : S} {c : List S} (hd : d.Ok N) (hN : N + 200 < 1000000) (h1 : 0 < far) (h2 : far ≤ 990) (hs : SzOk ps) (hw : ws.length ≤ 7) (hst : st.length ≤ 7) :
    ∃ e b13 b14 b15 b16, sFor (iRg none (eC (.int 5))) (hName 13) lb__law_right_1 (.m i :: .d (.int far) :: .d (szD ps) :: a3 :: .d (tupI ws) :: a5 :: a6 :: a7 :: a8 :: a9 :: a10 :: a11 :: .d (tupI st) :: a13 :: a14 :: a15 :: a16 :: c) (M d) = some (.nx (.m i :: .d (.int far) :: .d (szD ps) :: a3 :: .d (tupI ws) :: a5 :: a6 :: a7 :: a8 :: a9 :: a10 :: a11 :: .d (tupI st) :: b13 :: b14 :: b15 :: b16 :: c) (M e)) ∧ e.Ok (N + 15) := by
  obtain ⟨ρ', μ', e1, e2⟩ := forF_inv (h := hName 13) (b := lb__law_right_1) D.int (full := rgI 0 5)
    (fun done ρ μ' => ∃ e b13 b14 b15 b16, ρ = (.m i :: .d (.int far) :: .d (szD ps) :: a3 :: .d (tupI ws) :: a5 :: a6 :: a7 :: a8 :: a9 :: a10 :: a11 :: .d (tupI st) :: b13 :: b14 :: b15 :: b16 :: c) ∧ μ' = M e ∧ e.Ok (N + 3 * done.length))
    (fun done x rest ρ μ' hf hI => by
      obtain ⟨e, b13, b14, b15, b16, rfl, rfl, hI⟩ := hI
      obtain ⟨hx, hx2⟩ := rgI_split hf
      obtain ⟨e', c14, c15, c16, g1, g2⟩ := r_turn_body hM (a3 := a3) (a5 := a5) (a6 := a6) (a7 := a7) (a8 := a8) (a9 := a9) (a10 := a10) (a11 := a11) (a13 := .d (.int x)) (a14 := b14) (a15 := b15) (a16 := b16) (c := c) hI (by omega) h1 h2 hs hw hst
      refine ⟨_, _, _, rfl, g1, e', .d (.int x), c14, c15, c16, rfl, rfl, ?_⟩
      rw [List.length_append, List.length_singleton, Nat.mul_add]; exact g2)
    (rgI 0 5) [] (.m i :: .d (.int far) :: .d (szD ps) :: a3 :: .d (tupI ws) :: a5 :: a6 :: a7 :: a8 :: a9 :: a10 :: a11 :: .d (tupI st) :: a13 :: a14 :: a15 :: a16 :: c) (M d) rfl ⟨d, a13, a14, a15, a16, rfl, rfl, by simpa [eV_app, startS, eIsi, eNot, eAnd, eOr, eChain, sRet, sSeq, sSet, sIf, sNx, sDrop, sRaise, sRetN, aCons, eB, eCall, eTup, eLst, eIf, bAnd, bOr, bNot, tst, allD, viewT, viewL, viewX, tyD, isiB, hName, hTup, hsCons, hsNil, iSeq, wipeS, sAsg, gLe, gLt, gGe, gGt, gSub, gI20, gIsN, gNotN, gNotB, newL, eCut, ePart, gCut, iZip2, sFor] using hd⟩
  obtain ⟨e, b13, b14, b15, b16, rfl, rfl, h⟩ := e2
  refine ⟨e, b13, b14, b15, b16, ?_, by simpa [eV_app, startS, eIsi, eNot, eAnd, eOr, eChain, sRet, sSeq, sSet, sIf, sNx, sDrop, sRaise, sRetN, aCons, eB, eCall, eTup, eLst, eIf, bAnd, bOr, bNot, tst, allD, viewT, viewL, viewX, tyD, isiB, hName, hTup, hsCons, hsNil, iSeq, wipeS, sAsg, gLe, gLt, gGe, gGt, gSub, gI20, gIsN, gNotN, gNotB, newL, eCut, ePart, gCut, iZip2, sFor, rgI_length] using h⟩
  unfold sFor
  rw [show iRg none (eC (.int 5)) (.m i :: .d (.int far) :: .d (szD ps) :: a3 :: .d (tupI ws) :: a5 :: a6 :: a7 :: a8 :: a9 :: a10 :: a11 :: .d (tupI st) :: a13 :: a14 :: a15 :: a16 :: c) (M d) = some (.ok ((rgI 0 5).map .int) (M d)) from by simp [eV_app, startS, eIsi, eNot, eAnd, eOr, eChain, sRet, sSeq, sSet, sIf, sNx, sDrop, sRaise, sRetN, aCons, eB, eCall, eTup, eLst, eIf, bAnd, bOr, bNot, tst, allD, viewT, viewL, viewX, tyD, isiB, hName, hTup, hsCons, hsNil, iSeq, wipeS, sAsg, gLe, gLt, gGe, gGt, gSub, gI20, gIsN, gNotN, gNotB, newL, eCut, ePart, gCut, iZip2, sFor, iRg]]
  exact e1
end
/-! ### most -/
theorem zip_rg {α β : Type} (xs : List α) (ys : List β) (a : α) (b : β) (h : xs.length = ys.length) : xs.zip ys = (rgI 0 ys.length).map fun k => (xs[k.toNat]?.getD a, ys[k.toNat]?.getD b) := by
  apply List.ext_getElem
  · rw [List.length_zip, List.length_map, rgI_length]; omega
  · intro k h1 h2
    rw [List.length_zip] at h1
    rw [List.getElem_zip, List.getElem_map]
    have : (rgI 0 (ys.length : Int))[k]'(by rw [rgI_length]; omega) = (k : Int) := by
      have := rgI_get (a := 0) (b := ys.length) (i := k) (x := (rgI 0 (ys.length : Int))[k]'(by rw [rgI_length]; omega)) (List.getElem?_eq_getElem _)
      omega
    rw [this]
    simp only [Int.toNat_natCast]
    rw [List.getElem?_eq_getElem (by omega), List.getElem?_eq_getElem (by omega)]
    rfl
theorem sum_bound : ∀ (xs : List Int) (b : Int), (∀ x ∈ xs, 0 ≤ x ∧ x ≤ b) → 0 ≤ xs.sum ∧ xs.sum ≤ b * xs.length
  | [], b, _ => by simp [eV_app, startS, eIsi, eNot, eAnd, eOr, eChain, sRet, sSeq, sSet, sIf, sNx, sDrop, sRaise, sRetN, aCons, eB, eCall, eTup, eLst, eIf, bAnd, bOr, bNot, tst, allD, viewT, viewL, viewX, tyD, isiB, hName, hTup, hsCons, hsNil, iSeq, wipeS, sAsg, gLe, gLt, gGe, gGt, gSub, gI20, gIsN, gNotN, gNotB, newL, eCut, ePart, gCut, iZip2, sFor]
  | x :: xs, b, h => by
    obtain ⟨h1, h2⟩ := sum_bound xs b fun z hz => h z (List.mem_cons_of_mem _ hz)
    have := h x List.mem_cons_self
    rw [List.sum_cons, List.length_cons]
    have : b * ((xs.length + 1 : Nat) : Int) = b * xs.length + b := by rw [Int.natCast_add]; simp [eV_app, startS, eIsi, eNot, eAnd, eOr, eChain, sRet, sSeq, sSet, sIf, sNx, sDrop, sRaise, sRetN, aCons, eB, eCall, eTup, eLst, eIf, bAnd, bOr, bNot, tst, allD, viewT, viewL, viewX, tyD, isiB, hName, hTup, hsCons, hsNil, iSeq, wipeS, sAsg, gLe, gLt, gGe, gGt, gSub, gI20, gIsN, gNotN, gNotB, newL, eCut, ePart, gCut, iZip2, sFor, Int.mul_add]
    omega
theorem fillsR_bound {m : List (List Int)} {bag : List Int} {n : Nat} (h : IntsIn bag n 0 1800) (hn : n ≤ 6) : (fillsR m bag).length = 8 ∧ ∀ x ∈ fillsR m bag, 0 ≤ x ∧ x ≤ 10800 := by
  obtain ⟨h1, h2⟩ := h
  refine ⟨by unfold fillsR; rw [List.length_map, rgI_length]; rfl, fun x hx => ?_⟩
  unfold fillsR at hx
  obtain ⟨s, hs, rfl⟩ := List.mem_map.mp hx
  have hb := sum_bound (((m.zip bag).filter fun z => z.1.contains s).map (·.2)) 1800 fun x hx => by
    obtain ⟨z, hz, rfl⟩ := List.mem_map.mp hx
    have := (List.mem_filter.mp hz).1
    exact h2 z.2 (List.of_mem_zip (a := z.1) (b := z.2) this).2
  have hlen : (((m.zip bag).filter fun z => z.1.contains s).map (·.2)).length ≤ 6 := by
    rw [List.length_map]
    refine Nat.le_trans (List.length_filter_le _ _) ?_
    rw [List.length_zip]; omega
  omega
end K03
end

section
set_option linter.all false
set_option maxRecDepth 100000
set_option maxHeartbeats 1000000
namespace K03
open PySem DL
theorem r_most {m : List (List Int)} {bag : List Int} {a0 a1 a2 a3 a4 a5 a7 a8 a9 a10 a11 a12 a13 a14 a15 a16 a18 a19 : S} {c : List S} {μ : List MO} (hb : m.length = bag.length) (hl : bag.length ≤ 6) :
    eLc false [19] (iRg none (eC (.int 8))) (hName 19) bYes (eB (gSum) (aCons (eLc false [3] (iRg none (eB (gLen) (aCons (eV 17) aNil))) (hName 3) (tst (e2 (gIn false) (eV 19) (e2 gIx (eV 6) (eV 3)))) (e2 gIx (eV 17) (eV 3))) aNil)) (a0 :: a1 :: a2 :: a3 :: a4 :: a5 :: .d (mcD m) :: a7 :: a8 :: a9 :: a10 :: a11 :: a12 :: a13 :: a14 :: a15 :: a16 :: .d (tupI bag) :: a18 :: a19 :: c) μ = some (.ok (.d (.lst ((fillsR m bag).map .int))) μ) := by
  rw [eLc_m (xs := rgI 0 8) (it := D.int) (y := fun s => .int (((m.zip bag).filter fun z => z.1.contains s).map (·.2)).sum)]
  · simp [eV_app, startS, eIsi, eNot, eAnd, eOr, eChain, sRet, sSeq, sSet, sIf, sNx, sDrop, sRaise, sRetN, aCons, eB, eCall, eTup, eLst, eIf, bAnd, bOr, bNot, tst, allD, viewT, viewL, viewX, tyD, isiB, hName, hTup, hsCons, hsNil, iSeq, wipeS, sAsg, gLe, gLt, gGe, gGt, gSub, gI20, gIsN, gNotN, gNotB, newL, eCut, ePart, gCut, iZip2, sFor, fillsR, List.map_map]
  · simp [eV_app, startS, eIsi, eNot, eAnd, eOr, eChain, sRet, sSeq, sSet, sIf, sNx, sDrop, sRaise, sRetN, aCons, eB, eCall, eTup, eLst, eIf, bAnd, bOr, bNot, tst, allD, viewT, viewL, viewX, tyD, isiB, hName, hTup, hsCons, hsNil, iSeq, wipeS, sAsg, gLe, gLt, gGe, gGt, gSub, gI20, gIsN, gNotN, gNotB, newL, eCut, ePart, gCut, iZip2, sFor, iRg]
  · rw [rgI_length]; decide
  · intro s hs
    refine ⟨_, rfl, ?_⟩
    refine eB_1 (s := .d (.lst (((rgI 0 bag.length).filter fun k => (m[k.toNat]?.getD []).contains s).map fun k => .int (bag[k.toNat]?.getD 0)))) (μ1 := μ) ?_ ?_
    · rw [eLc_p (xs := rgI 0 bag.length) (it := D.int) (p := fun k => (m[k.toNat]?.getD []).contains s) (y := fun k => .int (bag[k.toNat]?.getD 0))]
      · simp [eV_app, startS, eIsi, eNot, eAnd, eOr, eChain, sRet, sSeq, sSet, sIf, sNx, sDrop, sRaise, sRetN, aCons, eB, eCall, eTup, eLst, eIf, bAnd, bOr, bNot, tst, allD, viewT, viewL, viewX, tyD, isiB, hName, hTup, hsCons, hsNil, iSeq, wipeS, sAsg, gLe, gLt, gGe, gGt, gSub, gI20, gIsN, gNotN, gNotB, newL, eCut, ePart, gCut, iZip2, sFor, iRg, gLen]; omega
      · rw [rgI_length]; unfold cap; omega
      · intro k hk
        rw [mem_rgI] at hk
        obtain ⟨sl, p1, p2⟩ := atI_map tupI (xs := m) (r := k) hk.1 (by omega)
        obtain ⟨n, q1, q2⟩ := atI_map D.int (xs := bag) (r := k) hk.1 (by omega)
        refine ⟨_, rfl, ?_, fun _ => ?_⟩
        · rw [p1]
          simp [eV_app, startS, eIsi, eNot, eAnd, eOr, eChain, sRet, sSeq, sSet, sIf, sNx, sDrop, sRaise, sRetN, aCons, eB, eCall, eTup, eLst, eIf, bAnd, bOr, bNot, tst, allD, viewT, viewL, viewX, tyD, isiB, hName, hTup, hsCons, hsNil, iSeq, wipeS, sAsg, gLe, gLt, gGe, gGt, gSub, gI20, gIsN, gNotN, gNotB, newL, eCut, ePart, gCut, iZip2, sFor, gIx, p2, gIn_ints]
        · rw [q1]
          simp [eV_app, startS, eIsi, eNot, eAnd, eOr, eChain, sRet, sSeq, sSet, sIf, sNx, sDrop, sRaise, sRetN, aCons, eB, eCall, eTup, eLst, eIf, bAnd, bOr, bNot, tst, allD, viewT, viewL, viewX, tyD, isiB, hName, hTup, hsCons, hsNil, iSeq, wipeS, sAsg, gLe, gLt, gGe, gGt, gSub, gI20, gIsN, gNotN, gNotB, newL, eCut, ePart, gCut, iZip2, sFor, gIx, q2]
    · have e : (((m.zip bag).filter fun z => z.1.contains s).map (·.2)) = ((rgI 0 bag.length).filter fun k => (m[k.toNat]?.getD []).contains s).map fun k => bag[k.toNat]?.getD 0 := by
        rw [zip_rg m bag [] 0 hb, List.filter_map, List.map_map]
        rfl
      rw [e]
      simp [eV_app, startS, eIsi, eNot, eAnd, eOr, eChain, sRet, sSeq, sSet, sIf, sNx, sDrop, sRaise, sRetN, aCons, eB, eCall, eTup, eLst, eIf, bAnd, bOr, bNot, tst, allD, viewT, viewL, viewX, tyD, isiB, hName, hTup, hsCons, hsNil, iSeq, wipeS, sAsg, gLe, gLt, gGe, gGt, gSub, gI20, gIsN, gNotN, gNotB, newL, eCut, ePart, gCut, iZip2, sFor, gSum, all_ints]
section
variable {M : Dice → List MO} {i : Nat} (hM : Sto M i)
include hM
theorem r_bins {N : Nat} {d : Dice} {ms : List Int} {a1 a2 a3 a4 a5 a6 a7 a8 a9 a10 a11 a12 a13 a14 a15 a16 a17 : S} {c : List S} (hd : d.Ok N) (hN : N + 100 < 1000000) (hl : ms.length = 8) (hms : ∀ x ∈ ms, 0 ≤ x ∧ x ≤ 10800) :
    ∃ bins e, eB (gTup) (aCons (eLc false [9] (iSeq (eV 18)) (hName 9) bYes (eB (gMax) (aCons (eC (.int 0)) (aCons (e2 (gAdd false) (eV 9) (eCall 2 g__law_pick (aCons (eV 0) (aCons (eLst false (aCons (eC (.int 0)) (aCons (eC (.int 0)) (aCons (eC (.int 0)) (aCons (eC (.int 0)) (aCons (eC (.int 1)) (aCons (eNeg (eC (.int 1))) aNil))))))) aNil)))) aNil)))) aNil) (.m i :: a1 :: a2 :: a3 :: a4 :: a5 :: a6 :: a7 :: a8 :: a9 :: a10 :: a11 :: a12 :: a13 :: a14 :: a15 :: a16 :: a17 :: .d (.lst (ms.map .int)) :: c) (M d) = some (.ok (.d (tupI bins)) (M e)) ∧ IntsIn bins 8 0 20000 ∧ e.Ok (N + 8) := by
  obtain ⟨ys, e, l1, l2, l3, l4⟩ := eLc_st (vs := [9]) (fi := iSeq (eV 18)) (h := hName 9) (e := eB (gMax) (aCons (eC (.int 0)) (aCons (e2 (gAdd false) (eV 9) (eCall 2 g__law_pick (aCons (eV 0) (aCons (eLst false (aCons (eC (.int 0)) (aCons (eC (.int 0)) (aCons (eC (.int 0)) (aCons (eC (.int 0)) (aCons (eC (.int 1)) (aCons (eNeg (eC (.int 1))) aNil))))))) aNil)))) aNil)))
    (ρ := .m i :: a1 :: a2 :: a3 :: a4 :: a5 :: a6 :: a7 :: a8 :: a9 :: a10 :: a11 :: a12 :: a13 :: a14 :: a15 :: a16 :: a17 :: .d (.lst (ms.map .int)) :: c) (μ := M d) M (fun k e => e.Ok (N + k)) D.int (fun _ y => ∃ p : Int, y = .int p ∧ 0 ≤ p ∧ p ≤ 20000) ms 0 d hd (by simp [eV_app, startS, eIsi, eNot, eAnd, eOr, eChain, sRet, sSeq, sSet, sIf, sNx, sDrop, sRaise, sRetN, aCons, eB, eCall, eTup, eLst, eIf, bAnd, bOr, bNot, tst, allD, viewT, viewL, viewX, tyD, isiB, hName, hTup, hsCons, hsNil, iSeq, wipeS, sAsg, gLe, gLt, gGe, gGt, gSub, gI20, gIsN, gNotN, gNotB, newL, eCut, ePart, gCut, iZip2, sFor]) (by rw [hl]; decide) (fun x hx j b _ hj hI => by
      obtain ⟨p, b', p1, p2, p3⟩ := s_pick hM (ds := [.int 0, .int 0, .int 0, .int 0, .int 1, .int (-1)]) hI (by omega) (by simp [eV_app, startS, eIsi, eNot, eAnd, eOr, eChain, sRet, sSeq, sSet, sIf, sNx, sDrop, sRaise, sRetN, aCons, eB, eCall, eTup, eLst, eIf, bAnd, bOr, bNot, tst, allD, viewT, viewL, viewX, tyD, isiB, hName, hTup, hsCons, hsNil, iSeq, wipeS, sAsg, gLe, gLt, gGe, gGt, gSub, gI20, gIsN, gNotN, gNotB, newL, eCut, ePart, gCut, iZip2, sFor]) (by simp [eV_app, startS, eIsi, eNot, eAnd, eOr, eChain, sRet, sSeq, sSet, sIf, sNx, sDrop, sRaise, sRetN, aCons, eB, eCall, eTup, eLst, eIf, bAnd, bOr, bNot, tst, allD, viewT, viewL, viewX, tyD, isiB, hName, hTup, hsCons, hsNil, iSeq, wipeS, sAsg, gLe, gLt, gGe, gGt, gSub, gI20, gIsN, gNotN, gNotB, newL, eCut, ePart, gCut, iZip2, sFor])
      have hp : ∃ z : Int, p = .int z ∧ -1 ≤ z ∧ z ≤ 1 := by
        simp only [List.mem_cons, List.not_mem_nil, or_false] at p2
        rcases p2 with rfl | rfl | rfl | rfl | rfl | rfl <;> exact ⟨_, rfl, by omega, by omega⟩
      obtain ⟨z, rfl, z1, z2⟩ := hp
      have := hms x hx
      refine ⟨_, .int (max 0 (x + z)), b', rfl, ?_, ⟨_, rfl, by omega, by omega⟩, p3⟩
      simp [eV_app, startS, eIsi, eNot, eAnd, eOr, eChain, sRet, sSeq, sSet, sIf, sNx, sDrop, sRaise, sRetN, aCons, eB, eCall, eTup, eLst, eIf, bAnd, bOr, bNot, tst, allD, viewT, viewL, viewX, tyD, isiB, hName, hTup, hsCons, hsNil, iSeq, wipeS, sAsg, gLe, gLt, gGe, gGt, gSub, gI20, gIsN, gNotN, gNotB, newL, eCut, ePart, gCut, iZip2, sFor, eNeg, p1, gAdd, gMax])
  obtain ⟨bins, rfl, hp⟩ := ints_of_all (a := 0) (b := 20000) fun y hy => (mem_G l3 l4 y hy).elim fun _ q => q.2
  refine ⟨bins, e, eB_1 l1 (by simp [eV_app, startS, eIsi, eNot, eAnd, eOr, eChain, sRet, sSeq, sSet, sIf, sNx, sDrop, sRaise, sRetN, aCons, eB, eCall, eTup, eLst, eIf, bAnd, bOr, bNot, tst, allD, viewT, viewL, viewX, tyD, isiB, hName, hTup, hsCons, hsNil, iSeq, wipeS, sAsg, gLe, gLt, gGe, gGt, gSub, gI20, gIsN, gNotN, gNotB, newL, eCut, ePart, gCut, iZip2, sFor, gTup]), ⟨by simpa [eV_app, startS, eIsi, eNot, eAnd, eOr, eChain, sRet, sSeq, sSet, sIf, sNx, sDrop, sRaise, sRetN, aCons, eB, eCall, eTup, eLst, eIf, bAnd, bOr, bNot, tst, allD, viewT, viewL, viewX, tyD, isiB, hName, hTup, hsCons, hsNil, iSeq, wipeS, sAsg, gLe, gLt, gGe, gGt, gSub, gI20, gIsN, gNotN, gNotB, newL, eCut, ePart, gCut, iZip2, sFor, hl] using l3, hp⟩, ?_⟩
  rw [hl] at l2; simpa [eV_app, startS, eIsi, eNot, eAnd, eOr, eChain, sRet, sSeq, sSet, sIf, sNx, sDrop, sRaise, sRetN, aCons, eB, eCall, eTup, eLst, eIf, bAnd, bOr, bNot, tst, allD, viewT, viewL, viewX, tyD, isiB, hName, hTup, hsCons, hsNil, iSeq, wipeS, sAsg, gLe, gLt, gGe, gGt, gSub, gI20, gIsN, gNotN, gNotB, newL, eCut, ePart, gCut, iZip2, sFor] using l2
end
theorem due_eq {ms bins : List Int} (h1 : ms.length = 8) (h2 : bins.length = 8) : (((rgI 0 8).filter fun k => decide (bins[k.toNat]?.getD 0 < ms[k.toNat]?.getD 0)) == []) = ((ms.zip bins).all fun z => decide (z.1 ≤ z.2)) := by
  rw [zip_rg ms bins 0 0 (by omega), h2, List.all_map]
  have : (((rgI 0 8).filter fun k => decide (bins[k.toNat]?.getD 0 < ms[k.toNat]?.getD 0)) == []) = true ↔ (((rgI 0 (8 : Nat)).all ((fun z : Int × Int => decide (z.1 ≤ z.2)) ∘ fun k => (ms[k.toNat]?.getD 0, bins[k.toNat]?.getD 0))) = true) := by
    simp only [beq_iff_eq, List.filter_eq_nil_iff, List.all_eq_true, decide_eq_true_eq, Function.comp]
    exact ⟨fun h x hx => by have := h x hx; omega, fun h x hx => by have := h x hx; omega⟩
  cases e : (((rgI 0 (8 : Nat)).all ((fun z : Int × Int => decide (z.1 ≤ z.2)) ∘ fun k => (ms[k.toNat]?.getD 0, bins[k.toNat]?.getD 0)))) with
  | true => exact this.mpr e
  | false => cases e2 : (((rgI 0 8).filter fun k => decide (bins[k.toNat]?.getD 0 < ms[k.toNat]?.getD 0)) == []) with
    | false => rfl
    | true => rw [this.mp e2] at e; cases e
theorem r_due {ms bins : List Int} {a0 a1 a2 a3 a4 a5 a6 a7 a8 a9 a10 a11 a12 a13 a14 a15 a16 a17 a19 : S} {c : List S} {μ : List MO} (h1 : ms.length = 8) (h2 : bins.length = 8) :
    (e2 gEq (eLc false [19] (iRg none (eC (.int 8))) (hName 19) (tst (e2 gGt (e2 gIx (eV 18) (eV 19)) (e2 gIx (eV 20) (eV 19)))) (eV 19)) (eLst false aNil)) (a0 :: a1 :: a2 :: a3 :: a4 :: a5 :: a6 :: a7 :: a8 :: a9 :: a10 :: a11 :: a12 :: a13 :: a14 :: a15 :: a16 :: a17 :: .d (.lst (ms.map .int)) :: a19 :: .d (tupI bins) :: c) μ = some (.ok (.d (.bl ((ms.zip bins).all fun z => decide (z.1 ≤ z.2)))) μ) := by
  rw [e2_app, eLc_p (xs := rgI 0 8) (it := D.int) (p := fun k => decide (bins[k.toNat]?.getD 0 < ms[k.toNat]?.getD 0)) (y := D.int)]
  · have ok1 : okD 20 (.lst (((rgI 0 8).filter fun k => decide (bins[k.toNat]?.getD 0 < ms[k.toNat]?.getD 0)).map D.int)) = true := by
      simp only [okD]; exact okDs_map _ _ fun x _ => ok_int _ x
    have ok2 : okD 20 (.lst []) = true := rfl
    have e0 := eqv_ints ((rgI 0 8).filter fun k => decide (bins[k.toNat]?.getD 0 < ms[k.toNat]?.getD 0)) []
    rw [List.map_nil, due_eq h1 h2] at e0
    simp only [bE_ok, eLst, aNil_app]
    simp [eV_app, startS, eIsi, eNot, eAnd, eOr, eChain, sRet, sSeq, sSet, sIf, sNx, sDrop, sRaise, sRetN, aCons, eB, eCall, eTup, eLst, eIf, bAnd, bOr, bNot, tst, allD, viewT, viewL, viewX, tyD, isiB, hName, hTup, hsCons, hsNil, iSeq, wipeS, sAsg, gLe, gLt, gGe, gGt, gSub, gI20, gIsN, gNotN, gNotB, newL, eCut, ePart, gCut, iZip2, sFor, gEq, toD, ok1, ok2, eqvD, e0]
  · simp [eV_app, startS, eIsi, eNot, eAnd, eOr, eChain, sRet, sSeq, sSet, sIf, sNx, sDrop, sRaise, sRetN, aCons, eB, eCall, eTup, eLst, eIf, bAnd, bOr, bNot, tst, allD, viewT, viewL, viewX, tyD, isiB, hName, hTup, hsCons, hsNil, iSeq, wipeS, sAsg, gLe, gLt, gGe, gGt, gSub, gI20, gIsN, gNotN, gNotB, newL, eCut, ePart, gCut, iZip2, sFor, iRg]
  · rw [rgI_length]; decide
  · intro k hk
    rw [mem_rgI] at hk
    obtain ⟨x, p1, p2⟩ := atI_map D.int (xs := ms) (r := k) hk.1 (by omega)
    obtain ⟨y, q1, q2⟩ := atI_map D.int (xs := bins) (r := k) hk.1 (by omega)
    refine ⟨_, rfl, ?_, fun _ => by simp [eV_app, startS, eIsi, eNot, eAnd, eOr, eChain, sRet, sSeq, sSet, sIf, sNx, sDrop, sRaise, sRetN, aCons, eB, eCall, eTup, eLst, eIf, bAnd, bOr, bNot, tst, allD, viewT, viewL, viewX, tyD, isiB, hName, hTup, hsCons, hsNil, iSeq, wipeS, sAsg, gLe, gLt, gGe, gGt, gSub, gI20, gIsN, gNotN, gNotB, newL, eCut, ePart, gCut, iZip2, sFor]⟩
    rw [p1, q1]
    simp [eV_app, startS, eIsi, eNot, eAnd, eOr, eChain, sRet, sSeq, sSet, sIf, sNx, sDrop, sRaise, sRetN, aCons, eB, eCall, eTup, eLst, eIf, bAnd, bOr, bNot, tst, allD, viewT, viewL, viewX, tyD, isiB, hName, hTup, hsCons, hsNil, iSeq, wipeS, sAsg, gLe, gLt, gGe, gGt, gSub, gI20, gIsN, gNotN, gNotB, newL, eCut, ePart, gCut, iZip2, sFor, gIx, p2, q2]
end K03
end

section
set_option linter.all false
set_option maxRecDepth 100000
set_option maxHeartbeats 2000000
namespace K03
open PySem DL
theorem sIf_no {c : BF} {a b : SF} {ρ : List S} {μ μ1 : List MO} {r : Option SR} (h : c ρ μ = some (.ok false μ1)) (hb : b ρ μ1 = r) : sIf c a b ρ μ = r := by
  simp only [sIf, h]; exact hb
theorem Ok_mono {N N' : Nat} {d : Dice} (h : d.Ok N) (hn : N ≤ N') : d.Ok N' := by
  obtain ⟨a1, a2, a3, a4, a5⟩ := h
  exact ⟨a1, a2, a3, a4, by omega⟩
theorem s_right {M : Dice → List MO} {i : Nat} (hM : Sto M i) {N : Nat} {d : Dice} (hd : d.Ok N) (hN : N + 10000 < 1000000) : ∃ e, g__law_right [.m i] (M d) = some (.ok (.d (.bl true)) (M e)) := by
  obtain ⟨fd, d1, p1, p2, p3⟩ := s_pick hM (ds := [.int 10, .int 40, .int 990]) hd (by omega) (by simp [eV_app, startS, eIsi, eNot, eAnd, eOr, eChain, sRet, sSeq, sSet, sIf, sNx, sDrop, sRaise, sRetN, aCons, eB, eCall, eTup, eLst, eIf, bAnd, bOr, bNot, tst, allD, viewT, viewL, viewX, tyD, isiB, hName, hTup, hsCons, hsNil, iSeq, wipeS, sAsg, gLe, gLt, gGe, gGt, gSub, gI20, gIsN, gNotN, gNotB, newL, eCut, ePart, gCut, iZip2, sFor]) (by simp [eV_app, startS, eIsi, eNot, eAnd, eOr, eChain, sRet, sSeq, sSet, sIf, sNx, sDrop, sRaise, sRetN, aCons, eB, eCall, eTup, eLst, eIf, bAnd, bOr, bNot, tst, allD, viewT, viewL, viewX, tyD, isiB, hName, hTup, hsCons, hsNil, iSeq, wipeS, sAsg, gLe, gLt, gGe, gGt, gSub, gI20, gIsN, gNotN, gNotB, newL, eCut, ePart, gCut, iZip2, sFor])
  have hfar : ∃ far : Int, fd = .int far ∧ 0 < far ∧ far ≤ 990 := by
    simp only [List.mem_cons, List.not_mem_nil, or_false] at p2
    rcases p2 with rfl | rfl | rfl <;> exact ⟨_, rfl, by omega, by omega⟩
  obtain ⟨far, rfl, f1, f2⟩ := hfar
  obtain ⟨ps, d2, q1, hs, q3⟩ := r_sizes hM (c := [.un, .un, .un, .un, .un, .un, .un, .un, .un, .un, .un, .un, .un, .un, .un, .un, .un, .un]) p3 (by omega) f1 f2
  obtain ⟨ws, d3, w1, hw, w3⟩ := r_widths hM (sz := .d (szD ps)) (s3 := .un) (c := [.un, .un, .un, .un, .un, .un, .un, .un, .un, .un, .un, .un, .un, .un, .un, .un]) q3 (by omega) f1 f2
  obtain ⟨u1, u2, u3, u4⟩ := widths_pw hw
  obtain ⟨s1, s2, s3⟩ := hs
  have hs : SzOk ps := ⟨s1, s2, s3⟩
  have hmc := mc_ok hs hw
  have hmach := r_machine (i := i) (s1 := .d (.int far)) (s3 := .un) (s5 := .un) (c := [.un, .un, .un, .un, .un, .un, .un, .un, .un, .un, .un, .un, .un, .un]) (μ := M d3) hs hw
  have hmof := s_machine_of (μ := M d3) hw hs
  have emc : (D.tup (ps.map fun p => tupI (takes ws p))) = mcD (ps.map (takes ws)) := by simp [eV_app, startS, eIsi, eNot, eAnd, eOr, eChain, sRet, sSeq, sSet, sIf, sNx, sDrop, sRaise, sRetN, aCons, eB, eCall, eTup, eLst, eIf, bAnd, bOr, bNot, tst, allD, viewT, viewL, viewX, tyD, isiB, hName, hTup, hsCons, hsNil, iSeq, wipeS, sAsg, gLe, gLt, gGe, gGt, gSub, gI20, gIsN, gNotN, gNotB, newL, eCut, ePart, gCut, iZip2, sFor, mcD, List.map_map]
  rw [emc] at hmof
  obtain ⟨b9, hcl⟩ := r_clash (a0 := .m i) (a1 := .d (.int far)) (a3 := .un) (a4 := .d (tupI ws)) (a5 := .un) (a6 := .d (mcD (ps.map (takes ws)))) (a7 := .un) (a9 := .un) (a10 := .un) (c := [.un, .un, .un, .un, .un, .un, .un, .un, .un, .un, .un]) (μ := M d3) hs
  have hpar := s_parted (μ := M d3) hs
  rw [partedR_eq] at hpar
  have hv : ∀ p ∈ ps, p.1 ≤ p.2 := fun p hp => (s3 p hp).2.1
  have hci := clash_iff hv
  -- where to start
  have hstart : ∃ st : List Int, st.length ≤ 7 ∧ (if clashB (sortP ps) then st = ws else st = foundW ps) := by
    by_cases hc : clashB (sortP ps) = true
    · exact ⟨ws, u2, by rw [if_pos hc]⟩
    · refine ⟨foundW ps, ?_, by rw [if_neg hc]⟩
      have := (found_fit hs (by simpa [eV_app, startS, eIsi, eNot, eAnd, eOr, eChain, sRet, sSeq, sSet, sIf, sNx, sDrop, sRaise, sRetN, aCons, eB, eCall, eTup, eLst, eIf, bAnd, bOr, bNot, tst, allD, viewT, viewL, viewX, tyD, isiB, hName, hTup, hsCons, hsNil, iSeq, wipeS, sAsg, gLe, gLt, gGe, gGt, gSub, gI20, gIsN, gNotN, gNotB, newL, eCut, ePart, gCut, iZip2, sFor] using hc)).2.1
      omega
  obtain ⟨st, st7, hst⟩ := hstart
  generalize hfd : (if clashB (sortP ps) = true then D.non else tupI (foundW ps)) = fd at hpar
  obtain ⟨d4, b13, b14, b15, b16, ht, t2⟩ := r_turns hM (a3 := .un) (a5 := .un) (a6 := .d (mcD (ps.map (takes ws)))) (a7 := .un) (a8 := .d (.lst ((clashL ps ps.length).map .int))) (a9 := b9) (a10 := .un) (a11 := .d fd) (a13 := .un) (a14 := .un) (a15 := .un) (a16 := .un) (c := [.un, .un, .un, .un, .un]) w3 (by omega) f1 f2 hs u2 st7
  obtain ⟨bag, d5, bg1, bg2, bg3⟩ := s_b_bag hM (kinds := ps.length) t2 (by omega) (by omega)
  have hmlen : (ps.map (takes ws)).length = ps.length := List.length_map _
  have hbl : bag.length = ps.length := bg2.1
  have hmost := r_most (m := ps.map (takes ws)) (bag := bag) (a0 := .m i) (a1 := .d (.int far)) (a2 := .d (szD ps)) (a3 := .un) (a4 := .d (tupI ws)) (a5 := .un) (a7 := .un) (a8 := .d (.lst ((clashL ps ps.length).map .int))) (a9 := b9) (a10 := .un) (a11 := .d fd) (a12 := .d (tupI st)) (a13 := b13) (a14 := b14) (a15 := b15) (a16 := b16) (a18 := .un) (a19 := .un) (c := [.un, .un]) (μ := M d5) (by omega) (by omega)
  obtain ⟨fl8, flb⟩ := fillsR_bound (m := ps.map (takes ws)) bg2 s2
  have hd5 : d5.Ok (N + 1000) := Ok_mono bg3 (by omega)
  obtain ⟨bins, d6, bn1, bn2, bn3⟩ := r_bins hM (a1 := .d (.int far)) (a2 := .d (szD ps)) (a3 := .un) (a4 := .d (tupI ws)) (a5 := .un) (a6 := .d (mcD (ps.map (takes ws)))) (a7 := .un) (a8 := .d (.lst ((clashL ps ps.length).map .int))) (a9 := b9) (a10 := .un) (a11 := .d fd) (a12 := .d (tupI st)) (a13 := b13) (a14 := b14) (a15 := b15) (a16 := b16) (a17 := .d (tupI bag)) (c := [.un, .un, .un]) hd5 (by omega) fl8 flb
  have hdue := r_due (a0 := .m i) (a1 := .d (.int far)) (a2 := .d (szD ps)) (a3 := .un) (a4 := .d (tupI ws)) (a5 := .un) (a6 := .d (mcD (ps.map (takes ws)))) (a7 := .un) (a8 := .d (.lst ((clashL ps ps.length).map .int))) (a9 := b9) (a10 := .un) (a11 := .d fd) (a12 := .d (tupI st)) (a13 := b13) (a14 := b14) (a15 := b15) (a16 := b16) (a17 := .d (tupI bag)) (a19 := .un) (c := [.un]) (μ := M d6) fl8 bn2.1
  have hbag' : IntsIn bag (ps.map (takes ws)).length 0 1800 := by rw [hmlen]; exact bg2
  have hfills := fun μ => s_fills (μ := μ) hmc hbag'
  have hnev := fun μ => s_never (μ := μ) hmc hbag' bn2
  obtain ⟨d7, rf1, rf2⟩ := s_refuses hM bn3 (by omega) hs
  refine ⟨d7, ?_⟩
  show fin (M d).length (fb__law_right [.m i, .un, .un, .un, .un, .un, .un, .un, .un, .un, .un, .un, .un, .un, .un, .un, .un, .un, .un, .un, .un, .un] (M d)) = _
  have main : fb__law_right [.m i, .un, .un, .un, .un, .un, .un, .un, .un, .un, .un, .un, .un, .un, .un, .un, .un, .un, .un, .un, .un, .un] (M d) = some (.ret (.d (.bl true)) (M d7)) := by
    unfold fb__law_right
    refine sSeq_nx (sSet_ok (s := .d (.int far)) (μ1 := M d1) (by simp [eV_app, startS, eIsi, eNot, eAnd, eOr, eChain, sRet, sSeq, sSet, sIf, sNx, sDrop, sRaise, sRetN, aCons, eB, eCall, eTup, eLst, eIf, bAnd, bOr, bNot, tst, allD, viewT, viewL, viewX, tyD, isiB, hName, hTup, hsCons, hsNil, iSeq, wipeS, sAsg, gLe, gLt, gGe, gGt, gSub, gI20, gIsN, gNotN, gNotB, newL, eCut, ePart, gCut, iZip2, sFor, p1])) ?_
    simp only [List.set_cons_succ, List.set_cons_zero]
    refine sSeq_nx (sSet_ok q1) ?_
    simp only [List.set_cons_succ, List.set_cons_zero]
    refine sSeq_nx (sSet_ok w1) ?_
    simp only [List.set_cons_succ, List.set_cons_zero]
    refine sSeq_nx (sSet_ok hmach) ?_
    simp only [List.set_cons_succ, List.set_cons_zero]
    refine sSeq_nx (sIf_no (μ1 := M d3) (by simp [eV_app, startS, eIsi, eNot, eAnd, eOr, eChain, sRet, sSeq, sSet, sIf, sNx, sDrop, sRaise, sRetN, aCons, eB, eCall, eTup, eLst, eIf, bAnd, bOr, bNot, tst, allD, viewT, viewL, viewX, tyD, isiB, hName, hTup, hsCons, hsNil, iSeq, wipeS, sAsg, gLe, gLt, gGe, gGt, gSub, gI20, gIsN, gNotN, gNotB, newL, eCut, ePart, gCut, iZip2, sFor, hmof, gNe_same (ok_mc 18 _), eCallK0, pmF]) rfl) ?_
    refine sSeq_nx (sSet_ok (s := .d (.lst [])) (μ1 := M d3) (by simp [eV_app, startS, eIsi, eNot, eAnd, eOr, eChain, sRet, sSeq, sSet, sIf, sNx, sDrop, sRaise, sRetN, aCons, eB, eCall, eTup, eLst, eIf, bAnd, bOr, bNot, tst, allD, viewT, viewL, viewX, tyD, isiB, hName, hTup, hsCons, hsNil, iSeq, wipeS, sAsg, gLe, gLt, gGe, gGt, gSub, gI20, gIsN, gNotN, gNotB, newL, eCut, ePart, gCut, iZip2, sFor])) ?_
    simp only [List.set_cons_succ, List.set_cons_zero]
    refine sSeq_nx hcl ?_
    refine sSeq_nx (sSet_ok (s := .d fd) (μ1 := M d3) (by simp [eV_app, startS, eIsi, eNot, eAnd, eOr, eChain, sRet, sSeq, sSet, sIf, sNx, sDrop, sRaise, sRetN, aCons, eB, eCall, eTup, eLst, eIf, bAnd, bOr, bNot, tst, allD, viewT, viewL, viewX, tyD, isiB, hName, hTup, hsCons, hsNil, iSeq, wipeS, sAsg, gLe, gLt, gGe, gGt, gSub, gI20, gIsN, gNotN, gNotB, newL, eCut, ePart, gCut, iZip2, sFor, eCallK0, pmF, hpar])) ?_
    simp only [List.set_cons_succ, List.set_cons_zero]
    refine sSeq_nx (sIf_no (μ1 := M d3) ?_ rfl) ?_
    · have okc : okD 20 (.lst ((clashL ps ps.length).map D.int)) = true := by
        simp only [okD]; exact okDs_map _ _ fun x _ => ok_int _ x
      have okn : okD 20 (.lst []) = true := rfl
      have e0 := eqv_ints (clashL ps ps.length) []
      rw [List.map_nil] at e0
      have gn : ∀ μ, gNe (.d (.lst ((clashL ps ps.length).map .int))) (.d (.lst [])) μ = some (.ok (.d (.bl (clashB (sortP ps)))) μ) := fun μ => by
        simp only [gNe, toD, okc, okn, and_self, if_true, eqvD, e0]
        cases hc : clashB (sortP ps) with
        | false => rw [hci.mp hc]; rfl
        | true =>
          have : clashL ps ps.length ≠ [] := fun z => by rw [hci.mpr z] at hc; cases hc
          have : (clashL ps ps.length == []) = false := by simpa [eV_app, startS, eIsi, eNot, eAnd, eOr, eChain, sRet, sSeq, sSet, sIf, sNx, sDrop, sRaise, sRetN, aCons, eB, eCall, eTup, eLst, eIf, bAnd, bOr, bNot, tst, allD, viewT, viewL, viewX, tyD, isiB, hName, hTup, hsCons, hsNil, iSeq, wipeS, sAsg, gLe, gLt, gGe, gGt, gSub, gI20, gIsN, gNotN, gNotB, newL, eCut, ePart, gCut, iZip2, sFor] using this
          rw [this]; rfl
      have gi : gIsN (.d fd) (.d .non) (M d3) = some (.ok (.d (.bl (clashB (sortP ps)))) (M d3)) := by
        rw [← hfd]
        cases hc : clashB (sortP ps) <;> simp [eV_app, startS, eIsi, eNot, eAnd, eOr, eChain, sRet, sSeq, sSet, sIf, sNx, sDrop, sRaise, sRetN, aCons, eB, eCall, eTup, eLst, eIf, bAnd, bOr, bNot, tst, allD, viewT, viewL, viewX, tyD, isiB, hName, hTup, hsCons, hsNil, iSeq, wipeS, sAsg, gLe, gLt, gGe, gGt, gSub, gI20, gIsN, gNotN, gNotB, newL, eCut, ePart, gCut, iZip2, sFor]
      simp only [tst, e2_app, eV_app, List.getElem?_cons_succ, List.getElem?_cons_zero, bE_ok, eC_app, eLst, aNil_app, bAE_ok, allD, gi]
      simp [eV_app, startS, eIsi, eNot, eAnd, eOr, eChain, sRet, sSeq, sSet, sIf, sNx, sDrop, sRaise, sRetN, aCons, eB, eCall, eTup, eLst, eIf, bAnd, bOr, bNot, tst, allD, viewT, viewL, viewX, tyD, isiB, hName, hTup, hsCons, hsNil, iSeq, wipeS, sAsg, gLe, gLt, gGe, gGt, gSub, gI20, gIsN, gNotN, gNotB, newL, eCut, ePart, gCut, iZip2, sFor, gn, gNe_bl]
    refine sSeq_nx (sIf_no (μ1 := M d3) ?_ rfl) ?_
    · cases hc : clashB (sortP ps) with
      | true =>
        rw [hc, if_pos rfl] at hfd
        subst hfd
        simp [eV_app, startS, eIsi, eNot, eAnd, eOr, eChain, sRet, sSeq, sSet, sIf, sNx, sDrop, sRaise, sRetN, aCons, eB, eCall, eTup, eLst, eIf, bAnd, bOr, bNot, tst, allD, viewT, viewL, viewX, tyD, isiB, hName, hTup, hsCons, hsNil, iSeq, wipeS, sAsg, gLe, gLt, gGe, gGt, gSub, gI20, gIsN, gNotN, gNotB, newL, eCut, ePart, gCut, iZip2, sFor]
      | false =>
        rw [hc, if_neg (by simp [eV_app, startS, eIsi, eNot, eAnd, eOr, eChain, sRet, sSeq, sSet, sIf, sNx, sDrop, sRaise, sRetN, aCons, eB, eCall, eTup, eLst, eIf, bAnd, bOr, bNot, tst, allD, viewT, viewL, viewX, tyD, isiB, hName, hTup, hsCons, hsNil, iSeq, wipeS, sAsg, gLe, gLt, gGe, gGt, gSub, gI20, gIsN, gNotN, gNotB, newL, eCut, ePart, gCut, iZip2, sFor])] at hfd
        subst hfd
        obtain ⟨ff1, ff2, ff3⟩ := found_fit hs hc
        have wp := w_parts (ps := ps) (ns := foundW ps) (μ := M d3) hs (by omega)
        have ip := s_is_parted (v := tupI (foundW ps)) (n := 5) (μ := M d3) hs (ok_tupI 4 _)
        rw [ff1] at wp ip
        have gl : gNe (.d (.int (foundW ps).length)) (.d (.int (max 1 ((ps.length : Int) - 1)))) (M d3) = some (.ok (.d (.bl false)) (M d3)) := by
          have : ((foundW ps).length : Int) = max 1 ((ps.length : Int) - 1) := by omega
          rw [this]; exact gNe_same (ok_int _ _)
        have nn : gNotN (.d (tupI (foundW ps))) (.d .non) (M d3) = some (.ok (.d (.bl true)) (M d3)) := rfl
        simp [eV_app, startS, eIsi, eNot, eAnd, eOr, eChain, sRet, sSeq, sSet, sIf, sNx, sDrop, sRaise, sRetN, aCons, eB, eCall, eTup, eLst, eIf, bAnd, bOr, bNot, tst, allD, viewT, viewL, viewX, tyD, isiB, hName, hTup, hsCons, hsNil, iSeq, wipeS, sAsg, gLe, gLt, gGe, gGt, gSub, gI20, gIsN, gNotN, gNotB, newL, eCut, ePart, gCut, iZip2, sFor, wp, gLen, gMax, gl, ip]
    refine sSeq_nx (sSet_ok (s := .d (tupI st)) (μ1 := M d3) ?_) ?_
    · cases hc : clashB (sortP ps) with
      | true =>
        rw [hc, if_pos rfl] at hfd hst
        subst hfd hst
        simp [eV_app, startS, eIsi, eNot, eAnd, eOr, eChain, sRet, sSeq, sSet, sIf, sNx, sDrop, sRaise, sRetN, aCons, eB, eCall, eTup, eLst, eIf, bAnd, bOr, bNot, tst, allD, viewT, viewL, viewX, tyD, isiB, hName, hTup, hsCons, hsNil, iSeq, wipeS, sAsg, gLe, gLt, gGe, gGt, gSub, gI20, gIsN, gNotN, gNotB, newL, eCut, ePart, gCut, iZip2, sFor]
      | false =>
        rw [hc, if_neg (by simp [eV_app, startS, eIsi, eNot, eAnd, eOr, eChain, sRet, sSeq, sSet, sIf, sNx, sDrop, sRaise, sRetN, aCons, eB, eCall, eTup, eLst, eIf, bAnd, bOr, bNot, tst, allD, viewT, viewL, viewX, tyD, isiB, hName, hTup, hsCons, hsNil, iSeq, wipeS, sAsg, gLe, gLt, gGe, gGt, gSub, gI20, gIsN, gNotN, gNotB, newL, eCut, ePart, gCut, iZip2, sFor])] at hfd hst
        subst hfd hst
        simp [eV_app, startS, eIsi, eNot, eAnd, eOr, eChain, sRet, sSeq, sSet, sIf, sNx, sDrop, sRaise, sRetN, aCons, eB, eCall, eTup, eLst, eIf, bAnd, bOr, bNot, tst, allD, viewT, viewL, viewX, tyD, isiB, hName, hTup, hsCons, hsNil, iSeq, wipeS, sAsg, gLe, gLt, gGe, gGt, gSub, gI20, gIsN, gNotN, gNotB, newL, eCut, ePart, gCut, iZip2, sFor]
    simp only [List.set_cons_succ, List.set_cons_zero]
    refine sSeq_nx ht ?_
    refine sSeq_nx (sSet_ok (s := .d (tupI bag)) (μ1 := M d5) (by simp [eV_app, startS, eIsi, eNot, eAnd, eOr, eChain, sRet, sSeq, sSet, sIf, sNx, sDrop, sRaise, sRetN, aCons, eB, eCall, eTup, eLst, eIf, bAnd, bOr, bNot, tst, allD, viewT, viewL, viewX, tyD, isiB, hName, hTup, hsCons, hsNil, iSeq, wipeS, sAsg, gLe, gLt, gGe, gGt, gSub, gI20, gIsN, gNotN, gNotB, newL, eCut, ePart, gCut, iZip2, sFor, gLen, bg1])) ?_
    simp only [List.set_cons_succ, List.set_cons_zero]
    refine sSeq_nx (sSet_ok hmost) ?_
    simp only [List.set_cons_succ, List.set_cons_zero]
    refine sSeq_nx (sSet_ok bn1) ?_
    simp only [List.set_cons_succ, List.set_cons_zero]
    refine sSeq_nx (sSet_ok hdue) ?_
    simp only [List.set_cons_succ, List.set_cons_zero]
    refine sSeq_nx (sIf_no (μ1 := M d6) ?_ rfl) ?_
    · have okf : okD 20 (.lst ((fillsR (ps.map (takes ws)) bag).map D.int)) = true := by
        simp only [okD]; exact okDs_map _ _ fun x _ => ok_int _ x
      simp [eV_app, startS, eIsi, eNot, eAnd, eOr, eChain, sRet, sSeq, sSet, sIf, sNx, sDrop, sRaise, sRetN, aCons, eB, eCall, eTup, eLst, eIf, bAnd, bOr, bNot, tst, allD, viewT, viewL, viewX, tyD, isiB, hName, hTup, hsCons, hsNil, iSeq, wipeS, sAsg, gLe, gLt, gGe, gGt, gSub, gI20, gIsN, gNotN, gNotB, newL, eCut, ePart, gCut, iZip2, sFor, hfills, gLst, tupI, gNe_same okf, eCallK0, pmF, gNe_same (ok_tupI 19 (fillsR (ps.map (takes ws)) bag))]
      try have := gNe_same (μ := M d6) (ok_tupI 19 (fillsR (ps.map (takes ws)) bag))
      try simp only [tupI] at this
      try simp [eV_app, startS, eIsi, eNot, eAnd, eOr, eChain, sRet, sSeq, sSet, sIf, sNx, sDrop, sRaise, sRetN, aCons, eB, eCall, eTup, eLst, eIf, bAnd, bOr, bNot, tst, allD, viewT, viewL, viewX, tyD, isiB, hName, hTup, hsCons, hsNil, iSeq, wipeS, sAsg, gLe, gLt, gGe, gGt, gSub, gI20, gIsN, gNotN, gNotB, newL, eCut, ePart, gCut, iZip2, sFor, this]
    simp [eV_app, startS, eIsi, eNot, eAnd, eOr, eChain, sRet, sSeq, sSet, sIf, sNx, sDrop, sRaise, sRetN, aCons, eB, eCall, eTup, eLst, eIf, bAnd, bOr, bNot, tst, allD, viewT, viewL, viewX, tyD, isiB, hName, hTup, hsCons, hsNil, iSeq, wipeS, sAsg, gLe, gLt, gGe, gGt, gSub, gI20, gIsN, gNotN, gNotB, newL, eCut, ePart, gCut, iZip2, sFor, hnev, gEq_bl, eCallK0, pmF, rf1]
  rw [main, fin_d, hM.take]
end K03
end

section
set_option linter.all false
set_option maxRecDepth 100000
set_option maxHeartbeats 2000000
namespace K03
open PySem DL
theorem sto_last (μ : List MO) : Sto (fun d => μ ++ [d.mo]) μ.length := ⟨fun d => get_last μ _, fun d e => set_last μ _ _⟩
theorem law_body {ns : List Int} {spot : Nat} {μ : List MO} (hl : ns.length ≤ 63) (hs : spot ≤ 10) : ∃ μ', lb_law_0 [.d (.scr ns), .d (.int spot)] μ = some (.nx [.d (.scr ns), .d (.int spot)] μ') := by
  obtain ⟨d, h1, h2⟩ := s_dice (μ := μ) hl hs
  obtain ⟨e, h3⟩ := s_right (sto_last μ) h1 (by omega)
  refine ⟨μ ++ [e.mo], ?_⟩
  unfold lb_law_0
  refine sIf_no (μ1 := μ ++ [e.mo]) ?_ rfl
  simp [eV_app, startS, eIsi, eNot, eAnd, eOr, eChain, sRet, sSeq, sSet, sIf, sNx, sDrop, sRaise, sRetN, aCons, eB, eCall, eTup, eLst, eIf, bAnd, bOr, bNot, tst, allD, viewT, viewL, viewX, tyD, isiB, hName, hTup, hsCons, hsNil, iSeq, wipeS, sAsg, gLe, gLt, gGe, gGt, gSub, gI20, gIsN, gNotN, gNotB, newL, eCut, ePart, gCut, iZip2, sFor, h2, h3]
theorem sort1 : sortP [(5, 9)] = [(5, 9)] := (sortP_eq (List.Perm.refl _) (by simp [eV_app, startS, eIsi, eNot, eAnd, eOr, eChain, sRet, sSeq, sSet, sIf, sNx, sDrop, sRaise, sRetN, aCons, eB, eCall, eTup, eLst, eIf, bAnd, bOr, bNot, tst, allD, viewT, viewL, viewX, tyD, isiB, hName, hTup, hsCons, hsNil, iSeq, wipeS, sAsg, gLe, gLt, gGe, gGt, gSub, gI20, gIsN, gNotN, gNotB, newL, eCut, ePart, gCut, iZip2, sFor])).symm
theorem sort2 : sortP [(1, 5), (5, 9)] = [(1, 5), (5, 9)] := (sortP_eq (List.Perm.refl _) (by simp [eV_app, startS, eIsi, eNot, eAnd, eOr, eChain, sRet, sSeq, sSet, sIf, sNx, sDrop, sRaise, sRetN, aCons, eB, eCall, eTup, eLst, eIf, bAnd, bOr, bNot, tst, allD, viewT, viewL, viewX, tyD, isiB, hName, hTup, hsCons, hsNil, iSeq, wipeS, sAsg, gLe, gLt, gGe, gGt, gSub, gI20, gIsN, gNotN, gNotB, newL, eCut, ePart, gCut, iZip2, sFor, leP])).symm
theorem plain : ∀ ns : List Int, ns.length ≤ 63 → (∀ z ∈ ns, Builtin.Int.intBits z ≤ 1048576) → ∃ μ', g_law [.d (.scr ns)] [] = some (.ok (.d (.bl true)) μ') := by
  intro ns hl _
  have hk : (0 : Int) ≤ max 1 (min 6 (ns.length : Int)) ∧ max 1 (min 6 (ns.length : Int)) ≤ 6 := by omega
  obtain ⟨ρ', μ', e1, e2⟩ := forF_inv (h := hName 1) (b := lb_law_0) D.int (full := rgI 0 (max 1 (min 6 (ns.length : Int))))
    (fun done ρ μ' => ∃ b, ρ = [.d (.scr ns), b])
    (fun done x rest ρ μ' hf hI => by
      obtain ⟨b, rfl⟩ := hI
      obtain ⟨hx, hx2⟩ := rgI_split hf
      obtain ⟨μ2, h⟩ := law_body (ns := ns) (spot := done.length) (μ := μ') hl (by omega)
      have : x = (done.length : Int) := by omega
      subst this
      exact ⟨_, _, μ2, rfl, h, _, rfl⟩)
    (rgI 0 (max 1 (min 6 (ns.length : Int)))) [] [.d (.scr ns), .un] [] rfl ⟨.un, rfl⟩
  obtain ⟨b, rfl⟩ := e2
  have sz1 : SzOk [(5, 9)] := ⟨by simp [eV_app, startS, eIsi, eNot, eAnd, eOr, eChain, sRet, sSeq, sSet, sIf, sNx, sDrop, sRaise, sRetN, aCons, eB, eCall, eTup, eLst, eIf, bAnd, bOr, bNot, tst, allD, viewT, viewL, viewX, tyD, isiB, hName, hTup, hsCons, hsNil, iSeq, wipeS, sAsg, gLe, gLt, gGe, gGt, gSub, gI20, gIsN, gNotN, gNotB, newL, eCut, ePart, gCut, iZip2, sFor], by simp [eV_app, startS, eIsi, eNot, eAnd, eOr, eChain, sRet, sSeq, sSet, sIf, sNx, sDrop, sRaise, sRetN, aCons, eB, eCall, eTup, eLst, eIf, bAnd, bOr, bNot, tst, allD, viewT, viewL, viewX, tyD, isiB, hName, hTup, hsCons, hsNil, iSeq, wipeS, sAsg, gLe, gLt, gGe, gGt, gSub, gI20, gIsN, gNotN, gNotB, newL, eCut, ePart, gCut, iZip2, sFor], by simp [eV_app, startS, eIsi, eNot, eAnd, eOr, eChain, sRet, sSeq, sSet, sIf, sNx, sDrop, sRaise, sRetN, aCons, eB, eCall, eTup, eLst, eIf, bAnd, bOr, bNot, tst, allD, viewT, viewL, viewX, tyD, isiB, hName, hTup, hsCons, hsNil, iSeq, wipeS, sAsg, gLe, gLt, gGe, gGt, gSub, gI20, gIsN, gNotN, gNotB, newL, eCut, ePart, gCut, iZip2, sFor]⟩
  have sz2 : SzOk [(1, 5), (5, 9)] := ⟨by simp [eV_app, startS, eIsi, eNot, eAnd, eOr, eChain, sRet, sSeq, sSet, sIf, sNx, sDrop, sRaise, sRetN, aCons, eB, eCall, eTup, eLst, eIf, bAnd, bOr, bNot, tst, allD, viewT, viewL, viewX, tyD, isiB, hName, hTup, hsCons, hsNil, iSeq, wipeS, sAsg, gLe, gLt, gGe, gGt, gSub, gI20, gIsN, gNotN, gNotB, newL, eCut, ePart, gCut, iZip2, sFor], by simp [eV_app, startS, eIsi, eNot, eAnd, eOr, eChain, sRet, sSeq, sSet, sIf, sNx, sDrop, sRaise, sRetN, aCons, eB, eCall, eTup, eLst, eIf, bAnd, bOr, bNot, tst, allD, viewT, viewL, viewX, tyD, isiB, hName, hTup, hsCons, hsNil, iSeq, wipeS, sAsg, gLe, gLt, gGe, gGt, gSub, gI20, gIsN, gNotN, gNotB, newL, eCut, ePart, gCut, iZip2, sFor], by simp [eV_app, startS, eIsi, eNot, eAnd, eOr, eChain, sRet, sSeq, sSet, sIf, sNx, sDrop, sRaise, sRetN, aCons, eB, eCall, eTup, eLst, eIf, bAnd, bOr, bNot, tst, allD, viewT, viewL, viewX, tyD, isiB, hName, hTup, hsCons, hsNil, iSeq, wipeS, sAsg, gLe, gLt, gGe, gGt, gSub, gI20, gIsN, gNotN, gNotB, newL, eCut, ePart, gCut, iZip2, sFor]⟩
  have p1 := s_parted (μ := μ') sz1
  have p2 := s_parted (μ := μ') sz2
  have r1 : partedR [(5, 9)] = tupI [1000] := by unfold partedR; rw [sort1]; rfl
  have r2 : partedR [(1, 5), (5, 9)] = .non := by unfold partedR; rw [sort2]; rfl
  rw [r1] at p1
  rw [r2] at p2
  simp only [szD, List.map_cons, List.map_nil, pairD] at p1 p2
  refine ⟨[], ?_⟩
  have hi : iRg none (eB (gMax) (aCons (eC (.int 1)) (aCons (eB (gMin) (aCons (eC (.int 6)) (aCons (eB (gLen) (aCons (eV 0) aNil)) aNil))) aNil))) [.d (.scr ns), .un] [] = some (.ok ((rgI 0 (max 1 (min 6 (ns.length : Int)))).map .int) []) := by
    simp [eV_app, startS, eIsi, eNot, eAnd, eOr, eChain, sRet, sSeq, sSet, sIf, sNx, sDrop, sRaise, sRetN, aCons, eB, eCall, eTup, eLst, eIf, bAnd, bOr, bNot, tst, allD, viewT, viewL, viewX, tyD, isiB, hName, hTup, hsCons, hsNil, iSeq, wipeS, sAsg, gLe, gLt, gGe, gGt, gSub, gI20, gIsN, gNotN, gNotB, newL, eCut, ePart, gCut, iZip2, sFor, iRg, gMax, gMin, gLen]; omega
  show fin 0 (fb_law [.d (.scr ns), .un] []) = _
  have main : fb_law [.d (.scr ns), .un] [] = some (.ret (.d (.bl true)) μ') := by
    unfold fb_law
    refine sSeq_nx (ρ1 := [.d (.scr ns), b]) (μ1 := μ') ?_ ?_
    · unfold sFor; rw [hi]; exact e1
    · simp [eV_app, startS, eIsi, eNot, eAnd, eOr, eChain, sRet, sSeq, sSet, sIf, sNx, sDrop, sRaise, sRetN, aCons, eB, eCall, eTup, eLst, eIf, bAnd, bOr, bNot, tst, allD, viewT, viewL, viewX, tyD, isiB, hName, hTup, hsCons, hsNil, iSeq, wipeS, sAsg, gLe, gLt, gGe, gGt, gSub, gI20, gIsN, gNotN, gNotB, newL, eCut, ePart, gCut, iZip2, sFor, p1, p2, gLen, gEq, toD, ok_int, eqvD]
  rw [main]; rfl
end K03
end


set_option Elab.async false
set_option linter.all false
set_option maxRecDepth 100000
set_option maxHeartbeats 0
open PySem PySem.W PySem.Calls PyProof.Rows
theorem PySem.Challenge.cw_surebag_k03_whole_holes_and_bins_holds : PySem.Challenge.rw_surebag_k03_whole_holes_and_bins.Holds := by
  w_on; o_law
  refine HandSHeadRun.head_any (r := K03.R) (q := view K03.R.prog [41]) (H := K03.hk) (ob := K03.ob) (M := 4000) (loose := K03.loose) (d := HandSHeadRun.topDef K03.R.prog 41) (kwd := []) K03.ob_eq
    (by kernel_rfl) (fun s => by kernel_rfl) K03.run (by kernel_rfl) (by kernel_rfl) (by kernel_rfl) (by rfl) (by first | assumption | decide +kernel) (by decide +kernel) ⟨rfl, rfl, rfl, rfl, rfl, by decide +kernel⟩ ?hw ?hc
  case hw => w_witness2
  case hc =>
    refine LamX.walk_ofTsE (l := PySem.Challenge.rw_surebag_k03_whole_holes_and_bins) (n := 63) (k := 11) (x := "script") (CX := fun w => L2.CX PySem.Challenge.rw_surebag_k03_whole_holes_and_bins.prog w) rfl (by decide) (by kernel_rfl) ⟨rfl, by decide, by decide⟩ ?F (fun w H s e s' z => DL.noCX z)
    intro w mg fa h Y G hmg0
    obtain ⟨K, KX, c⟩ := Y
    have hmg : mg ("law" : PySem.Str) = some (.ref fa) := by
      have e : (HandSHeadRun.topDef K03.R.prog 41).name = ("law" : PySem.Str) := by kernel_rfl
      rw [← e]
      exact hmg0
    refine ⟨K, KX, ?_⟩
    obtain ⟨f0, fd0, hm0, hF0⟩ := (DL.st0_of c.t.d KX G ("law", 41) 29 29 rfl rfl : DL.St0 K mg "law" (K03.topS 41)).ex
    have ef : f0 = fa := Value.ref.inj (Option.some.inj (hm0.symm.trans hmg))
    subst ef
    refine ⟨fd0, K03.tf.map (He.cT K), DL.spG K (K03.wd K) 1 K03.g_law, fun p hp => ?_, fun p hp => ?_, fun p hp => ?_, fun s u => ?_, fun H a ns hl hb hT hS => ?_, fun base KB GB TB => ?_⟩
    · obtain ⟨q, hq, e⟩ := List.mem_map.mp hp
      rw [← e]; exact c.empty q hq
    · obtain ⟨q, hq, e⟩ := List.mem_map.mp hp
      rw [← e]; exact c.out q hq
    · obtain ⟨q, hq, e⟩ := List.mem_map.mp hp
      rw [← e]; exact codeHd_of_K KX (c.hd q hq)
    · obtain ⟨oc, od, kV, doc, pm, an, cdv, ct, osl, rfl, lk, hcd⟩ := hF0.ex
      exact BindsTo.of_eq (K03.bi_law kV doc pm an cdv ct [u] rfl)
    · refine DL.law_sp (fun p hp => ?_) hS (K03.plain ns hl hb)
      obtain ⟨q, hq, e⟩ := K03.wd_tabs K p hp
      have := hT (He.cT K q) (List.mem_map.mpr ⟨q, hq, rfl⟩)
      exact LamX.TabS.nil (by rw [e]; exact this)
    · obtain ⟨f1, fd1, hm1, hF1, hok⟩ := (K03.law_ok c KB GB TB).ex
      have ef : f1 = f0 := Value.ref.inj (Option.some.inj (hm1.symm.trans hmg))
      subst ef
      rw [DL.fun_uniq hF0 hF1]
      exact hok
