import PyProof.Rows.All
import HandS.ForMost
import HandS.Exc
import HandS.Lambda
import HandS.HeadNt
import HandS.WordsExc
import HandS.Style
import HandS.TupAny
import HandS.TupMul
import HandS.Deep
import HandS.IsInst
import HandS.Conv
import HandS.SortInts
import HandS.SortRule
import HandS.Zip
import HandS.Walk
import HandS.Text
import HandS.SetFor
import HandS.Set
import PyProof.Rows.SetFrom
import KE.KExcSuper
import KE.KSuper
import HandS.ExcField
import HandS.FStr
import HandS.Replace
import HandS.RaiseMore
import PyProof.Rows.NestShow
import HandS.HeadWalk
import HandS.EndTab
import HandS.Iter
import KE.GoesMore
import PyProof.StrOps2
import HandS.Head0
import HandS.Head1
import HandS.Head2
import HandS.HeadEnd
import HandS.HeadHook1
import HandS.HeadHook2
import HandS.HeadHook3
import HandS.HeadHook4
import PyProof.ReprLen
import PySem.Challenge.RW_surebag_k05_whole_texts
section
set_option Elab.async false
set_option linter.all false
set_option maxRecDepth 100000
set_option maxHeartbeats 4000000
/-! DLcore: data over the hand layer. -/
namespace DL
open PySem PySem.Spec PyProof.Rows L2

abbrev Sl := List (Option V)
/-! ### data -/
inductive D where
  | non | bl (b : Bool) | int (i : Int) | str (s : Str) | tup (ds : List D) | lst (ds : List D) | dct (ks : List (List Int)) | scr (ns : List Int)
deriving Inhabited

def dtOf (ks : List (List Int)) : List (List Key × V) := ks.map fun k => (k.map Sum.inl, V.bl true)

mutual
inductive Den (K : PySem.W.Frag) (F : Hp) : V → D → Prop
  | non : Den K F .non .non
  | bl (b : Bool) : Den K F (.bl b) (.bl b)
  | int (i : Int) : Den K F (.int i) (.int i)
  | str (s : Str) : Den K F (.str s) (.str s)
  | tup {a : Addr} {xs : List V} {ds : List D} : SqT K F a xs → DenL K F xs ds → Den K F (.ref a) (.tup ds)
  | lst {a : Addr} {xs : List V} {ds : List D} : F a = some (.lst xs) → DenL K F xs ds → Den K F (.ref a) (.lst ds)
  | scr {a : Addr} {ns : List Int} : SqL K F a (ns.map V.int) → Den K F (.ref a) (.scr ns)
  | dct {a : Addr} {ks : List (List Int)} : F a = some (.dT (dtOf ks)) → Den K F (.ref a) (.dct ks)
inductive DenL (K : PySem.W.Frag) (F : Hp) : List V → List D → Prop
  | nil : DenL K F [] []
  | cons {v : V} {vs : List V} {d : D} {ds : List D} : Den K F v d → DenL K F vs ds → DenL K F (v :: vs) (d :: ds)
end

/-- sub-heap -/
abbrev Le (F F' : Hp) : Prop := ∀ a o, F a = some o → F' a = some o
theorem Le.seqT {K : PySem.W.Frag} {F F' : Hp} (e : Le F F') {a : Addr} {xs : List V} (h : SqT K F a xs) : SqT K F' a xs := by
  rcases h with (h | ⟨o, h⟩) | h
  · exact .inl (.inl (e _ _ h))
  · exact .inl (.inr ⟨o, e _ _ h⟩)
  · exact .inr h
theorem Le.seqL {K : PySem.W.Frag} {F F' : Hp} (e : Le F F') {a : Addr} {xs : List V} (h : SqL K F a xs) : SqL K F' a xs := by
  rcases h with (h | ⟨o, h⟩) | h
  · exact .inl (.inl (e _ _ h))
  · exact .inl (.inr ⟨o, e _ _ h⟩)
  · exact .inr h
mutual
theorem Den.mono {K : PySem.W.Frag} {F F' : Hp} (e : Le F F') : ∀ {v : V} {d : D}, Den K F v d → Den K F' v d
  | _, _, .non => .non
  | _, _, .bl b => .bl b
  | _, _, .int i => .int i
  | _, _, .str s => .str s
  | _, _, .tup h l => .tup (e.seqT h) (DenL.mono e l)
  | _, _, .lst h l => .lst (e _ _ h) (DenL.mono e l)
  | _, _, .scr h => .scr (e.seqL h)
  | _, _, .dct h => .dct (e _ _ h)
theorem DenL.mono {K : PySem.W.Frag} {F F' : Hp} (e : Le F F') : ∀ {vs : List V} {ds : List D}, DenL K F vs ds → DenL K F' vs ds
  | _, _, .nil => .nil
  | _, _, .cons h l => .cons (Den.mono e h) (DenL.mono e l)
end
section
variable {K : PySem.W.Frag} {F : Hp}
theorem DenL.length : ∀ {vs : List V} {ds : List D}, DenL K F vs ds → vs.length = ds.length
  | _, _, .nil => rfl
  | _, _, .cons _ l => by simp [DenL.length l]
theorem DenL.get : ∀ {vs : List V} {ds : List D} {i : Nat} {d : D}, DenL K F vs ds → ds[i]? = some d → ∃ v, vs[i]? = some v ∧ Den K F v d
  | _, _, _, _, .nil, e => by simp at e
  | _, _, 0, _, .cons h _, e => by simp at e; subst e; exact ⟨_, rfl, h⟩
  | _, _, i + 1, d, .cons _ l, e => by
    obtain ⟨v, h1, h2⟩ := DenL.get (i := i) (d := d) l (by simpa using e)
    exact ⟨v, by simpa using h1, h2⟩
theorem DenL.getV : ∀ {vs : List V} {ds : List D} {i : Nat} {v : V}, DenL K F vs ds → vs[i]? = some v → ∃ d, ds[i]? = some d ∧ Den K F v d
  | _, _, _, _, .nil, e => by simp at e
  | _, _, 0, _, .cons h _, e => by simp at e; subst e; exact ⟨_, rfl, h⟩
  | _, _, i + 1, d, .cons _ l, e => by
    obtain ⟨v, h1, h2⟩ := DenL.getV (i := i) (v := d) l (by simpa using e)
    exact ⟨v, by simpa using h1, h2⟩
theorem DenL.append : ∀ {vs us : List V} {ds es : List D}, DenL K F vs ds → DenL K F us es → DenL K F (vs ++ us) (ds ++ es)
  | _, _, _, _, .nil, r => r
  | _, _, _, _, .cons h l, r => .cons h (DenL.append l r)
theorem DenL.set {v : V} {d : D} (h : Den K F v d) : ∀ {vs : List V} {ds : List D} (i : Nat), DenL K F vs ds → DenL K F (vs.set i v) (ds.set i d)
  | _, _, _, .nil => .nil
  | _, _, 0, .cons _ l => .cons h l
  | _, _, i + 1, .cons q l => .cons q (DenL.set h i l)
theorem DenL.take : ∀ {vs : List V} {ds : List D} (n : Nat), DenL K F vs ds → DenL K F (vs.take n) (ds.take n)
  | _, _, 0, _ => .nil
  | _, _, _ + 1, .nil => .nil
  | _, _, n + 1, .cons h l => .cons h (DenL.take n l)
theorem DenL.drop : ∀ {vs : List V} {ds : List D} (n : Nat), DenL K F vs ds → DenL K F (vs.drop n) (ds.drop n)
  | _, _, 0, r => r
  | _, _, _ + 1, .nil => .nil
  | _, _, n + 1, .cons _ l => DenL.drop n l
theorem DenL.reverse : ∀ {vs : List V} {ds : List D}, DenL K F vs ds → DenL K F vs.reverse ds.reverse
  | _, _, .nil => .nil
  | _, _, .cons h l => by
    rw [List.reverse_cons, List.reverse_cons]
    exact DenL.append (DenL.reverse l) (.cons h .nil)
theorem DenL.rep {vs : List V} {ds : List D} (h : DenL K F vs ds) : ∀ k : Nat, DenL K F (List.replicate k vs).flatten (List.replicate k ds).flatten
  | 0 => .nil
  | k + 1 => by
    rw [List.replicate_succ, List.replicate_succ, List.flatten_cons, List.flatten_cons]
    exact DenL.append h (DenL.rep h k)
theorem DenL.ints : ∀ {vs : List V} {ns : List Int}, DenL K F vs (ns.map D.int) → vs = ns.map V.int
  | _, [], .nil => rfl
  | _, n :: ns, .cons h l => by
    cases h
    rw [DenL.ints l]; rfl
theorem DenL.of_ints : ∀ (ns : List Int), DenL K F (ns.map V.int) (ns.map D.int)
  | [] => .nil
  | n :: ns => .cons (.int n) (DenL.of_ints ns)
theorem DenL.bls : ∀ {vs : List V} {ns : List Bool}, DenL K F vs (ns.map D.bl) → vs = ns.map V.bl
  | _, [], .nil => rfl
  | _, n :: ns, .cons h l => by
    cases h
    rw [DenL.bls l]; rfl
theorem DenL.strs : ∀ {vs : List V} {ns : List Str}, DenL K F vs (ns.map D.str) → vs = ns.map V.str
  | _, [], .nil => rfl
  | _, n :: ns, .cons h l => by
    cases h
    rw [DenL.strs l]; rfl
theorem DenL.of_strs : ∀ (ns : List Str), DenL K F (ns.map V.str) (ns.map D.str)
  | [] => .nil
  | n :: ns => .cons (.str n) (DenL.of_strs ns)
end

/-! ### slots, mutable objects -/
inductive S where
  | un | d (x : D) | m (i : Nat)
deriving Inhabited
inductive MO where
  | ml (ds : List D) | md (ks : List (List Int))
deriving Inhabited
/-- errors: BadArgument(name), BadText(place) -/
inductive Ex where
  | arg (x : D) | txt (x : D)
inductive ER where
  | ok (s : S) (μ : List MO) | ex (x : Ex) (μ : List MO)
inductive AR where
  | ok (ss : List S) (μ : List MO) | ex (x : Ex) (μ : List MO)
inductive BR where
  | ok (b : Bool) (μ : List MO) | ex (x : Ex) (μ : List MO)
inductive IR where
  | ok (items : List D) (μ : List MO) | ex (x : Ex) (μ : List MO)
inductive SR where
  | nx (ρ : List S) (μ : List MO) | ret (s : S) (μ : List MO) | bk (ρ : List S) (μ : List MO) | ct (ρ : List S) (μ : List MO) | ex (x : Ex) (μ : List MO)
abbrev EF := List S → List MO → Option ER
abbrev AF := List S → List MO → Option AR
abbrev BF := List S → List MO → Option BR
abbrev IF := List S → List MO → Option IR
abbrev SF := List S → List MO → Option SR
abbrev GF := List S → List MO → Option ER
abbrev TF := D → List S → Option (List S)

/-- the tables of code objects; the classes of the errors -/
structure Wd where
  T : List (Addr × Str)
  CA : Addr
  CT : Addr
def Ex.cls (W : Wd) : Ex → Addr
  | .arg _ => W.CA
  | .txt _ => W.CT
def Ex.fld : Ex → Str
  | .arg _ => "name"
  | .txt _ => "place"
def Ex.val : Ex → D
  | .arg x => x
  | .txt x => x

def MOk (K : PySem.W.Frag) (F H : Hp) (a : Addr) : MO → Prop
  | .ml ds => ∃ xs, H a = some (.lst xs) ∧ DenL K F xs ds
  | .md ks => H a = some (.dT (dtOf ks))
structure Rep (K : PySem.W.Frag) (W : Wd) (F : Hp) (L : List Addr) (μ : List MO) (H : Hp) : Prop where
  sub : Le F H
  ft : ∀ a ps, F a ≠ some (.tbl ps)
  tabs : LamX.Tabs W.T H
  nd : L.Nodup
  len : L.length = μ.length
  nf : ∀ a ∈ L, F a = none
  obj : ∀ (i : Nat) (a : Addr) (o : MO), L[i]? = some a → μ[i]? = some o → MOk K F H a o
def DenS (K : PySem.W.Frag) (F : Hp) (L : List Addr) (v : V) : S → Prop
  | .un => True
  | .d x => Den K F v x
  | .m i => ∃ a, L[i]? = some a ∧ v = .ref a
inductive DenSs (K : PySem.W.Frag) (F : Hp) (L : List Addr) : List V → List S → Prop
  | nil : DenSs K F L [] []
  | cons {v : V} {vs : List V} {s : S} {ss : List S} : DenS K F L v s → DenSs K F L vs ss → DenSs K F L (v :: vs) (s :: ss)
def SlotOk (K : PySem.W.Frag) (F : Hp) (L : List Addr) (o : Option V) : S → Prop
  | .un => True
  | s => ∃ v, o = some v ∧ DenS K F L v s
inductive SlotsOk (K : PySem.W.Frag) (F : Hp) (L : List Addr) : List S → Sl → Prop
  | nil : SlotsOk K F L [] []
  | cons {s : S} {ρ : List S} {o : Option V} {σ : Sl} : SlotOk K F L o s → SlotsOk K F L ρ σ → SlotsOk K F L (s :: ρ) (o :: σ)
/-- something stands there, no table -/
def Al (H : Hp) (b : Addr) : Prop := ∃ o, H b = some o ∧ ∀ ps, o ≠ .tbl ps
theorem Al.no {H : Hp} {b : Addr} (h : H b = none) : ¬ Al H b := fun ⟨o, e, _⟩ => by rw [h] at e; cases e
structure Ext (F H : Hp) (L : List Addr) (F' H' : Hp) (L' : List Addr) : Prop where
  ff : Le F F'
  hh : ∀ b o, H b = some o → b ∉ L → (∀ ps, o ≠ .tbl ps) → H' b = some o
  dom : ∀ b, Al H b → Al H' b
  fr : ∀ a, Al H a → F a = none → F' a = none
  lp : ∃ N, L' = L ++ N ∧ ∀ a ∈ N, ¬ Al H a

section
variable {K : PySem.W.Frag} {W : Wd} {F F1 F2 H H1 H2 : Hp} {L L1 L3 : List Addr}
theorem Ext.refl : Ext F H L F H L := ⟨fun _ _ h => h, fun _ _ h _ _ => h, fun _ h => h, fun _ _ h => h, ⟨[], by simp, by simp⟩⟩
theorem Ext.trans (a : Ext F H L F1 H1 L1) (b : Ext F1 H1 L1 F2 H2 L3) : Ext F H L F2 H2 L3 := by
  obtain ⟨N1, e1, n1⟩ := a.lp
  obtain ⟨N2, e2, n2⟩ := b.lp
  refine ⟨fun x o h => b.ff x o (a.ff x o h), fun c o h hc ht => ?_, fun c h => b.dom c (a.dom c h), fun c h hf => b.fr c (a.dom c h) (a.fr c h hf), ⟨N1 ++ N2, by rw [e2, e1, List.append_assoc], fun c hc => ?_⟩⟩
  · refine b.hh c o (a.hh c o h hc ht) (fun z => ?_) ht
    rw [e1] at z
    rcases List.mem_append.mp z with z | z
    · exact hc z
    · exact n1 c z ⟨o, h, ht⟩
  · rcases List.mem_append.mp hc with z | z
    · exact n1 c z
    · exact fun q => n2 c z (a.dom c q)
theorem DenS.mono (e : Ext F H L F1 H1 L1) {v : V} : ∀ {s : S}, DenS K F L v s → DenS K F1 L1 v s
  | .un, h => h
  | .d x, h => Den.mono e.ff h
  | .m i, ⟨a, h1, h2⟩ => by
    obtain ⟨N, e1, _⟩ := e.lp
    refine ⟨a, ?_, h2⟩
    rw [e1]
    obtain ⟨hlt, hv⟩ := List.getElem?_eq_some_iff.mp h1
    rw [List.getElem?_append_left hlt]; exact h1
theorem DenSs.mono (e : Ext F H L F1 H1 L1) : ∀ {vs : List V} {ss : List S}, DenSs K F L vs ss → DenSs K F1 L1 vs ss
  | _, _, .nil => .nil
  | _, _, .cons h l => .cons (h.mono e) (DenSs.mono e l)
theorem SlotOk.mono (e : Ext F H L F1 H1 L1) {o : Option V} : ∀ {s : S}, SlotOk K F L o s → SlotOk K F1 L1 o s
  | .un, _ => trivial
  | .d x, ⟨v, h1, h2⟩ => ⟨v, h1, h2.mono e⟩
  | .m i, ⟨v, h1, h2⟩ => ⟨v, h1, h2.mono e⟩
theorem SlotsOk.mono (e : Ext F H L F1 H1 L1) : ∀ {ρ : List S} {σ : Sl}, SlotsOk K F L ρ σ → SlotsOk K F1 L1 ρ σ
  | _, _, .nil => .nil
  | _, _, .cons h l => .cons (h.mono e) (SlotsOk.mono e l)
theorem SlotsOk.length : ∀ {ρ : List S} {σ : Sl}, SlotsOk K F L ρ σ → ρ.length = σ.length
  | _, _, .nil => rfl
  | _, _, .cons _ l => by simp [SlotsOk.length l]
theorem SlotsOk.get : ∀ {ρ : List S} {σ : Sl} {i : Nat} {s : S}, SlotsOk K F L ρ σ → ρ[i]? = some s → s ≠ .un → ∃ v, σ[i]? = some (some v) ∧ DenS K F L v s
  | _, _, _, _, .nil, e, _ => by simp at e
  | _, _, 0, s, .cons (s := s0) h _, e, hn => by
    have e : s0 = s := by simpa using e
    subst e
    cases s0 with
    | un => exact absurd rfl hn
    | d x => obtain ⟨v, rfl, h2⟩ := h; exact ⟨v, rfl, h2⟩
    | m i => obtain ⟨v, rfl, h2⟩ := h; exact ⟨v, rfl, h2⟩
  | _, _, i + 1, s, .cons _ l, e, hn => by
    obtain ⟨v, h1, h2⟩ := SlotsOk.get (i := i) (s := s) l (by simpa using e) hn
    exact ⟨v, by simpa using h1, h2⟩
theorem SlotOk.of {v : V} : ∀ {s : S}, DenS K F L v s → SlotOk K F L (some v) s
  | .un, _ => trivial
  | .d _, h => ⟨v, rfl, h⟩
  | .m _, h => ⟨v, rfl, h⟩
theorem SlotsOk.set {v : V} {s : S} (h : DenS K F L v s) : ∀ {ρ : List S} {σ : Sl} (i : Nat), SlotsOk K F L ρ σ → SlotsOk K F L (ρ.set i s) (σ.set i (some v))
  | _, _, _, .nil => .nil
  | _, _, 0, .cons _ l => .cons (SlotOk.of h) l
  | _, _, i + 1, .cons q l => .cons q (SlotsOk.set h i l)
theorem SlotsOk.setUn {o : Option V} : ∀ {ρ : List S} {σ : Sl} (i : Nat), SlotsOk K F L ρ σ → SlotsOk K F L (ρ.set i .un) (σ.set i o)
  | _, _, _, .nil => .nil
  | _, _, 0, .cons _ l => .cons trivial l
  | _, _, i + 1, .cons q l => .cons q (SlotsOk.setUn i l)
def startS (n : Nat) (ss : List S) : List S := ss ++ List.replicate (n - ss.length) .un
theorem DenSs.length : ∀ {vs : List V} {ss : List S}, DenSs K F L vs ss → vs.length = ss.length
  | _, _, .nil => rfl
  | _, _, .cons _ l => by simp [DenSs.length l]
theorem SlotsOk.args : ∀ {vs : List V} {ss : List S}, DenSs K F L vs ss → SlotsOk K F L ss (vs.map some)
  | _, _, .nil => .nil
  | _, _, .cons h l => .cons (SlotOk.of h) (SlotsOk.args l)
theorem SlotsOk.append : ∀ {ρ ρ' : List S} {σ σ' : Sl}, SlotsOk K F L ρ σ → SlotsOk K F L ρ' σ' → SlotsOk K F L (ρ ++ ρ') (σ ++ σ')
  | _, _, _, _, .nil, r => r
  | _, _, _, _, .cons h l, r => .cons h (SlotsOk.append l r)
theorem SlotsOk.uns : ∀ n : Nat, SlotsOk K F L (List.replicate n .un) (List.replicate n none)
  | 0 => .nil
  | n + 1 => .cons trivial (SlotsOk.uns n)
theorem SlotsOk.start {N : List Str} {vs : List V} {ss : List S} (h : DenSs K F L vs ss) : SlotsOk K F L (startS N.length ss) (_root_.L2.start N vs) := by
  unfold startS _root_.L2.start
  rw [h.length]
  exact SlotsOk.append (SlotsOk.args h) (SlotsOk.uns _)

/-! ### new objects, changes -/
theorem Rep.free (R : Rep K W F L μ H) {p : Addr} (hp : H p = none) : F p = none := by
  cases e : F p with
  | none => rfl
  | some o => rw [R.sub p o e] at hp; cases hp
theorem Rep.notL {μ : List MO} (R : Rep K W F L μ H) {p : Addr} (hp : H p = none) : p ∉ L := fun hm => by
  obtain ⟨i, hi, e⟩ := List.mem_iff_getElem.mp hm
  have h1 : L[i]? = some p := by rw [List.getElem?_eq_getElem hi, e]
  have hi2 : i < μ.length := by rw [← R.len]; exact hi
  have q := R.obj i p μ[i] h1 (by rw [List.getElem?_eq_getElem hi2])
  cases hm2 : μ[i] with
  | ml ds => rw [hm2] at q; obtain ⟨xs, q, _⟩ := q; rw [hp] at q; cases q
  | md ks => rw [hm2] at q; have q : H p = some _ := q; rw [hp] at q; cases q
theorem le_upd {p : Addr} {o : HO} (hp : F p = none) : Le F (upd F p o) := fun a u e => by rw [upd_ne (ne_of_none e hp)]; exact e
theorem MOk.mono {a : Addr} {F' H' : Hp} (e : Le F F') (h : ∀ u, H a = some u → H' a = some u) : ∀ {o : MO}, MOk K F H a o → MOk K F' H' a o
  | .ml ds, ⟨xs, q, l⟩ => ⟨xs, h _ q, DenL.mono e l⟩
  | .md ks, q => h _ q
/-- a new object, frozen -/
theorem Rep.newF {μ : List MO} (R : Rep K W F L μ H) {p : Addr} (hp : H p = none) {o : HO} (ho : ∀ ps, o ≠ .tbl ps) : Rep K W (upd F p o) L μ (upd H p o) where
  sub := fun a u e => by
    by_cases hb : a = p
    · subst hb; rw [upd_same] at e ⊢; exact e
    · rw [upd_ne hb] at e ⊢; exact R.sub a u e
  ft := fun a ps e => by
    by_cases hb : a = p
    · subst hb; rw [upd_same] at e; exact ho ps (Option.some.inj e)
    · rw [upd_ne hb] at e; exact R.ft a ps e
  tabs := R.tabs.ext (le_upd hp)
  nd := R.nd
  len := R.len
  nf := fun a ha => by
    rw [upd_ne (show a ≠ p from fun z => R.notL hp (by rw [← z]; exact ha))]
    exact R.nf a ha
  obj := fun i a u e1 e2 => (R.obj i a u e1 e2).mono (le_upd (R.free hp)) fun z hz => by rw [upd_ne (ne_of_none hz hp)]; exact hz
theorem Al.up {H : Hp} {b p : Addr} {o : HO} (h : Al H b) (hp : H p = none) : Al (upd H p o) b := by
  obtain ⟨u, e, n⟩ := h
  exact ⟨u, by rw [upd_ne (ne_of_none e hp)]; exact e, n⟩
theorem ext_newF {μ : List MO} (R : Rep K W F L μ H) {p : Addr} (hp : H p = none) {o : HO} : Ext F H L (upd F p o) (upd H p o) L :=
  ⟨le_upd (R.free hp), fun b u e _ _ => by rw [upd_ne (ne_of_none e hp)]; exact e, fun b hb => hb.up hp, fun a ha hf => by
      rw [upd_ne (show a ≠ p from fun z => by subst z; exact Al.no hp ha)]
      exact hf, ⟨[], by simp, by simp⟩⟩
/-- a new object, mutable -/
theorem Rep.newM {μ : List MO} (R : Rep K W F L μ H) {p : Addr} (hp : H p = none) {o : HO} {m : MO} (ho : ∀ ps, o ≠ .tbl ps) (hm : MOk K F (upd H p o) p m) : Rep K W F (L ++ [p]) (μ ++ [m]) (upd H p o) where
  sub := fun a u e => by rw [upd_ne (ne_of_none (R.sub a u e) hp)]; exact R.sub a u e
  ft := R.ft
  tabs := R.tabs.ext (le_upd hp)
  nd := by
    rw [List.nodup_append]
    refine ⟨R.nd, by simp, fun a ha b hb => ?_⟩
    have : b = p := by simpa using hb
    subst this
    exact fun z => R.notL hp (z ▸ ha)
  len := by simp [R.len]
  nf := fun a ha => by
    rcases List.mem_append.mp ha with z | z
    · exact R.nf a z
    · have : a = p := by simpa using z
      subst this; exact R.free hp
  obj := fun i a u e1 e2 => by
    by_cases hi : i < L.length
    · rw [List.getElem?_append_left hi] at e1
      rw [List.getElem?_append_left (by rw [← R.len]; exact hi)] at e2
      exact (R.obj i a u e1 e2).mono (fun _ _ h => h) fun z hz => by rw [upd_ne (ne_of_none hz hp)]; exact hz
    · rw [List.getElem?_append_right (by omega)] at e1
      rw [List.getElem?_append_right (by rw [← R.len]; omega)] at e2
      rw [← R.len] at e2
      generalize i - L.length = j at e1 e2
      cases j with
      | zero => simp at e1 e2; subst e1 e2; exact hm
      | succ j => simp at e1
theorem ext_newM {μ : List MO} (R : Rep K W F L μ H) {p : Addr} (hp : H p = none) {o : HO} : Ext F H L F (upd H p o) (L ++ [p]) :=
  ⟨fun _ _ h => h, fun b u e _ _ => by rw [upd_ne (ne_of_none e hp)]; exact e, fun b hb => hb.up hp, fun a ha hf => hf, ⟨[p], rfl, fun a ha => by
      have : a = p := by simpa using ha
      subst this; exact Al.no hp⟩⟩
/-- the tables stand under a change of a list or dict -/
theorem tabs_upd {T : List (Addr × Str)} {p : Addr} {u o : HO} (t : LamX.Tabs T H) (hp : H p = some u) (h1 : ∀ ps, u ≠ .tbl ps) (h2 : ∀ c q, u ≠ LamX.CodeO c q) : LamX.Tabs T (upd H p o) := fun x hx => by
  obtain ⟨ps, a1, a2, a3⟩ := t x hx
  refine ⟨ps, by rw [upd_ne (fun z => h1 ps (by rw [← z, a1] at hp; exact (Option.some.inj hp).symm))]; exact a1, a2, fun pos cv hc => ?_⟩
  obtain ⟨c, e1, e2⟩ := a3 pos cv hc
  exact ⟨c, e1, by rw [upd_ne (fun z => h2 c x.2 (by rw [← z, e2] at hp; exact (Option.some.inj hp).symm))]; exact e2⟩
theorem Rep.setM {μ : List MO} (R : Rep K W F L μ H) {i : Nat} {p : Addr} {u o : HO} {m : MO} (hi : L[i]? = some p) (hp : H p = some u) (h1 : ∀ ps, u ≠ .tbl ps) (h2 : ∀ c q, u ≠ LamX.CodeO c q) (hm : MOk K F (upd H p o) p m) : Rep K W F L (μ.set i m) (upd H p o) where
  sub := fun a v e => by
    have hpl : p ∈ L := List.mem_of_getElem? hi
    have : a ≠ p := fun z => by rw [z, R.nf p hpl] at e; cases e
    rw [upd_ne this]; exact R.sub a v e
  ft := R.ft
  tabs := tabs_upd R.tabs hp h1 h2
  nd := R.nd
  len := by simp [R.len]
  nf := R.nf
  obj := fun j a v e1 e2 => by
    by_cases hj : j = i
    · subst hj
      rw [hi] at e1; cases e1
      have hlt : j < μ.length := by
        rw [← R.len]; exact (List.getElem?_eq_some_iff.mp hi).1
      rw [List.getElem?_set_self hlt] at e2
      cases e2; exact hm
    · rw [List.getElem?_set_ne (Ne.symm hj)] at e2
      have : a ≠ p := fun z => by
        subst z
        obtain ⟨l1, v1⟩ := List.getElem?_eq_some_iff.mp e1
        obtain ⟨l2, v2⟩ := List.getElem?_eq_some_iff.mp hi
        exact hj ((List.getElem_inj R.nd).mp (v1.trans v2.symm))
      exact (R.obj j a v e1 e2).mono (fun _ _ h => h) fun z hz => by rw [upd_ne this]; exact hz
theorem ext_setM {μ : List MO} (R : Rep K W F L μ H) {i : Nat} {p : Addr} {o : HO} (hi : L[i]? = some p) (ho : ∀ ps, o ≠ .tbl ps) : Ext F H L F (upd H p o) L :=
  have hpl : p ∈ L := List.mem_of_getElem? hi
  ⟨fun _ _ h => h, fun b u e hb _ => by
    rw [upd_ne (show b ≠ p from fun z => hb (by rw [z]; exact hpl))]
    exact e, fun b hb => by
    by_cases h : b = p
    · subst h; exact ⟨o, upd_same, ho⟩
    · obtain ⟨u, e, n⟩ := hb
      exact ⟨u, by rw [upd_ne h]; exact e, n⟩, fun a ha hf => hf, ⟨[], by simp, by simp⟩⟩
end
end DL
end

section
set_option Elab.async false
set_option linter.all false
set_option maxRecDepth 100000
set_option maxHeartbeats 4000000
/-! DLexpr: expressions, tests, arguments, statements as functions on data. -/
namespace DL
open PySem PySem.Spec PyProof.Rows L2

/-! ### posts -/
def PostX (K : PySem.W.Frag) (W : Wd) (E : XK) (F : Hp) (L : List Addr) (H : Hp) (x : Ex) (μ' : List MO) : Prop :=
  ∀ v d F' H' L', Ext F H L F' H' L' → Rep K W F' L' μ' H' → H' d = some (.xd [(x.fld, v)]) → Den K F' v x.val → E (.ref (x.cls W)) (some d) H'
def PostE (K : PySem.W.Frag) (W : Wd) (E : XK) (F : Hp) (L : List Addr) (H : Hp) (r : ER) (Q : VK) : Prop := match r with
  | .ok s μ' => ∀ v F' H' L', Ext F H L F' H' L' → Rep K W F' L' μ' H' → DenS K F' L' v s → s ≠ .un → Q v H'
  | .ex x μ' => PostX K W E F L H x μ'
def PostA (K : PySem.W.Frag) (W : Wd) (E : XK) (F : Hp) (L : List Addr) (H : Hp) (r : AR) (Q : List V → Hp → Prop) : Prop := match r with
  | .ok ss μ' => ∀ vs F' H' L', Ext F H L F' H' L' → Rep K W F' L' μ' H' → DenSs K F' L' vs ss → Q vs H'
  | .ex x μ' => PostX K W E F L H x μ'
def PostB (K : PySem.W.Frag) (W : Wd) (E : XK) (F : Hp) (L : List Addr) (H : Hp) (r : BR) (Q : Bool → Hp → Prop) : Prop := match r with
  | .ok b μ' => ∀ F' H' L', Ext F H L F' H' L' → Rep K W F' L' μ' H' → Q b H'
  | .ex x μ' => PostX K W E F L H x μ'
def ItemAt (K : PySem.W.Frag) (F : Hp) (H : Hp) (x : V) (H' : Hp) (d : D) : Prop :=
  (H' = H ∧ Den K F x d) ∨ ∃ T ys ds, x = .ref T ∧ H T = none ∧ H' = upd H T (.tup ys) ∧ d = .tup ds ∧ DenL K F ys ds
def WalkD (K : PySem.W.Frag) (F : Hp) (J : It) (items : List D) : Prop :=
  ∀ H, Le F H → (∀ i, i < items.length → J.go i H) ∧ J.stop items.length H ∧ ∀ i x H' d, items[i]? = some d → J.yld i H x H' → ItemAt K F H x H' d
def PostI (K : PySem.W.Frag) (W : Wd) (E : XK) (F : Hp) (L : List Addr) (H : Hp) (r : IR) (R : It → Hp → Prop) : Prop := match r with
  | .ok items μ' => ∀ J F' H' L', Ext F H L F' H' L' → Rep K W F' L' μ' H' → WalkD K F' J items → R J H'
  | .ex x μ' => PostX K W E F L H x μ'
def PostS (K : PySem.W.Frag) (W : Wd) (E : XK) (F : Hp) (L : List Addr) (H : Hp) (r : SR) (D : Ends) : Prop := match r with
  | .nx ρ' μ' => ∀ σ' F' H' L', Ext F H L F' H' L' → Rep K W F' L' μ' H' → SlotsOk K F' L' ρ' σ' → D.nx σ' H'
  | .bk ρ' μ' => ∀ σ' F' H' L', Ext F H L F' H' L' → Rep K W F' L' μ' H' → SlotsOk K F' L' ρ' σ' → D.bk σ' H'
  | .ct ρ' μ' => ∀ σ' F' H' L', Ext F H L F' H' L' → Rep K W F' L' μ' H' → SlotsOk K F' L' ρ' σ' → D.ct σ' H'
  | .ret s μ' => ∀ v F' H' L', Ext F H L F' H' L' → Rep K W F' L' μ' H' → DenS K F' L' v s → s ≠ .un → D.rt v H'
  | .ex x μ' => PostX K W E F L H x μ'

section
variable {K : PySem.W.Frag} {W : Wd} {E : XK} {F F1 H H1 : Hp} {L L1 : List Addr}
theorem PostX.mono {x : Ex} {μ' : List MO} (e : Ext F H L F1 H1 L1) (h : PostX K W E F L H x μ') : PostX K W E F1 L1 H1 x μ' := fun v d F' H' L' e' => h v d F' H' L' (e.trans e')
theorem PostE.mono {r : ER} {Q : VK} (e : Ext F H L F1 H1 L1) (h : PostE K W E F L H r Q) : PostE K W E F1 L1 H1 r Q := by
  cases r with
  | ok s μ => exact fun v F' H' L' e' => h v F' H' L' (e.trans e')
  | ex x μ => exact PostX.mono e h
theorem PostA.mono {r : AR} {Q : List V → Hp → Prop} (e : Ext F H L F1 H1 L1) (h : PostA K W E F L H r Q) : PostA K W E F1 L1 H1 r Q := by
  cases r with
  | ok s μ => exact fun v F' H' L' e' => h v F' H' L' (e.trans e')
  | ex x μ => exact PostX.mono e h
theorem PostB.mono {r : BR} {Q : Bool → Hp → Prop} (e : Ext F H L F1 H1 L1) (h : PostB K W E F L H r Q) : PostB K W E F1 L1 H1 r Q := by
  cases r with
  | ok s μ => exact fun F' H' L' e' => h F' H' L' (e.trans e')
  | ex x μ => exact PostX.mono e h
theorem PostI.mono {r : IR} {R : It → Hp → Prop} (e : Ext F H L F1 H1 L1) (h : PostI K W E F L H r R) : PostI K W E F1 L1 H1 r R := by
  cases r with
  | ok s μ => exact fun J F' H' L' e' => h J F' H' L' (e.trans e')
  | ex x μ => exact PostX.mono e h
theorem PostS.mono {r : SR} {D : Ends} (e : Ext F H L F1 H1 L1) (h : PostS K W E F L H r D) : PostS K W E F1 L1 H1 r D := by
  cases r with
  | nx s μ => exact fun v F' H' L' e' => h v F' H' L' (e.trans e')
  | bk s μ => exact fun v F' H' L' e' => h v F' H' L' (e.trans e')
  | ct s μ => exact fun v F' H' L' e' => h v F' H' L' (e.trans e')
  | ret s μ => exact fun v F' H' L' e' => h v F' H' L' (e.trans e')
  | ex x μ => exact PostX.mono e h
theorem WalkD.mono {J : It} {items : List D} (e : Le F F1) (h : WalkD K F J items) : WalkD K F1 J items := fun H hl => by
  obtain ⟨h1, h2, h3⟩ := h H fun a o q => hl a o (e a o q)
  refine ⟨h1, h2, fun i x H' d hd y => ?_⟩
  rcases h3 i x H' d hd y with ⟨e1, e2⟩ | ⟨T, ys, ds, e1, e2, e3, e4, e5⟩
  · exact .inl ⟨e1, e2.mono e⟩
  · exact .inr ⟨T, ys, ds, e1, e2, e3, e4, e5.mono e⟩
end

/-! ### the readings made of functions -/
def tOf (K : PySem.W.Frag) (W : Wd) (E : XK) (f : EF) : TE := fun σ H Q => ∃ F L μ ρ r, Rep K W F L μ H ∧ SlotsOk K F L ρ σ ∧ f ρ μ = some r ∧ PostE K W E F L H r Q
def aOf (K : PySem.W.Frag) (W : Wd) (E : XK) (f : AF) : TA := fun σ H Q => ∃ F L μ ρ r, Rep K W F L μ H ∧ SlotsOk K F L ρ σ ∧ f ρ μ = some r ∧ PostA K W E F L H r Q
def bOf (K : PySem.W.Frag) (W : Wd) (E : XK) (f : BF) : TT := fun σ H Q => ∃ F L μ ρ r, Rep K W F L μ H ∧ SlotsOk K F L ρ σ ∧ f ρ μ = some r ∧ PostB K W E F L H r Q
def iOf (K : PySem.W.Frag) (W : Wd) (E : XK) (f : IF) : TI := fun σ H R => ∃ F L μ ρ r, Rep K W F L μ H ∧ SlotsOk K F L ρ σ ∧ f ρ μ = some r ∧ PostI K W E F L H r R
def sOf (K : PySem.W.Frag) (W : Wd) (E : XK) (f : SF) : TS := fun D σ H => ∃ F L μ ρ r, Rep K W F L μ H ∧ SlotsOk K F L ρ σ ∧ f ρ μ = some r ∧ PostS K W E F L H r D
def gOf (K : PySem.W.Frag) (W : Wd) (h : TF) : TG := fun v σ H Q => ∃ F L μ ρ d ρ', Rep K W F L μ H ∧ SlotsOk K F L ρ σ ∧ Den K F v d ∧ h d ρ = some ρ' ∧ ∀ σ', SlotsOk K F L ρ' σ' → Q σ' H
def gsOf (K : PySem.W.Frag) (W : Wd) (h : List D → List S → Option (List S)) : TGs := fun vs σ H Q => ∃ F L μ ρ ds ρ', Rep K W F L μ H ∧ SlotsOk K F L ρ σ ∧ DenL K F vs ds ∧ h ds ρ = some ρ' ∧ ∀ σ', SlotsOk K F L ρ' σ' → Q σ' H

section
variable {X : Cx} {W : Wd} {E : XK}
theorem PE.weak {e : Expr} {t t' : TE} (h : PE X e t) (w : ∀ σ H Q, t' σ H Q → t σ H Q) : PE X e t' := ⟨fun pins s σ H Q I q => h.run pins s σ H Q I (w σ H Q q)⟩
theorem PT.weak {e : Expr} {t t' : TT} (h : PT X e t) (w : ∀ σ H Q, t' σ H Q → t σ H Q) : PT X e t' := ⟨fun pins s σ H Q I q => h.run pins s σ H Q I (w σ H Q q)⟩
theorem PW.weak {e : Expr} {t t' : TT} (h : PW X e t) (w : ∀ σ H Q, t' σ H Q → t σ H Q) : PW X e t' := ⟨fun wh pins s σ H Q I q => h.run wh pins s σ H Q I (w σ H Q q)⟩
theorem PA.weak {es : List Expr} {t t' : TA} (h : PA X es t) (w : ∀ σ H Q, t' σ H Q → t σ H Q) : PA X es t' := ⟨fun pos pins s σ H Q I q => h.run pos pins s σ H Q I (w σ H Q q)⟩
theorem PI.weak {tg e : Expr} {t t' : TI} (h : PI X tg e t) (w : ∀ σ H Q, t' σ H Q → t σ H Q) : PI X tg e t' := ⟨fun pins s σ H Q I q => h.run pins s σ H Q I (w σ H Q q)⟩
theorem PS.weak {e : Stmt} {t t' : TS} (h : PS X e t) (w : ∀ D σ H, t' D σ H → t D σ H) : PS X e t' := ⟨fun pins s σ H D I q => h.run pins s σ H D I (w D σ H q)⟩
theorem PSs.weak {e : List Stmt} {t t' : TS} (h : PSs X e t) (w : ∀ D σ H, t' D σ H → t D σ H) : PSs X e t' := ⟨fun pins s σ H D I q => h.run pins s σ H D I (w D σ H q)⟩
theorem PG.weak {e : Expr} {t t' : TG} (h : PG X e t) (w : ∀ v σ H Q, t' v σ H Q → t v σ H Q) : PG X e t' := ⟨fun pins s σ H v u Q I r q => h.run pins s σ H v u Q I r (w v σ H Q q)⟩
theorem PGs.weak {e : List Expr} {t t' : TGs} (h : PGs X e t) (w : ∀ v σ H Q, t' v σ H Q → t v σ H Q) : PGs X e t' := ⟨fun pins s σ H v u Q I r q => h.run pins s σ H v u Q I r (w v σ H Q q)⟩

/-! ### sequencing -/
def bE (r : Option ER) (k : S → List MO → Option ER) : Option ER := match r with
  | some (.ok s μ) => k s μ
  | some (.ex x μ) => some (.ex x μ)
  | none => none
def bA (r : Option AR) (k : List S → List MO → Option ER) : Option ER := match r with
  | some (.ok s μ) => k s μ
  | some (.ex x μ) => some (.ex x μ)
  | none => none
variable {K : PySem.W.Frag} {σ : Sl} {H : Hp}
/-- run the first, then what follows -/
theorem tOf_then {α : Type} {fa : EF} {F : Hp} {L : List Addr} {μ : List MO} {ρ : List S} {Q1 : VK} (hr : Rep K W F L μ H) (hs : SlotsOk K F L ρ σ)
    {sel : Option ER} (hsel : fa ρ μ = sel) 
    (hok : ∀ s μ1, sel = some (.ok s μ1) → ∀ v F1 H1 L1, Ext F H L F1 H1 L1 → Rep K W F1 L1 μ1 H1 → DenS K F1 L1 v s → s ≠ .un → Q1 v H1)
    (hex : ∀ x μ1, sel = some (.ex x μ1) → PostX K W E F L H x μ1) (hn : sel ≠ none) : tOf K W E fa σ H Q1 := by
  subst hsel
  cases e : fa ρ μ with
  | none => exact absurd e hn
  | some r =>
    refine ⟨F, L, μ, ρ, r, hr, hs, e, ?_⟩
    cases r with
    | ok s μ1 => exact hok s μ1 e
    | ex x μ1 => exact hex x μ1 e
/-- an operator by values -/
abbrev G2 := S → S → List MO → Option ER
def Op2 (K : PySem.W.Frag) (W : Wd) (E : XK) (r : R2) (g : G2) : Prop :=
  ∀ F L μ H x y s u res Q, Rep K W F L μ H → DenS K F L x s → DenS K F L y u → g s u μ = some res → PostE K W E F L H res Q → r x y H Q
def e2 (g : G2) (fa fb : EF) : EF := fun ρ μ => bE (fa ρ μ) fun s μ1 => bE (fb ρ μ1) fun u μ2 => g s u μ2
theorem tOp_of {r : R2} {g : G2} {fa fb : EF} (ho : Op2 K W E r g) {σ : Sl} {H : Hp} {Q : VK} (h : tOf K W E (e2 g fa fb) σ H Q) : tOp r (tOf K W E fa) (tOf K W E fb) σ H Q := by
  obtain ⟨F, L, μ, ρ, res, hr, hs, hf, hp⟩ := h
  unfold e2 bE at hf
  show tOf K W E fa σ H fun x H1 => tOf K W E fb σ H1 fun y H2 => r x y H2 Q
  cases ea : fa ρ μ with
  | none => rw [ea] at hf; cases hf
  | some ra =>
    rw [ea] at hf
    refine ⟨F, L, μ, ρ, ra, hr, hs, ea, ?_⟩
    cases ra with
    | ex x μ1 => cases hf; exact hp
    | ok s μ1 =>
      intro x F1 H1 L1 e1 r1 d1 n1
      have hs1 := hs.mono e1
      simp only at hf
      cases eb : fb ρ μ1 with
      | none => rw [eb] at hf; cases hf
      | some rb =>
        rw [eb] at hf
        refine ⟨F1, L1, μ1, ρ, rb, r1, hs1, eb, ?_⟩
        cases rb with
        | ex x μ2 => cases hf; exact PostX.mono e1 hp
        | ok u μ2 =>
          intro y F2 H2 L2 e2 r2 d2 n2
          exact ho F2 L2 μ2 H2 x y s u res Q r2 (d1.mono e2) d2 hf (hp.mono (e1.trans e2))
theorem q_op {op : Operator} {r : R2} {g : G2} {a b : Expr} {fa fb : EF} {pos : Pos} (ho : OpR X (binaryOp op) r) (hg : Op2 X.K W E r g) (ha : PE X a (tOf X.K W E fa)) (hb : PE X b (tOf X.K W E fb)) : PE X (.BinOp a op b pos) (tOf X.K W E (e2 g fa fb)) :=
  PE.weak (pe_op ho ha hb) fun _ _ _ h => tOp_of hg h
theorem q_cmp {op : CmpOp} {r : R2} {g : G2} {a b : Expr} {fa fb : EF} {pos : Pos} (ho : OpR X (compareOp op) r) (hg : Op2 X.K W E r g) (ha : PE X a (tOf X.K W E fa)) (hb : PE X b (tOf X.K W E fb)) (hm : behindInMarks op b = false) : PE X (.Compare a [op] [b] pos) (tOf X.K W E (e2 g fa fb)) :=
  PE.weak (pe_cmpR ho ha hb hm) fun _ _ _ h => tOp_of hg h

/-! ### names, constants -/
def eV (i : Nat) : EF := fun ρ μ => match ρ[i]? with
  | some (.d x) => some (.ok (.d x) μ)
  | some (.m j) => some (.ok (.m j) μ)
  | _ => none
theorem q_v (i : Nat) {x : Str} {pos : Pos} (hN : X.N[i]? = some x := by rfl) (hv : Vis X.env.scope x := by first | exact Or.inl rfl | exact Or.inr (Or.inl rfl) | exact Or.inr (Or.inr rfl)) (hd : (x == ("__debug__" : Str)) = false := by decide)
    (hcd : (x == ("__classdict__" : Str)) = false := by decide) : PE X (.Name x pos) (tOf X.K W E (eV i)) := by
  refine PE.weak (pe_var hN hv hd hcd) fun σ H Q h => ?_
  obtain ⟨F, L, μ, ρ, r, hr, hs, hf, hp⟩ := h
  unfold eV at hf
  split at hf
  · rename_i z e
    cases hf
    obtain ⟨v, h1, h2⟩ := hs.get e (by simp)
    exact ⟨v, h1, hp v F H L .refl hr h2 (by simp)⟩
  · rename_i z e
    cases hf
    obtain ⟨v, h1, h2⟩ := hs.get e (by simp)
    exact ⟨v, h1, hp v F H L .refl hr h2 (by simp)⟩
  · cases hf
def eC (d : D) : EF := fun _ μ => some (.ok (.d d) μ)
theorem tC_of {v : V} {d : D} (hd : ∀ K F, Den K F v d) {σ : Sl} {H : Hp} {Q : VK} (h : tOf K W E (eC d) σ H Q) : tC v σ H Q := by
  obtain ⟨F, L, μ, ρ, r, hr, hs, hf, hp⟩ := h
  cases hf
  exact hp v F H L .refl hr (hd K F) (by simp)
theorem q_int {i : Int} {j pos} : PE X (.Constant (.int i) j pos) (tOf X.K W E (eC (.int i))) := PE.weak pe_int fun _ _ _ h => tC_of (fun _ _ => .int i) h
theorem q_bl {b : Bool} {j pos} : PE X (.Constant (.bool b) j pos) (tOf X.K W E (eC (.bl b))) := PE.weak pe_bl fun _ _ _ h => tC_of (fun _ _ => .bl b) h
theorem q_non {j pos} : PE X (.Constant .none j pos) (tOf X.K W E (eC .non)) := PE.weak pe_non fun _ _ _ h => tC_of (fun _ _ => .non) h
theorem q_str {x : Str} {j pos} : PE X (.Constant (.str x) j pos) (tOf X.K W E (eC (.str x))) := PE.weak pe_str fun _ _ _ h => tC_of (fun _ _ => .str x) h
theorem q_gint {x : Str} {i : Int} {pos : Pos} (hm : ∃ t, X.mg x = some (.int i t)) (hg : Gl X x := by rfl) (hd : (x == ("__debug__" : Str)) = false := by decide) : PE X (.Name x pos) (tOf X.K W E (eC (.int i))) := by
  obtain ⟨t, hm⟩ := hm
  exact PE.weak (pe_glob (v := .int i) hg hm ⟨t, rfl⟩ hd) fun _ _ _ h => tC_of (fun _ _ => .int i) h
theorem q_gstr {x : Str} {i : Str} {pos : Pos} (hm : ∃ t, X.mg x = some (.str i t)) (hg : Gl X x := by rfl) (hd : (x == ("__debug__" : Str)) = false := by decide) : PE X (.Name x pos) (tOf X.K W E (eC (.str i))) := by
  obtain ⟨t, hm⟩ := hm
  exact PE.weak (pe_glob (v := .str i) hg hm ⟨t, rfl⟩ hd) fun _ _ _ h => tC_of (fun _ _ => .str i) h

/-! ### tests -/
def bB (r : Option BR) (k : Bool → List MO → Option ER) : Option ER := match r with
  | some (.ok b μ) => k b μ
  | some (.ex x μ) => some (.ex x μ)
  | none => none
def bBB (r : Option BR) (k : Bool → List MO → Option BR) : Option BR := match r with
  | some (.ok b μ) => k b μ
  | some (.ex x μ) => some (.ex x μ)
  | none => none
def toB (r : Option ER) : Option BR := match r with
  | some (.ok (.d (.bl b)) μ) => some (.ok b μ)
  | some (.ex x μ) => some (.ex x μ)
  | _ => none
def tst (f : EF) : BF := fun ρ μ => toB (f ρ μ)
theorem tTest_of {t : TE} {f : EF} (ht : ∀ σ H Q, tOf K W E f σ H Q → t σ H Q) {σ : Sl} {H : Hp} {Q : Bool → Hp → Prop} (h : bOf K W E (tst f) σ H Q) : tTest t σ H Q := by
  obtain ⟨F, L, μ, ρ, res, hr, hs, hf, hp⟩ := h
  refine ht σ H _ ?_
  unfold tst toB at hf
  cases ea : f ρ μ with
  | none => rw [ea] at hf; cases hf
  | some ra =>
    rw [ea] at hf
    refine ⟨F, L, μ, ρ, ra, hr, hs, ea, ?_⟩
    cases ra with
    | ex x μ1 => cases hf; exact hp
    | ok s μ1 =>
      intro x F1 H1 L1 e1 r1 d1 n1
      cases s with
      | un => cases hf
      | m i => cases hf
      | d y =>
        cases y with
        | bl b =>
          cases hf
          cases d1
          exact ⟨b, rfl, hp F1 H1 L1 e1 r1⟩
        | _ => cases hf
theorem qt_cmp {op : CmpOp} {r : R2} {g : G2} {a b : Expr} {fa fb : EF} {pos : Pos} (ho : OpR X (compareOp op) r) (hg : Op2 X.K W E r g) (ha : PE X a (tOf X.K W E fa)) (hb : PE X b (tOf X.K W E fb)) (hm : behindInMarks op b = false) : PT X (.Compare a [op] [b] pos) (bOf X.K W E (tst (e2 g fa fb))) :=
  PT.weak (pt_cmpR ho ha hb hm) fun _ _ _ h => tTest_of (fun _ _ _ h => tOp_of hg h) h
theorem qt_val {e : Expr} {f : EF} (h : PE X e (tOf X.K W E f)) (he : ∀ whole, isTrue e X.env whole = (do let v ← whole; standAt e.pos; holding [v] (truthy v)) := by intro _; rfl) : PT X e (bOf X.K W E (tst f)) :=
  PT.weak (pt_val h he) fun _ _ _ h => tTest_of (fun _ _ _ h => h) h
theorem bOf_cases {f : BF} {σ : Sl} {H : Hp} {F : Hp} {L : List Addr} {μ : List MO} {ρ : List S} {Q : Bool → Hp → Prop} (hr : Rep K W F L μ H) (hs : SlotsOk K F L ρ σ)
    {r : BR} (hf : f ρ μ = some r) (hok : ∀ b μ1, r = .ok b μ1 → ∀ F1 H1 L1, Ext F H L F1 H1 L1 → Rep K W F1 L1 μ1 H1 → Q b H1) (hex : ∀ x μ1, r = .ex x μ1 → PostX K W E F L H x μ1) : bOf K W E f σ H Q := by
  refine ⟨F, L, μ, ρ, r, hr, hs, hf, ?_⟩
  cases r with
  | ok b μ1 => exact hok b μ1 rfl
  | ex x μ1 => exact hex x μ1 rfl
def bNot (f : BF) : BF := fun ρ μ => bBB (f ρ μ) fun b μ => some (.ok (!b) μ)
def bAnd (f g : BF) : BF := fun ρ μ => bBB (f ρ μ) fun b μ => match b with | true => g ρ μ | false => some (.ok false μ)
def bOr (f g : BF) : BF := fun ρ μ => bBB (f ρ μ) fun b μ => match b with | true => some (.ok true μ) | false => g ρ μ
theorem tNot_of {f : BF} {σ : Sl} {H : Hp} {Q : Bool → Hp → Prop} (h : bOf K W E (bNot f) σ H Q) : tNot (bOf K W E f) σ H Q := by
  obtain ⟨F, L, μ, ρ, res, hr, hs, hf, hp⟩ := h
  unfold bNot bBB at hf
  show bOf K W E f σ H _
  cases ea : f ρ μ with
  | none => rw [ea] at hf; cases hf
  | some ra =>
    rw [ea] at hf
    refine ⟨F, L, μ, ρ, ra, hr, hs, ea, ?_⟩
    cases ra with
    | ex x μ1 => cases hf; exact hp
    | ok b μ1 => cases hf; exact fun F1 H1 L1 e1 r1 => hp F1 H1 L1 e1 r1
theorem tAnd_of {f g : BF} {σ : Sl} {H : Hp} {Q : Bool → Hp → Prop} (h : bOf K W E (bAnd f g) σ H Q) : tAnd (bOf K W E f) (bOf K W E g) σ H Q := by
  obtain ⟨F, L, μ, ρ, res, hr, hs, hf, hp⟩ := h
  unfold bAnd bBB at hf
  show bOf K W E f σ H _
  cases ea : f ρ μ with
  | none => rw [ea] at hf; cases hf
  | some ra =>
    rw [ea] at hf
    refine ⟨F, L, μ, ρ, ra, hr, hs, ea, ?_⟩
    cases ra with
    | ex x μ1 => cases hf; exact hp
    | ok b μ1 =>
      intro F1 H1 L1 e1 r1
      cases b with
      | true => exact iteT ⟨F1, L1, μ1, ρ, res, r1, hs.mono e1, hf, hp.mono e1⟩
      | false => cases hf; exact iteF (hp F1 H1 L1 e1 r1)
theorem tOr_of {f g : BF} {σ : Sl} {H : Hp} {Q : Bool → Hp → Prop} (h : bOf K W E (bOr f g) σ H Q) : tOr (bOf K W E f) (bOf K W E g) σ H Q := by
  obtain ⟨F, L, μ, ρ, res, hr, hs, hf, hp⟩ := h
  unfold bOr bBB at hf
  show bOf K W E f σ H _
  cases ea : f ρ μ with
  | none => rw [ea] at hf; cases hf
  | some ra =>
    rw [ea] at hf
    refine ⟨F, L, μ, ρ, ra, hr, hs, ea, ?_⟩
    cases ra with
    | ex x μ1 => cases hf; exact hp
    | ok b μ1 =>
      intro F1 H1 L1 e1 r1
      cases b with
      | true => cases hf; exact iteT (hp F1 H1 L1 e1 r1)
      | false => exact iteF ⟨F1, L1, μ1, ρ, res, r1, hs.mono e1, hf, hp.mono e1⟩
theorem qt_not {a : Expr} {f : BF} {pos : Pos} (ha : PT X a (bOf X.K W E f)) : PT X (.UnaryOp .Not a pos) (bOf X.K W E (bNot f)) := PT.weak (pt_not ha) fun _ _ _ h => tNot_of h
theorem qw_and1 {a : Expr} {f : BF} {pos : Pos} (ha : PT X a (bOf X.K W E f)) : PW X (.BoolOp .And [a] pos) (bOf X.K W E f) := pw_and1 ha
theorem qw_or1 {a : Expr} {f : BF} {pos : Pos} (ha : PT X a (bOf X.K W E f)) : PW X (.BoolOp .Or [a] pos) (bOf X.K W E f) := pw_or1 ha
theorem qw_and {a b : Expr} {rest : List Expr} {f g : BF} {pos : Pos} (ha : PT X a (bOf X.K W E f)) (hb : PW X (.BoolOp .And (b :: rest) pos) (bOf X.K W E g)) : PW X (.BoolOp .And (a :: b :: rest) pos) (bOf X.K W E (bAnd f g)) := PW.weak (pw_and ha hb) fun _ _ _ h => tAnd_of h
theorem qw_or {a b : Expr} {rest : List Expr} {f g : BF} {pos : Pos} (ha : PT X a (bOf X.K W E f)) (hb : PW X (.BoolOp .Or (b :: rest) pos) (bOf X.K W E g)) : PW X (.BoolOp .Or (a :: b :: rest) pos) (bOf X.K W E (bOr f g)) := PW.weak (pw_or ha hb) fun _ _ _ h => tOr_of h
/-- as values (bools) -/
def asB (r : Option ER) (k : Bool → List MO → Option ER) : Option ER := match r with
  | some (.ok (.d (.bl b)) μ) => k b μ
  | some (.ex x μ) => some (.ex x μ)
  | _ => none
def eAnd (f g : EF) : EF := fun ρ μ => asB (f ρ μ) fun b μ => match b with | true => g ρ μ | false => some (.ok (.d (.bl false)) μ)
def eOr (f g : EF) : EF := fun ρ μ => asB (f ρ μ) fun b μ => match b with | true => some (.ok (.d (.bl true)) μ) | false => g ρ μ
def eNot (f : EF) : EF := fun ρ μ => asB (f ρ μ) fun b μ => some (.ok (.d (.bl (!b))) μ)
theorem asB_ok {f : EF} {σ : Sl} {H : Hp} {F : Hp} {L : List Addr} {μ : List MO} {ρ : List S} {Q : VK} {k : Bool → List MO → Option ER} {res : ER} (hr : Rep K W F L μ H) (hs : SlotsOk K F L ρ σ)
    (hf : asB (f ρ μ) k = some res) (hp : PostE K W E F L H res Q) {R : Bool → Hp → Prop}
    (hk : ∀ b μ1 F1 H1 L1, k b μ1 = some res → Ext F H L F1 H1 L1 → Rep K W F1 L1 μ1 H1 → PostE K W E F1 L1 H1 res Q → R b H1) : tOf K W E f σ H fun x H1 => ∃ c, x = .bl c ∧ R c H1 := by
  unfold asB at hf
  cases ea : f ρ μ with
  | none => rw [ea] at hf; cases hf
  | some ra =>
    rw [ea] at hf
    refine ⟨F, L, μ, ρ, ra, hr, hs, ea, ?_⟩
    cases ra with
    | ex x μ1 => cases hf; exact hp
    | ok s μ1 =>
      intro x F1 H1 L1 e1 r1 d1 n1
      cases s with
      | un => cases hf
      | m i => cases hf
      | d y =>
        cases y with
        | bl b => cases d1; exact ⟨b, rfl, hk b μ1 F1 H1 L1 hf e1 r1 (hp.mono e1)⟩
        | _ => cases hf
theorem q_one {op} {a : Expr} {f : EF} {pos : Pos} (h : PE X a (tOf X.K W E f)) : PE X (.BoolOp op [a] pos) (tOf X.K W E f) := pe_one h
theorem q_and {a b : Expr} {rest : List Expr} {f g : EF} {pos : Pos} (ha : PE X a (tOf X.K W E f)) (hb : PE X (.BoolOp .And (b :: rest) pos) (tOf X.K W E g)) : PE X (.BoolOp .And (a :: b :: rest) pos) (tOf X.K W E (eAnd f g)) := by
  refine PE.weak (pe_and ha hb) fun σ H Q h => ?_
  obtain ⟨F, L, μ, ρ, res, hr, hs, hf, hp⟩ := h
  refine asB_ok hr hs hf hp fun b μ1 F1 H1 L1 hk e1 r1 p1 => ?_
  cases b with
  | true => exact iteT ⟨F1, L1, μ1, ρ, res, r1, hs.mono e1, hk, p1⟩
  | false => cases hk; exact iteF (p1 _ F1 H1 L1 .refl r1 (.bl false) (by simp))
theorem q_or {a b : Expr} {rest : List Expr} {f g : EF} {pos : Pos} (ha : PE X a (tOf X.K W E f)) (hb : PE X (.BoolOp .Or (b :: rest) pos) (tOf X.K W E g)) : PE X (.BoolOp .Or (a :: b :: rest) pos) (tOf X.K W E (eOr f g)) := by
  refine PE.weak (pe_or ha hb) fun σ H Q h => ?_
  obtain ⟨F, L, μ, ρ, res, hr, hs, hf, hp⟩ := h
  refine asB_ok hr hs hf hp fun b μ1 F1 H1 L1 hk e1 r1 p1 => ?_
  cases b with
  | true => cases hk; exact iteT (p1 _ F1 H1 L1 .refl r1 (.bl true) (by simp))
  | false => exact iteF ⟨F1, L1, μ1, ρ, res, r1, hs.mono e1, hk, p1⟩
theorem q_not {a : Expr} {f : EF} {pos : Pos} (ha : PE X a (tOf X.K W E f)) : PE X (.UnaryOp .Not a pos) (tOf X.K W E (eNot f)) := by
  refine PE.weak (pe_not ha) fun σ H Q h => ?_
  obtain ⟨F, L, μ, ρ, res, hr, hs, hf, hp⟩ := h
  refine asB_ok hr hs hf hp fun b μ1 F1 H1 L1 hk e1 r1 p1 => ?_
  cases hk
  exact p1 _ F1 H1 L1 .refl r1 (.bl _) (by simp)
/-- a if t else b -/
def eIf (c : BF) (f g : EF) : EF := fun ρ μ => bB (c ρ μ) fun b μ => match b with | true => f ρ μ | false => g ρ μ
theorem q_if {c a b : Expr} {fc : BF} {f g : EF} {pos : Pos} (hc : PT X c (bOf X.K W E fc)) (ha : PE X a (tOf X.K W E f)) (hb : PE X b (tOf X.K W E g)) : PE X (.IfExp c a b pos) (tOf X.K W E (eIf fc f g)) := by
  refine PE.weak (pe_ifExp hc ha hb) fun σ H Q h => ?_
  obtain ⟨F, L, μ, ρ, res, hr, hs, hf, hp⟩ := h
  unfold eIf bB at hf
  show bOf X.K W E fc σ H _
  cases ea : fc ρ μ with
  | none => rw [ea] at hf; cases hf
  | some ra =>
    rw [ea] at hf
    refine ⟨F, L, μ, ρ, ra, hr, hs, ea, ?_⟩
    cases ra with
    | ex x μ1 => cases hf; exact hp
    | ok b μ1 =>
      intro F1 H1 L1 e1 r1
      cases b with
      | true => exact iteT ⟨F1, L1, μ1, ρ, res, r1, hs.mono e1, hf, hp.mono e1⟩
      | false => exact iteF ⟨F1, L1, μ1, ρ, res, r1, hs.mono e1, hf, hp.mono e1⟩

/-! ### arguments -/
def aNil : AF := fun _ μ => some (.ok [] μ)
def aCons (f : EF) (g : AF) : AF := fun ρ μ => match f ρ μ with
  | some (.ok s μ1) => (match g ρ μ1 with
    | some (.ok ss μ2) => some (.ok (s :: ss) μ2)
    | some (.ex x μ2) => some (.ex x μ2)
    | none => none)
  | some (.ex x μ1) => some (.ex x μ1)
  | none => none
theorem qa_nil : PA X [] (aOf X.K W E aNil) := PA.weak pa_nil fun σ H Q h => by
  obtain ⟨F, L, μ, ρ, res, hr, hs, hf, hp⟩ := h
  cases hf
  exact hp [] F H L .refl hr .nil
theorem tCons_of {f : EF} {g : AF} {σ : Sl} {H : Hp} {Q : List V → Hp → Prop} (h : aOf K W E (aCons f g) σ H Q) : tCons (tOf K W E f) (aOf K W E g) σ H Q := by
  obtain ⟨F, L, μ, ρ, res, hr, hs, hf, hp⟩ := h
  unfold aCons at hf
  show tOf K W E f σ H fun x H1 => aOf K W E g σ H1 fun xs H2 => Q (x :: xs) H2
  cases ea : f ρ μ with
  | none => rw [ea] at hf; cases hf
  | some ra =>
    rw [ea] at hf
    refine ⟨F, L, μ, ρ, ra, hr, hs, ea, ?_⟩
    cases ra with
    | ex x μ1 => cases hf; exact hp
    | ok s μ1 =>
      intro x F1 H1 L1 e1 r1 d1 n1
      simp only at hf
      cases eb : g ρ μ1 with
      | none => rw [eb] at hf; cases hf
      | some rb =>
        rw [eb] at hf
        refine ⟨F1, L1, μ1, ρ, rb, r1, hs.mono e1, eb, ?_⟩
        cases rb with
        | ex x μ2 => cases hf; exact PostX.mono e1 hp
        | ok ss μ2 =>
          cases hf
          intro xs F2 H2 L2 e2 r2 d2
          exact hp (x :: xs) F2 H2 L2 (e1.trans e2) r2 (.cons (d1.mono e2) d2)
theorem qa_cons {e : Expr} {es : List Expr} {f : EF} {g : AF} (ha : PE X e (tOf X.K W E f)) (hr : PA X es (aOf X.K W E g)) (hs : starEach (e :: es) X.env = (false, eval e X.env) :: starEach es X.env := by rfl) : PA X (e :: es) (aOf X.K W E (aCons f g)) :=
  PA.weak (pa_cons ha hr hs) fun _ _ _ h => tCons_of h
/-- keyword arguments' values -/
theorem qk_nil : PK X [] (aOf X.K W E aNil) := ⟨fun pos pins s σ H Q I h => pk_nil.run pos pins s σ H Q I (by
  obtain ⟨F, L, μ, ρ, res, hr, hs, hf, hp⟩ := h
  cases hf
  exact hp [] F H L .refl hr .nil)⟩
theorem qk_cons {e : Expr} {kws : List Keyword} {nm : Option Str} {kpos : Pos} {f : EF} {g : AF} (ha : PE X e (tOf X.K W E f)) (hr : PK X kws (aOf X.K W E g)) : PK X (⟨nm, e, kpos⟩ :: kws) (aOf X.K W E (aCons f g)) :=
  ⟨fun pos pins s σ H Q I h => (pk_cons ha hr).run pos pins s σ H Q I (tCons_of h)⟩
/-- the arguments, all data -/
def bAE (r : Option AR) (k : List S → List MO → Option ER) : Option ER := match r with
  | some (.ok ss μ) => k ss μ
  | some (.ex x μ) => some (.ex x μ)
  | none => none
theorem aOf_ok {f : AF} {σ : Sl} {H : Hp} {F : Hp} {L : List Addr} {μ : List MO} {ρ : List S} {Q : VK} {k : List S → List MO → Option ER} {res : ER} (hr : Rep K W F L μ H) (hs : SlotsOk K F L ρ σ)
    (hf : bAE (f ρ μ) k = some res) (hp : PostE K W E F L H res Q) {R : List V → Hp → Prop}
    (hk : ∀ ss vs μ1 F1 H1 L1, k ss μ1 = some res → Ext F H L F1 H1 L1 → Rep K W F1 L1 μ1 H1 → DenSs K F1 L1 vs ss → PostE K W E F1 L1 H1 res Q → R vs H1) : aOf K W E f σ H R := by
  unfold bAE at hf
  cases ea : f ρ μ with
  | none => rw [ea] at hf; cases hf
  | some ra =>
    rw [ea] at hf
    refine ⟨F, L, μ, ρ, ra, hr, hs, ea, ?_⟩
    cases ra with
    | ex x μ1 => cases hf; exact hp
    | ok ss μ1 => exact fun vs F1 H1 L1 e1 r1 d1 => hk ss vs μ1 F1 H1 L1 hf e1 r1 d1 (hp.mono e1)
theorem tOf_ok {f : EF} {σ : Sl} {H : Hp} {F : Hp} {L : List Addr} {μ : List MO} {ρ : List S} {Q : VK} {k : S → List MO → Option ER} {res : ER} (hr : Rep K W F L μ H) (hs : SlotsOk K F L ρ σ)
    (hf : bE (f ρ μ) k = some res) (hp : PostE K W E F L H res Q) {R : VK}
    (hk : ∀ s v μ1 F1 H1 L1, k s μ1 = some res → Ext F H L F1 H1 L1 → Rep K W F1 L1 μ1 H1 → DenS K F1 L1 v s → PostE K W E F1 L1 H1 res Q → R v H1) : tOf K W E f σ H R := by
  unfold bE at hf
  cases ea : f ρ μ with
  | none => rw [ea] at hf; cases hf
  | some ra =>
    rw [ea] at hf
    refine ⟨F, L, μ, ρ, ra, hr, hs, ea, ?_⟩
    cases ra with
    | ex x μ1 => cases hf; exact hp
    | ok ss μ1 => exact fun vs F1 H1 L1 e1 r1 d1 _ => hk ss vs μ1 F1 H1 L1 hf e1 r1 d1 (hp.mono e1)

/-! ### displays, new lists -/
def allD : List S → Option (List D)
  | [] => some []
  | .d x :: r => (allD r).map (x :: ·)
  | _ :: _ => none
theorem DenSs.data {F : Hp} {L : List Addr} : ∀ {ss : List S} {ds : List D} {vs : List V}, allD ss = some ds → DenSs K F L vs ss → DenL K F vs ds
  | [], ds, vs, h, l => by cases h; cases l; exact .nil
  | .d x :: r, ds, vs, h, l => by
    cases l with
    | cons h1 l1 =>
      unfold allD at h
      cases e : allD r with
      | none => rw [e] at h; cases h
      | some es => rw [e] at h; cases h; exact .cons h1 (DenSs.data e l1)
  | .un :: r, ds, vs, h, l => by cases h
  | .m _ :: r, ds, vs, h, l => by cases h
/-- a new list: mutable (mk) or not -/
def newL (mk : Bool) (ds : List D) (μ : List MO) : Option ER := match mk with
  | true => some (.ok (.m μ.length) (μ ++ [.ml ds]))
  | false => some (.ok (.d (.lst ds)) μ)
theorem post_newL {mk : Bool} {ds : List D} {μ : List MO} {F : Hp} {L : List Addr} {H : Hp} {res : ER} {Q : VK} (hr : Rep K W F L μ H) (hf : newL mk ds μ = some res) (hp : PostE K W E F L H res Q) {p : Addr} (np : H p = none) {xs : List V} (hd : DenL K F xs ds) :
    Q (.ref p) (upd H p (.lst xs)) := by
  cases mk with
  | true =>
    cases hf
    refine hp _ F _ (L ++ [p]) (ext_newM hr np) (hr.newM np (m := .ml ds) (by intro ps z; cases z) ⟨xs, upd_same, hd⟩) ⟨p, ?_, rfl⟩ (by simp)
    rw [List.getElem?_append_right (by rw [hr.len]; exact Nat.le_refl _), hr.len, Nat.sub_self]; rfl
  | false =>
    cases hf
    exact hp _ (upd F p (.lst xs)) _ L (ext_newF hr np) (hr.newF np (by intro ps z; cases z)) (.lst upd_same (hd.mono (le_upd (hr.free np)))) (by simp)
theorem post_newT {ds : List D} {μ : List MO} {F : Hp} {L : List Addr} {H : Hp} {Q : VK} (hr : Rep K W F L μ H) (hp : PostE K W E F L H (.ok (.d (.tup ds)) μ) Q) {p : Addr} (np : H p = none) {xs : List V} (hd : DenL K F xs ds) :
    Q (.ref p) (upd H p (.tup xs)) :=
  hp _ (upd F p (.tup xs)) _ L (ext_newF hr np) (hr.newF np (by intro ps z; cases z)) (.tup (SqT.of upd_same) (hd.mono (le_upd (hr.free np)))) (by simp)
def eTup (f : AF) : EF := fun ρ μ => bAE (f ρ μ) fun ss μ => match allD ss with
  | some ds => if ds.length ≤ 1000 then some (.ok (.d (.tup ds)) μ) else none
  | none => none
def eLst (mk : Bool) (f : AF) : EF := fun ρ μ => bAE (f ρ μ) fun ss μ => match allD ss with
  | some ds => if ds.length ≤ 1000 then newL mk ds μ else none
  | none => none
theorem line1000 {n : Nat} (h : n ≤ 1000) : n ≤ sizeLine := Nat.le_of_lt (small1000 h)
theorem q_tup {es : List Expr} {f : AF} {pos : Pos} {x1} (h : PA X es (aOf X.K W E f)) : PE X (.Tuple es x1 pos) (tOf X.K W E (eTup f)) := by
  refine PE.weak (pe_tup h) fun σ H Q h => ?_
  obtain ⟨F, L, μ, ρ, res, hr, hs, hf, hp⟩ := h
  refine aOf_ok hr hs hf hp fun ss vs μ1 F1 H1 L1 hk e1 r1 d1 p1 => ?_
  cases ea : allD ss with
  | none => simp only [ea] at hk; cases hk
  | some ds =>
    simp only [ea] at hk
    have hd := DenSs.data ea d1
    by_cases hl : ds.length ≤ 1000
    · rw [if_pos hl] at hk; cases hk
      exact ⟨by rw [hd.length]; exact line1000 hl, fun p np => post_newT r1 p1 np hd⟩
    · rw [if_neg hl] at hk; cases hk
theorem q_lst {mk : Bool} {es : List Expr} {f : AF} {pos : Pos} (h : PA X es (aOf X.K W E f)) : PE X (.List es pos) (tOf X.K W E (eLst mk f)) := by
  refine PE.weak (pe_lst h) fun σ H Q h => ?_
  obtain ⟨F, L, μ, ρ, res, hr, hs, hf, hp⟩ := h
  refine aOf_ok hr hs hf hp fun ss vs μ1 F1 H1 L1 hk e1 r1 d1 p1 => ?_
  cases ea : allD ss with
  | none => simp only [ea] at hk; cases hk
  | some ds =>
    simp only [ea] at hk
    have hd := DenSs.data ea d1
    by_cases hl : ds.length ≤ 1000
    · rw [if_pos hl] at hk
      exact ⟨by rw [hd.length]; exact line1000 hl, fun p np => post_newL r1 hk p1 np hd⟩
    · rw [if_neg hl] at hk; cases hk
end
end DL
end

section
set_option Elab.async false
set_option linter.all false
set_option maxRecDepth 100000
set_option maxHeartbeats 4000000
/-! DLstmt: statements, loops, comprehensions, contracts. -/
namespace DL
open PySem PySem.Spec PyProof.Rows L2

section
variable {K : PySem.W.Frag} {W : Wd} {E : XK} {F F1 H H1 : Hp} {L L1 : List Addr} {μ : List MO}
/-- an object that stands, frozen -/
theorem Rep.addF (R : Rep K W F L μ H) {p : Addr} {o : HO} (hp : H p = some o) (hf : F p = none) (hl : p ∉ L) (ho : ∀ ps, o ≠ .tbl ps) : Rep K W (upd F p o) L μ H where
  sub := fun a u e => by
    by_cases hb : a = p
    · subst hb; rw [upd_same] at e; cases e; exact hp
    · rw [upd_ne hb] at e; exact R.sub a u e
  ft := fun a ps e => by
    by_cases hb : a = p
    · subst hb; rw [upd_same] at e; exact ho ps (Option.some.inj e)
    · rw [upd_ne hb] at e; exact R.ft a ps e
  tabs := R.tabs
  nd := R.nd
  len := R.len
  nf := fun a ha => by
    rw [upd_ne (show a ≠ p from fun z => hl (by rw [← z]; exact ha))]
    exact R.nf a ha
  obj := fun i a u e1 e2 => (R.obj i a u e1 e2).mono (le_upd hf) fun z hz => hz
theorem Rep.addM (R : Rep K W F L μ H) {p : Addr} {m : MO} (hf : F p = none) (hl : p ∉ L) (hm : MOk K F H p m) : Rep K W F (L ++ [p]) (μ ++ [m]) H where
  sub := R.sub
  ft := R.ft
  tabs := R.tabs
  nd := by
    rw [List.nodup_append]
    refine ⟨R.nd, by simp, fun a ha b hb => ?_⟩
    have : b = p := by simpa using hb
    subst this
    exact fun z => hl (z ▸ ha)
  len := by simp [R.len]
  nf := fun a ha => by
    rcases List.mem_append.mp ha with z | z
    · exact R.nf a z
    · have : a = p := by simpa using z
      subst this; exact hf
  obj := fun i a u e1 e2 => by
    by_cases hi : i < L.length
    · rw [List.getElem?_append_left hi] at e1
      rw [List.getElem?_append_left (by rw [← R.len]; exact hi)] at e2
      exact R.obj i a u e1 e2
    · rw [List.getElem?_append_right (by omega)] at e1
      rw [List.getElem?_append_right (by rw [← R.len]; omega)] at e2
      rw [← R.len] at e2
      generalize i - L.length = j at e1 e2
      cases j with
      | zero => simp at e1 e2; subst e1 e2; exact hm
      | succ j => simp at e1
/-- a change at a thing that is neither frozen nor ours -/
theorem Rep.updD (R : Rep K W F L μ H) {p : Addr} {u o : HO} (hp : H p = some u) (hf : F p = none) (hl : p ∉ L) (h1 : ∀ ps, u ≠ .tbl ps) (h2 : ∀ c q, u ≠ LamX.CodeO c q) : Rep K W F L μ (upd H p o) where
  sub := fun a v e => by
    rw [upd_ne (show a ≠ p from fun z => by rw [z, hf] at e; cases e)]; exact R.sub a v e
  ft := R.ft
  tabs := tabs_upd R.tabs hp h1 h2
  nd := R.nd
  len := R.len
  nf := R.nf
  obj := fun i a v e1 e2 => by
    have hne : a ≠ p := fun z => hl (by rw [← z]; exact List.mem_of_getElem? e1)
    exact (R.obj i a v e1 e2).mono (fun _ _ h => h) fun z hz => by rw [upd_ne hne]; exact hz
theorem lst_nt {xs : List V} : ∀ ps : Array Value, HO.lst xs ≠ .tbl ps := fun ps z => by cases z
theorem lst_nc {xs : List V} : ∀ (c : Addr) (q : Str), HO.lst xs ≠ LamX.CodeO c q := fun c q z => by unfold LamX.CodeO at z; cases z
theorem dT_nt {xs : List (List Key × V)} : ∀ ps : Array Value, HO.dT xs ≠ .tbl ps := fun ps z => by cases z
theorem dT_nc {xs : List (List Key × V)} : ∀ (c : Addr) (q : Str), HO.dT xs ≠ LamX.CodeO c q := fun c q z => by unfold LamX.CodeO at z; cases z
theorem Ext.updD {F' H' : Hp} {L' : List Addr} (e : Ext F H L F' H' L') {p : Addr} {o : HO} (np : ¬ Al H p) : Ext F H L F' (upd H' p o) L' :=
  have ne : ∀ {b}, Al H b → b ≠ p := fun {b} hb z => np (by rw [← z]; exact hb)
  ⟨e.ff, fun b u hb hl ht => by rw [upd_ne (ne ⟨u, hb, ht⟩)]; exact e.hh b u hb hl ht, fun b hb => by
    obtain ⟨u, e1, n⟩ := e.dom b hb
    exact ⟨u, by rw [upd_ne (ne hb)]; exact e1, n⟩, e.fr, e.lp⟩
theorem Ext.addF {F' H' : Hp} {L' : List Addr} (e : Ext F H L F' H' L') {p : Addr} {o : HO} (np : ¬ Al H p) (hf : F' p = none) : Ext F H L (upd F' p o) H' L' :=
  ⟨fun a u h => le_upd hf a u (e.ff a u h), e.hh, e.dom, fun a ha hn => by
    rw [upd_ne (show a ≠ p from fun z => np (by rw [← z]; exact ha))]; exact e.fr a ha hn, e.lp⟩
theorem Ext.addM {F' H' : Hp} {L' : List Addr} (e : Ext F H L F' H' L') {p : Addr} (np : ¬ Al H p) : Ext F H L F' H' (L' ++ [p]) := by
  obtain ⟨N, e1, e2⟩ := e.lp
  refine ⟨e.ff, e.hh, e.dom, e.fr, ⟨N ++ [p], by rw [e1, List.append_assoc], fun a ha => ?_⟩⟩
  rcases List.mem_append.mp ha with z | z
  · exact e2 a z
  · have : a = p := by simpa using z
    subst this; exact np
end

/-! ### targets: is, the places that are written -/
def gI (K : PySem.W.Frag) (W : Wd) (is : List Nat) (h : TF) : TG := fun v σ H Q => ∃ F L μ ρ d ρ', Rep K W F L μ H ∧ SlotsOk K F L ρ σ ∧ Den K F v d ∧ h d ρ = some ρ' ∧ ∀ σ', SlotsOk K F L ρ' σ' → (σ'.length = σ.length ∧ ∀ j, j ∉ is → σ'[j]? = σ[j]?) → Q σ' H
def gsI (K : PySem.W.Frag) (W : Wd) (is : List Nat) (h : List D → List S → Option (List S)) : TGs := fun vs σ H Q => ∃ F L μ ρ ds ρ', Rep K W F L μ H ∧ SlotsOk K F L ρ σ ∧ DenL K F vs ds ∧ h ds ρ = some ρ' ∧ ∀ σ', SlotsOk K F L ρ' σ' → (σ'.length = σ.length ∧ ∀ j, j ∉ is → σ'[j]? = σ[j]?) → Q σ' H
def hName (i : Nat) : TF := fun d ρ => some (ρ.set i (.d d))
def hsNil : List D → List S → Option (List S) := fun ds ρ => match ds with | [] => some ρ | _ => none
def hsCons (h : TF) (hs : List D → List S → Option (List S)) : List D → List S → Option (List S) := fun ds ρ => match ds with
  | d :: r => (match h d ρ with | some ρ1 => hs r ρ1 | none => none)
  | [] => none
def hTup (n : Nat) (hs : List D → List S → Option (List S)) : TF := fun d ρ => match d with
  | .tup ds => if ds.length = n then hs ds ρ else none
  | _ => none
section
variable {X : Cx} {W : Wd} {E : XK}
theorem q_tname {i : Nat} {x : Str} {pos : Pos} (hN : X.N.Nodup) (hi : X.N[i]? = some x := by rfl) (hx : Loc X.env.scope x := by first | exact Or.inl rfl | exact Or.inr rfl) (hf : X.fn x = true ∨ X.env.scope.names.lookup x = some .local := by first | exact .inl rfl | exact .inr rfl | assumption) : PG X (.Name x pos) (gI X.K W [i] (hName i)) := by
  refine PG.weak (pg_name hN hi hx hf) fun v σ H Q h => ?_
  obtain ⟨F, L, μ, ρ, d, ρ', hr, hs, hd, hh, hq⟩ := h
  cases hh
  refine hq _ (SlotsOk.set (s := .d d) (show DenS X.K F L v (.d d) from hd) i hs) ⟨by simp, fun j hj => ?_⟩
  rw [List.getElem?_set_ne (by simpa using fun z => hj (by simp [z]))]
theorem q_tnil : PGs X [] (gsI X.K W [] hsNil) := PGs.weak pgs_nil fun v σ H Q h => by
  obtain ⟨F, L, μ, ρ, ds, ρ', hr, hs, hd, hh, hq⟩ := h
  cases hd with
  | nil => cases hh; exact ⟨rfl, hq σ hs ⟨rfl, fun _ _ => rfl⟩⟩
  | cons _ _ => cases hh
theorem q_tcons {e : Expr} {es : List Expr} {is js : List Nat} {h : TF} {hs : List D → List S → Option (List S)} (h1 : PG X e (gI X.K W is h)) (h2 : PGs X es (gsI X.K W js hs))
    (hs' : (assignEach (e :: es) X.env).map (·.2) = assign e X.env :: (assignEach es X.env).map (·.2) := by rfl) : PGs X (e :: es) (gsI X.K W (is ++ js) (hsCons h hs)) := by
  refine PGs.weak (pgs_cons h1 h2 hs') fun v σ H Q q => ?_
  obtain ⟨F, L, μ, ρ, ds, ρ', hr, hsl, hd, hh, hq⟩ := q
  cases hd with
  | nil => cases hh
  | cons hd1 hd2 =>
    rename_i v1 vs1 d1 ds1
    unfold hsCons at hh
    simp only at hh
    cases e1 : h d1 ρ with
    | none => rw [e1] at hh; cases hh
    | some ρ1 =>
      rw [e1] at hh
      refine ⟨v1, vs1, rfl, F, L, μ, ρ, d1, ρ1, hr, hsl, hd1, e1, fun σ1 hs1 k1 => ?_⟩
      refine ⟨F, L, μ, ρ1, ds1, ρ', hr, hs1, hd2, hh, fun σ2 hs2 k2 => hq σ2 hs2 ⟨k2.1.trans k1.1, fun j hj => ?_⟩⟩
      rw [k2.2 j (fun z => hj (List.mem_append_right _ z)), k1.2 j (fun z => hj (List.mem_append_left _ z))]
theorem q_ttup {es : List Expr} {k : Nat} {pos : Pos} {is : List Nat} {hs : List D → List S → Option (List S)} {n : Nat} (hc : X.calm = true) (h : PGs X es (gsI X.K W is hs))
    (hn : (assignEach es X.env).length = n := by rfl) (hst : (assignEach es X.env).findIdx? (·.1) = none := by rfl) : PG X (.Tuple es k pos) (gI X.K W is (hTup n hs)) := by
  refine PG.weak (pg_tup hc h hn hst) fun v σ H Q q => ?_
  obtain ⟨F, L, μ, ρ, d, ρ', hr, hsl, hd, hh, hq⟩ := q
  cases hd with
  | tup h1 h2 =>
    rename_i a xs ds
    unfold hTup at hh
    simp only at hh
    by_cases hl : ds.length = n
    · rw [if_pos hl] at hh
      exact ⟨a, xs, rfl, Le.seqT hr.sub h1, by rw [h2.length, hl], F, L, μ, ρ, ds, ρ', hr, hsl, h2, hh, hq⟩
    · rw [if_neg hl] at hh; cases hh
  | _ => cases hh

/-! ### blocks -/
def sNx : SF := fun ρ μ => some (.nx ρ μ)
def sSeq (f g : SF) : SF := fun ρ μ => match f ρ μ with
  | some (.nx ρ1 μ1) => g ρ1 μ1
  | r => r
variable {K : PySem.W.Frag}
theorem qs_nil : PSs X [] (sOf X.K W E sNx) := PSs.weak pss_nil fun D σ H h => by
  obtain ⟨F, L, μ, ρ, r, hr, hs, hf, hp⟩ := h
  cases hf
  exact hp σ F H L .refl hr hs
theorem tSeq_of {f g : SF} {D : Ends} {σ : Sl} {H : Hp} (h : sOf K W E (sSeq f g) D σ H) : tSeq (sOf K W E f) (sOf K W E g) D σ H := by
  obtain ⟨F, L, μ, ρ, r, hr, hs, hf, hp⟩ := h
  unfold sSeq at hf
  show sOf K W E f _ σ H
  cases ea : f ρ μ with
  | none => rw [ea] at hf; cases hf
  | some ra =>
    rw [ea] at hf
    refine ⟨F, L, μ, ρ, ra, hr, hs, ea, ?_⟩
    cases ra with
    | nx ρ1 μ1 =>
      intro σ' F' H' L' e1 r1 s1
      exact ⟨F', L', μ1, ρ1, r, r1, s1, hf, hp.mono e1⟩
    | ret s μ1 => cases hf; exact hp
    | bk ρ1 μ1 => cases hf; exact hp
    | ct ρ1 μ1 => cases hf; exact hp
    | ex x μ1 => cases hf; exact hp
theorem qs_cons {st : Stmt} {rest : List Stmt} {f g : SF} (h1 : PS X st (sOf X.K W E f)) (h2 : PSs X rest (sOf X.K W E g)) : PSs X (st :: rest) (sOf X.K W E (sSeq f g)) :=
  PSs.weak (pss_cons h1 h2) fun _ _ _ h => tSeq_of h
theorem qs_one {st : Stmt} {f : SF} (h1 : PS X st (sOf X.K W E f)) : PSs X [st] (sOf X.K W E f) := pss_one h1

/-! ### small statements -/
def sSet (i : Nat) (f : EF) : SF := fun ρ μ => match f ρ μ with
  | some (.ok s μ1) => some (.nx (ρ.set i s) μ1)
  | some (.ex x μ1) => some (.ex x μ1)
  | none => none
/-- an expression, then a statement's end -/
def bS (r : Option ER) (k : S → List MO → Option SR) : Option SR := match r with
  | some (.ok s μ) => k s μ
  | some (.ex x μ) => some (.ex x μ)
  | none => none
theorem tS_ok {f : EF} {σ : Sl} {H : Hp} {F : Hp} {L : List Addr} {μ : List MO} {ρ : List S} {D : Ends} {k : S → List MO → Option SR} {res : SR} (hr : Rep K W F L μ H) (hs : SlotsOk K F L ρ σ)
    (hf : bS (f ρ μ) k = some res) (hp : PostS K W E F L H res D) {R : VK}
    (hk : ∀ s v μ1 F1 H1 L1, k s μ1 = some res → Ext F H L F1 H1 L1 → Rep K W F1 L1 μ1 H1 → DenS K F1 L1 v s → s ≠ .un → PostS K W E F1 L1 H1 res D → R v H1) : tOf K W E f σ H R := by
  unfold bS at hf
  cases ea : f ρ μ with
  | none => rw [ea] at hf; cases hf
  | some ra =>
    rw [ea] at hf
    refine ⟨F, L, μ, ρ, ra, hr, hs, ea, ?_⟩
    cases ra with
    | ex x μ1 => cases hf; exact hp
    | ok ss μ1 => exact fun vs F1 H1 L1 e1 r1 d1 n1 => hk ss vs μ1 F1 H1 L1 hf e1 r1 d1 n1 (hp.mono e1)
theorem tSet_of {i : Nat} {f : EF} {D : Ends} {σ : Sl} {H : Hp} (h : sOf K W E (sSet i f) D σ H) : tAsg (tOf K W E f) (gName i) D σ H := by
  obtain ⟨F, L, μ, ρ, r, hr, hs, hf, hp⟩ := h
  have hf : bS (f ρ μ) (fun s μ1 => some (.nx (ρ.set i s) μ1)) = some r := hf
  refine tS_ok hr hs hf hp fun s v μ1 F1 H1 L1 hk e1 r1 d1 n1 p1 => ?_
  cases hk
  exact p1 _ F1 H1 L1 .refl r1 ((hs.mono e1).set d1 i)
theorem qs_set {i : Nat} {x : Str} {e : Expr} {f : EF} {pos pos' : Pos} (hN : X.N.Nodup) (he : PE X e (tOf X.K W E f)) (hi : X.N[i]? = some x := by rfl) (hx : Loc X.env.scope x := by first | exact Or.inl rfl | exact Or.inr rfl) (hs : swapsWith e (some (.Name x pos')) pos.line X.env = pure false := by rfl) (hf : X.fn x = true ∨ X.env.scope.names.lookup x = some .local := by first | exact .inl rfl | exact .inr rfl | assumption) :
    PS X (.Assign [.Name x pos'] e pos) (sOf X.K W E (sSet i f)) := PS.weak (ps_set hN hi hx he hs hf) fun _ _ _ h => tSet_of h
def sAsg (h : TF) (f : EF) : SF := fun ρ μ => match f ρ μ with
  | some (.ok (.d d) μ1) => (match h d ρ with | some ρ' => some (.nx ρ' μ1) | none => none)
  | some (.ex x μ1) => some (.ex x μ1)
  | _ => none
theorem qs_asg {tg e : Expr} {f : EF} {is : List Nat} {h : TF} {pos : Pos} (he : PE X e (tOf X.K W E f)) (hg : PG X tg (gI X.K W is h)) (hs : swapsWithSole [tg] e pos.line X.env = pure false := by rfl) (hw : swappedStores [tg] e X.env = pure none := by rfl)
    (h1 : (assignEach [tg] X.env).map (·.2) = [assign tg X.env] := by rfl) : PS X (.Assign [tg] e pos) (sOf X.K W E (sAsg h f)) := by
  refine PS.weak (ps_asg he hg hs hw h1) fun D σ H q => ?_
  obtain ⟨F, L, μ, ρ, r, hr, hs, hf, hp⟩ := q
  have hf : bS (f ρ μ) (fun s μ1 => match s with | .d d => (match h d ρ with | some ρ' => some (.nx ρ' μ1) | none => none) | _ => none) = some r := by
    rw [← hf]
    unfold bS sAsg
    cases f ρ μ with
    | none => rfl
    | some ra => cases ra with
      | ex => rfl
      | ok s μ1 => cases s <;> rfl
  refine tS_ok hr hs hf hp fun s v μ1 F1 H1 L1 hk e1 r1 d1 n1 p1 => ?_
  cases s with
  | un => cases hk
  | m i => cases hk
  | d d =>
    simp only at hk
    cases e2 : h d ρ with
    | none => rw [e2] at hk; cases hk
    | some ρ' =>
      rw [e2] at hk; cases hk
      exact ⟨F1, L1, μ1, ρ, d, ρ', r1, hs.mono e1, d1, e2, fun σ' hs' _ => p1 σ' F1 H1 L1 .refl r1 hs'⟩
/-- a, b = x, y -/
def sPar (i j : Nat) (f : AF) : SF := fun ρ μ => match f ρ μ with
  | some (.ok [s, u] μ1) => some (.nx ((ρ.set i s).set j u) μ1)
  | some (.ex x μ1) => some (.ex x μ1)
  | _ => none
theorem qs_par {i j : Nat} {x y : Str} {a b : Expr} {f : AF} {px py pt : Pos} {kt k2 pt2} {pos : Pos} (hc : X.calm = true) (hN : X.N.Nodup) (ha : PA X [a, b] (aOf X.K W E f)) (hi : X.N[i]? = some x := by rfl) (hj : X.N[j]? = some y := by rfl) (hij : i ≠ j := by decide)
    (hx : X.env.scope.names.lookup x = some .local := by rfl) (hy : X.env.scope.names.lookup y = some .local := by rfl)
    (hw : swappedStores [.Tuple [.Name x px, .Name y py] kt pt] (.Tuple [a, b] k2 pt2) X.env = pure (some [x, y]) := by rfl)
    (hs : swapsWithSole [.Tuple [.Name x px, .Name y py] kt pt] (.Tuple [a, b] k2 pt2) pos.line X.env = pure false := by rfl) :
    PS X (.Assign [.Tuple [.Name x px, .Name y py] kt pt] (.Tuple [a, b] k2 pt2) pos) (sOf X.K W E (sPar i j f)) := by
  refine PS.weak (ps_par hc hN hi hj hij hx hy ha hw hs) fun D σ H q => ?_
  obtain ⟨F, L, μ, ρ, r, hr, hs, hf, hp⟩ := q
  unfold sPar at hf
  show aOf X.K W E f σ H _
  cases ea : f ρ μ with
  | none => rw [ea] at hf; cases hf
  | some ra =>
    rw [ea] at hf
    refine ⟨F, L, μ, ρ, ra, hr, hs, ea, ?_⟩
    cases ra with
    | ex x μ1 => cases hf; exact hp
    | ok ss μ1 =>
      intro vs F1 H1 L1 e1 r1 d1
      match ss, d1, hf with
      | [s, u], .cons d1 (.cons d2 .nil), hf =>
        cases hf
        exact ⟨_, _, rfl, hp _ F1 H1 L1 e1 r1 (((hs.mono e1).set d1 i).set d2 j)⟩
def sDrop (f : EF) : SF := fun ρ μ => match f ρ μ with
  | some (.ok _ μ1) => some (.nx ρ μ1)
  | some (.ex x μ1) => some (.ex x μ1)
  | none => none
theorem qs_expr {e : Expr} {f : EF} {pos : Pos} (he : PE X e (tOf X.K W E f)) (hs : swapsWith e none pos.line X.env = pure false := by rfl) : PS X (.Expr e pos) (sOf X.K W E (sDrop f)) := by
  refine PS.weak (ps_expr he hs) fun D σ H q => ?_
  obtain ⟨F, L, μ, ρ, r, hr, hs, hf, hp⟩ := q
  have hf : bS (f ρ μ) (fun s μ1 => some (.nx ρ μ1)) = some r := hf
  refine tS_ok hr hs hf hp fun s v μ1 F1 H1 L1 hk e1 r1 d1 n1 p1 => ?_
  cases hk
  exact p1 _ F1 H1 L1 .refl r1 (hs.mono e1)
def sRet (f : EF) : SF := fun ρ μ => match f ρ μ with
  | some (.ok s μ1) => some (.ret s μ1)
  | some (.ex x μ1) => some (.ex x μ1)
  | none => none
theorem qs_ret {e : Expr} {f : EF} {pos : Pos} (he : PE X e (tOf X.K W E f)) : PS X (.Return (some e) pos) (sOf X.K W E (sRet f)) := by
  refine PS.weak (ps_ret he) fun D σ H q => ?_
  obtain ⟨F, L, μ, ρ, r, hr, hs, hf, hp⟩ := q
  have hf : bS (f ρ μ) (fun s μ1 => some (.ret s μ1)) = some r := hf
  refine tS_ok hr hs hf hp fun s v μ1 F1 H1 L1 hk e1 r1 d1 n1 p1 => ?_
  cases hk
  exact p1 _ F1 H1 L1 .refl r1 d1 n1
def sIf (c : BF) (f g : SF) : SF := fun ρ μ => match c ρ μ with
  | some (.ok true μ1) => f ρ μ1
  | some (.ok false μ1) => g ρ μ1
  | some (.ex x μ1) => some (.ex x μ1)
  | none => none
theorem qs_if {c : Expr} {a b : List Stmt} {fc : BF} {f g : SF} {pos : Pos} (hc : PT X c (bOf X.K W E fc)) (ha : PSs X a (sOf X.K W E f)) (hb : PSs X b (sOf X.K W E g)) : PS X (.If c a b pos) (sOf X.K W E (sIf fc f g)) := by
  refine PS.weak (ps_if hc ha hb) fun D σ H q => ?_
  obtain ⟨F, L, μ, ρ, r, hr, hs, hf, hp⟩ := q
  unfold sIf at hf
  show bOf X.K W E fc σ H _
  cases ea : fc ρ μ with
  | none => rw [ea] at hf; cases hf
  | some ra =>
    rw [ea] at hf
    refine ⟨F, L, μ, ρ, ra, hr, hs, ea, ?_⟩
    cases ra with
    | ex x μ1 => cases hf; exact hp
    | ok b μ1 =>
      intro F1 H1 L1 e1 r1
      cases b with
      | true => exact iteT ⟨F1, L1, μ1, ρ, r, r1, hs.mono e1, hf, hp.mono e1⟩
      | false => exact iteF ⟨F1, L1, μ1, ρ, r, r1, hs.mono e1, hf, hp.mono e1⟩

/-! ### for -/
def forF (h : TF) (b : SF) : List D → List S → List MO → Option SR
  | [], ρ, μ => some (.nx ρ μ)
  | d :: ds, ρ, μ => match h d ρ with
    | none => none
    | some ρ1 => match b ρ1 μ with
      | some (.nx ρ2 μ2) => forF h b ds ρ2 μ2
      | some (.ct ρ2 μ2) => forF h b ds ρ2 μ2
      | some (.bk ρ2 μ2) => some (.nx ρ2 μ2)
      | r => r
def sFor (fi : IF) (h : TF) (b : SF) : SF := fun ρ μ => match fi ρ μ with
  | some (.ok items μ1) => forF h b items ρ μ1
  | some (.ex x μ1) => some (.ex x μ1)
  | none => none
theorem ItemAt.step {F H H' : Hp} {L : List Addr} {μ : List MO} {x : V} {d : D} (hr : Rep K W F L μ H) (h : ItemAt K F H x H' d) : ∃ F', Ext F H L F' H' L ∧ Rep K W F' L μ H' ∧ Den K F' x d := by
  rcases h with ⟨rfl, hd⟩ | ⟨T, ys, ds, rfl, nT, rfl, rfl, hd⟩
  · exact ⟨F, .refl, hr, hd⟩
  · exact ⟨upd F T (.tup ys), ext_newF hr nT, hr.newF nT (by intro ps z; cases z), .tup (SqT.of upd_same) (hd.mono (le_upd (hr.free nT)))⟩
theorem for_core {J : It} {items : List D} {is : List Nat} {h : TF} {b : SF} {F H : Hp} {L : List Addr} {μ : List MO} {ρ : List S} {σ : Sl} {D : Ends} {res : SR} (hw : WalkD K F J items) (hr : Rep K W F L μ H) (hs : SlotsOk K F L ρ σ)
    (hf : forF h b items ρ μ = some res) (hp : PostS K W E F L H res D) :
    ∃ W' : Nat → Nat → Sl → Hp → Prop, (∃ m, W' 0 m σ H) ∧ ∀ i m σ H, W' i m σ H →
      (J.stop i H ∧ D.nx σ H) ∨ (J.go i H ∧ ∃ N : Sl → Hp → Prop, (∀ σ' H', N σ' H' → ∃ m', m' < m ∧ W' (i + 1) m' σ' H') ∧ ∀ x H', J.yld i H x H' → gI K W is h x σ H' fun σ2 H2 => sOf K W E b { D with nx := N, ct := N, bk := D.nx } σ2 H2) := by
  refine ⟨fun i m σ' H' => m = items.length - i ∧ i ≤ items.length ∧ ∃ F' L' μ' ρ', Ext F H L F' H' L' ∧ Rep K W F' L' μ' H' ∧ SlotsOk K F' L' ρ' σ' ∧ forF h b (items.drop i) ρ' μ' = some res,
    ⟨items.length, by simp, Nat.zero_le _, F, L, μ, ρ, .refl, hr, hs, by simpa using hf⟩, ?_⟩
  rintro i m σ' H' ⟨rfl, hi, F', L', μ', ρ', e1, r1, s1, hf1⟩
  have hw1 := hw H' (fun a o q => r1.sub a o (e1.ff a o q))
  by_cases hlt : i < items.length
  · refine .inr ⟨hw1.1 i hlt, fun σ2 H2 => ∃ F2 L2 μ2 ρ2, Ext F H L F2 H2 L2 ∧ Rep K W F2 L2 μ2 H2 ∧ SlotsOk K F2 L2 ρ2 σ2 ∧ forF h b (items.drop (i + 1)) ρ2 μ2 = some res, fun σ2 H2 q => ⟨items.length - (i + 1), by omega, rfl, hlt, q⟩, fun x H2 y => ?_⟩
    have hd : items[i]? = some items[i] := List.getElem?_eq_getElem hlt
    have it := hw1.2.2 i x H2 items[i] hd y
    have it' : ItemAt K F' H' x H2 items[i] := by
      rcases it with ⟨a1, a2⟩ | ⟨T, ys, ds, a1, a2, a3, a4, a5⟩
      · exact .inl ⟨a1, a2.mono e1.ff⟩
      · exact .inr ⟨T, ys, ds, a1, a2, a3, a4, a5.mono e1.ff⟩
    obtain ⟨F2, e2, r2, d2⟩ := it'.step r1
    rw [List.drop_eq_getElem_cons hlt] at hf1
    unfold forF at hf1
    cases eh : h items[i] ρ' with
    | none => rw [eh] at hf1; cases hf1
    | some ρ1 =>
      rw [eh] at hf1
      simp only at hf1
      refine ⟨F2, L', μ', ρ', items[i], ρ1, r2, s1.mono e2, d2, eh, fun σ3 s3 _ => ?_⟩
      cases eb : b ρ1 μ' with
      | none => rw [eb] at hf1; cases hf1
      | some rb =>
        rw [eb] at hf1
        refine ⟨F2, L', μ', ρ1, rb, r2, s3, eb, ?_⟩
        have e12 := e1.trans e2
        cases rb with
        | nx ρ2 μ2 => exact fun σ4 F4 H4 L4 e4 r4 s4 => ⟨F4, L4, μ2, ρ2, e12.trans e4, r4, s4, hf1⟩
        | ct ρ2 μ2 => exact fun σ4 F4 H4 L4 e4 r4 s4 => ⟨F4, L4, μ2, ρ2, e12.trans e4, r4, s4, hf1⟩
        | bk ρ2 μ2 => cases hf1; exact fun σ4 F4 H4 L4 e4 r4 s4 => hp σ4 F4 H4 L4 (e12.trans e4) r4 s4
        | ret s μ2 => cases hf1; exact hp.mono e12
        | ex x μ2 => cases hf1; exact PostX.mono e12 hp
  · have e : i = items.length := by omega
    subst e
    rw [List.drop_length] at hf1
    cases hf1
    exact .inl ⟨hw1.2.1, hp _ F' H' L' e1 r1 s1⟩
theorem qs_for {tg iter : Expr} {body : List Stmt} {fi : IF} {is : List Nat} {h : TF} {b : SF} {pos : Pos} (hpo : PassesOwn (model X.prog X.w) X.A X.env X.xe) (hc : X.calm = true) (hi : PI X tg iter (iOf X.K W E fi)) (hg : PG X tg (gI X.K W is h)) (hb : PSs X body (sOf X.K W E b))
    (hs : ∀ x, foldedSetIterable iter X.env x = pure x := by intro _; rfl) : PS X (.For tg iter body [] pos) (sOf X.K W E (sFor fi h b)) := by
  refine PS.weak (ps_for hpo hc hi hg hb hs) fun D σ H q => ?_
  obtain ⟨F, L, μ, ρ, r, hr, hs, hf, hp⟩ := q
  unfold sFor at hf
  show iOf X.K W E fi σ H _
  cases ea : fi ρ μ with
  | none => rw [ea] at hf; cases hf
  | some ra =>
    rw [ea] at hf
    refine ⟨F, L, μ, ρ, ra, hr, hs, ea, ?_⟩
    cases ra with
    | ex x μ1 => cases hf; exact hp
    | ok items μ1 =>
      intro J F1 H1 L1 e1 r1 w1
      exact for_core w1 r1 (hs.mono e1) hf (hp.mono e1)

/-! ### comprehensions -/
def lcF (h : TF) (c : BF) (e : EF) (ρ : List S) : List D → List D → List MO → Option (List D × List MO)
  | [], acc, μ => some (acc, μ)
  | d :: ds, acc, μ => match h d ρ with
    | none => none
    | some ρ1 => match c ρ1 μ with
      | some (.ok true μ1) => (match e ρ1 μ1 with
        | some (.ok (.d y) μ2) => lcF h c e ρ ds (acc ++ [y]) μ2
        | _ => none)
      | some (.ok false μ1) => lcF h c e ρ ds acc μ1
      | _ => none
def wipeS (ρ : List S) : List Nat → List S
  | [] => ρ
  | v :: vs => (wipeS ρ vs).set v .un
def cap : Nat := 1000000
theorem cap_line {n : Nat} (h : n ≤ cap) : n < sizeLine := Nat.lt_of_le_of_lt h (by decide)
def eLc (mk : Bool) (vs : List Nat) (fi : IF) (h : TF) (c : BF) (e : EF) : EF := fun ρ μ => match fi ρ μ with
  | some (.ok items μ1) => if items.length ≤ cap then (match lcF h c e (wipeS ρ vs) items [] μ1 with
    | some (acc, μ2) => newL mk acc μ2
    | none => none) else none
  | some (.ex x μ1) => some (.ex x μ1)
  | none => none
def bYes : BF := fun _ μ => some (.ok true μ)
theorem SlotsOk.wipe {F : Hp} {L : List Addr} {ρ : List S} {σ : Sl} (h : SlotsOk K F L ρ σ) : ∀ vs : List Nat, SlotsOk K F L (wipeS ρ vs) (wipe σ vs)
  | [] => h
  | v :: vs => (SlotsOk.wipe h vs).setUn v
theorem wipe_get (σ : Sl) (j : Nat) : ∀ vs : List Nat, (wipe σ vs)[j]? = if j ∈ vs then (if j < σ.length then some none else none) else σ[j]?
  | [] => by simp [wipe]
  | v :: vs => by
    show ((wipe σ vs).set v none)[j]? = _
    by_cases hj : v = j
    · subst hj
      by_cases hl : v < σ.length
      · rw [List.getElem?_set_self (by rw [wipe_length]; exact hl)]; simp [hl]
      · rw [List.getElem?_eq_none (by rw [List.length_set, wipe_length]; omega)]; simp [hl]
    · rw [List.getElem?_set_ne hj, wipe_get σ j vs]
      have : j ≠ v := fun z => hj z.symm
      simp [this]
theorem wipe_same {σ σ' : Sl} {vs is : List Nat} (hi : ∀ i ∈ is, i ∈ vs) (h1 : σ'.length = σ.length) (h2 : ∀ j, j ∉ is → σ'[j]? = σ[j]?) : wipe σ' vs = wipe σ vs := by
  apply List.ext_getElem?
  intro j
  rw [wipe_get, wipe_get, h1]
  by_cases hj : j ∈ vs
  · rw [if_pos hj, if_pos hj]
  · rw [if_neg hj, if_neg hj, h2 j (fun z => hj (hi j z))]
theorem wipe_wipe {σ : Sl} {vs : List Nat} : wipe (wipe σ vs) vs = wipe σ vs := by
  apply List.ext_getElem?
  intro j
  rw [wipe_get, wipe_get, wipe_length]
  by_cases hj : j ∈ vs
  · rw [if_pos hj, if_pos hj]
  · rw [if_neg hj, if_neg hj]
theorem post_newD {mk : Bool} {ds : List D} {μ : List MO} {F0 H0 : Hp} {L0 : List Addr} {F : Hp} {L : List Addr} {H : Hp} {res : ER} {Q : VK} (e : Ext F0 H0 L0 F H L) (hr : Rep K W F L μ H) (hf : newL mk ds μ = some res) (hp : PostE K W E F0 L0 H0 res Q) {p : Addr} {xs : List V} (np : ¬ Al H0 p) (hpp : H p = some (.lst xs)) (hfp : F p = none) (hl : p ∉ L) (hd : DenL K F xs ds) :
    Q (.ref p) H := by
  cases mk with
  | true =>
    cases hf
    refine hp _ F H (L ++ [p]) (e.addM np) (hr.addM hfp hl ⟨xs, hpp, hd⟩) ⟨p, ?_, rfl⟩ (by simp)
    rw [List.getElem?_append_right (by rw [hr.len]; exact Nat.le_refl _), hr.len, Nat.sub_self]; rfl
  | false =>
    cases hf
    exact hp _ (upd F p (.lst xs)) H L (e.addF np hfp) (hr.addF hpp hfp hl lst_nt) (.lst upd_same (hd.mono (le_upd hfp))) (by simp)
theorem lc_core' {J : It} {items : List D} {vs is : List Nat} {h : TF} {c : BF} {e : EF} {F H : Hp} {L : List Addr} {μ μ2 : List MO} {ρ : List S} {σ : Sl} {acc0 : List D} {D0 : Addr} {Qd : Hp → Prop} (hw : WalkD K F J items) (hr : Rep K W F L μ H) (hs : SlotsOk K F L ρ σ) (hi : ∀ i ∈ is, i ∈ vs) (hD : H D0 = none) (hlen : items.length ≤ cap)
    (hf : lcF h c e (wipeS ρ vs) items [] μ = some (acc0, μ2))
    (hq : ∀ F' H' L' xs, Ext F H L F' H' L' → Rep K W F' L' μ2 H' → H' D0 = some (.lst xs) → F' D0 = none → D0 ∉ L' → DenL K F' xs acc0 → Qd H') :
    ∃ W' : Nat → Nat → Hp → Prop, (∃ m, W' 0 m (upd H D0 (.lst []))) ∧ ∀ i m H, W' i m H →
      (J.stop i H ∧ Qd H) ∨ (J.go i H ∧ ∃ Nx : Hp → Prop, (∀ H', Nx H' → ∃ m', m' < m ∧ W' (i + 1) m' H') ∧ ∀ x H', J.yld i H x H' → gI K W is h x (wipe σ vs) H' fun σ2 H2 => wipe σ2 vs = wipe σ vs ∧ bOf K W E0 c σ2 H2 fun b H3 =>
        if b = true then tOf K W E0 e σ2 H3 fun y H4 => ∃ acc, H4 D0 = some (.lst acc) ∧ acc.length < sizeLine ∧ Nx (upd H4 D0 (.lst (acc ++ [y]))) else Nx H3) := by
  refine ⟨fun i m H' => m = items.length - i ∧ i ≤ items.length ∧ ∃ F' L' μ' acc xs, Ext F H L F' H' L' ∧ Rep K W F' L' μ' H' ∧ H' D0 = some (.lst xs) ∧ F' D0 = none ∧ D0 ∉ L' ∧ DenL K F' xs acc ∧ acc.length ≤ i ∧ lcF h c e (wipeS ρ vs) (items.drop i) acc μ' = some (acc0, μ2),
    ⟨items.length, by simp, Nat.zero_le _, F, L, μ, [], [], Ext.refl.updD (Al.no hD), ?_, upd_same, hr.free hD, hr.notL hD, .nil, Nat.le_refl _, by simpa using hf⟩, ?_⟩
  · exact { sub := fun a v q => by rw [upd_ne (ne_of_none (hr.sub a v q) hD)]; exact hr.sub a v q
            ft := hr.ft
            tabs := hr.tabs.ext (le_upd hD)
            nd := hr.nd
            len := hr.len
            nf := hr.nf
            obj := fun i a u e1 e2 => (hr.obj i a u e1 e2).mono (fun _ _ h => h) fun z hz => by rw [upd_ne (ne_of_none hz hD)]; exact hz }
  rintro i m H' ⟨rfl, hi', F', L', μ', acc, xs, e1, r1, hD1, hF1, hL1, da, hacc, hf1⟩
  have hw1 := hw H' (fun a o q => r1.sub a o (e1.ff a o q))
  by_cases hlt : i < items.length
  · refine .inr ⟨hw1.1 i hlt, fun H2 => ∃ F2 L2 μ2' acc2 xs2, Ext F H L F2 H2 L2 ∧ Rep K W F2 L2 μ2' H2 ∧ H2 D0 = some (.lst xs2) ∧ F2 D0 = none ∧ D0 ∉ L2 ∧ DenL K F2 xs2 acc2 ∧ acc2.length ≤ i + 1 ∧ lcF h c e (wipeS ρ vs) (items.drop (i + 1)) acc2 μ2' = some (acc0, μ2), fun H2 q => ⟨items.length - (i + 1), by omega, rfl, hlt, q⟩, fun x H2 y => ?_⟩
    have hd : items[i]? = some items[i] := List.getElem?_eq_getElem hlt
    have it := hw1.2.2 i x H2 items[i] hd y
    have it' : ItemAt K F' H' x H2 items[i] := by
      rcases it with ⟨a1, a2⟩ | ⟨T, ys, ds, a1, a2, a3, a4, a5⟩
      · exact .inl ⟨a1, a2.mono e1.ff⟩
      · exact .inr ⟨T, ys, ds, a1, a2, a3, a4, a5.mono e1.ff⟩
    obtain ⟨F2, e2, r2, d2⟩ := it'.step r1
    have hDn : Al H' D0 := ⟨_, hD1, lst_nt⟩
    rw [List.drop_eq_getElem_cons hlt] at hf1
    unfold lcF at hf1
    have keep : ∀ {Fa Ha : Hp} {La : List Addr}, Ext F' H' L' Fa Ha La → Ha D0 = some (.lst xs) ∧ Fa D0 = none ∧ D0 ∉ La := fun {Fa Ha La} ea => by
      refine ⟨ea.hh D0 _ hD1 hL1 lst_nt, ea.fr D0 hDn hF1, ?_⟩
      obtain ⟨N, en, nn⟩ := ea.lp
      rw [en]
      intro z
      rcases List.mem_append.mp z with z | z
      · exact hL1 z
      · exact nn D0 z hDn
    cases eh : h items[i] (wipeS ρ vs) with
    | none => rw [eh] at hf1; cases hf1
    | some ρ1 =>
      rw [eh] at hf1
      simp only at hf1
      refine ⟨F2, L', μ', wipeS ρ vs, items[i], ρ1, r2, ((hs.mono e1).wipe vs).mono e2, d2, eh, fun σ3 s3 k3 => ⟨?_, ?_⟩⟩
      · exact (wipe_same hi k3.1 k3.2).trans wipe_wipe
      cases ec : c ρ1 μ' with
      | none => rw [ec] at hf1; cases hf1
      | some rc =>
        rw [ec] at hf1
        refine ⟨F2, L', μ', ρ1, rc, r2, s3, ec, ?_⟩
        cases rc with
        | ex x μ1 => cases hf1
        | ok b μ1 =>
          intro F3 H3 L3 e3 r3
          cases b with
          | false =>
            refine iteF ?_
            obtain ⟨k1, k2, k3⟩ := keep (e2.trans e3)
            exact ⟨F3, L3, μ1, acc, xs, (e1.trans e2).trans e3, r3, k1, k2, k3, da.mono (e2.trans e3).ff, by omega, hf1⟩
          | true =>
            refine iteT ?_
            simp only at hf1
            cases ee : e ρ1 μ1 with
            | none => rw [ee] at hf1; cases hf1
            | some re =>
              rw [ee] at hf1
              refine ⟨F3, L3, μ1, ρ1, re, r3, s3.mono e3, ee, ?_⟩
              cases re with
              | ex x μ2 => cases hf1
              | ok s μ2' =>
                cases s with
                | un => cases hf1
                | m j => cases hf1
                | d yd =>
                  intro v F4 H4 L4 e4 r4 d4 n4
                  have e24 := (e2.trans e3).trans e4
                  obtain ⟨k1, k2, k3⟩ := keep e24
                  have hl := da.length
                  refine ⟨xs, k1, cap_line (by omega), F4, L4, μ2', acc ++ [yd], xs ++ [v], (e1.trans e24).updD (Al.no hD), r4.updD k1 k2 k3 lst_nt lst_nc, upd_same, k2, k3, DenL.append (da.mono e24.ff) (.cons d4 .nil), by simp; omega, hf1⟩
  · have e' : i = items.length := by omega
    subst e'
    rw [List.drop_length] at hf1
    cases hf1
    exact .inl ⟨hw1.2.1, hq F' H' L' xs e1 r1 hD1 hF1 hL1 da⟩
theorem tLc_of {mk : Bool} {vs is : List Nat} {fi : IF} {h : TF} {c : BF} {e : EF} (hi : ∀ i ∈ is, i ∈ vs) {σ : Sl} {H : Hp} {Q : VK} (q : tOf K W E (eLc mk vs fi h c e) σ H Q) : tLc (iOf K W E fi) (gI K W is h) (bOf K W E0 c) (tOf K W E0 e) vs σ H Q := by
  obtain ⟨F, L, μ, ρ, res, hr, hs, hf, hp⟩ := q
  unfold eLc at hf
  show iOf K W E fi σ H _
  cases ea : fi ρ μ with
  | none => rw [ea] at hf; cases hf
  | some ra =>
    rw [ea] at hf
    refine ⟨F, L, μ, ρ, ra, hr, hs, ea, ?_⟩
    cases ra with
    | ex x μ1 => cases hf; exact hp
    | ok items μ1 =>
      simp only at hf
      by_cases hl : items.length ≤ cap
      · rw [if_pos hl] at hf
        intro J F1 H1 L1 e1 r1 w1 D0 hD
        cases el : lcF h c e (wipeS ρ vs) items [] μ1 with
        | none => rw [el] at hf; cases hf
        | some am =>
          obtain ⟨acc, μ2⟩ := am
          rw [el] at hf
          have nD : ¬ Al H D0 := fun z => Al.no hD (e1.dom D0 z)
          exact lc_core' w1 r1 (hs.mono e1) hi hD hl el fun F' H' L' xs e2 r2 hD2 hF2 hL2 d2 => post_newD (e1.trans e2) r2 hf hp nD hD2 hF2 hL2 d2
      · rw [if_neg hl] at hf; cases hf
theorem qts_nil : PTs X [] (bOf X.K W E bYes) := ⟨fun pins s σ H Q I h => pts_nil.run pins s σ H Q I (by
  obtain ⟨F, L, μ, ρ, r, hr, hs, hf, hp⟩ := h
  cases hf
  exact hp F H L .refl hr)⟩
theorem qts_one {c : Expr} {f : BF} (h : PT X c (bOf X.K W E f)) : PTs X [c] (bOf X.K W E f) := pts_one h
theorem q_lc {mk : Bool} {elt tg iter : Expr} {ifs : List Expr} {scope : Scope} {own : List (Str × Nat)} {pos : Pos} {fi : IF} {is : List Nat} {h : TF} {c : BF} {e : EF} (hc : X.calm = true) (hN : X.N.Nodup) (ok : BlkOk X.N X.env.scope scope own) (hi : PI X tg iter (iOf X.K W E fi))
    (hg : ∀ (s : Shared) (H : Hp) (C : Addr) (cl : List (Str × Addr)) (fp : List Addr), PG (X.blk s H scope (compEnvC scope cl C X.env) fp) tg (gI X.K W is h)) (ht : ∀ (s : Shared) (H : Hp) (C : Addr) (cl : List (Str × Addr)) (fp : List Addr), PTs (X.blk s H scope (compEnvC scope cl C X.env) fp) ifs (bOf X.K W E0 c))
    (he : ∀ (s : Shared) (H : Hp) (C : Addr) (cl : List (Str × Addr)) (fp : List Addr), PE (X.blk s H scope (compEnvC scope cl C X.env) fp) elt (tOf X.K W E0 e)) (his : ∀ i ∈ is, i ∈ own.map (·.2) := by decide) (hs : ∀ x, foldedSetIterable iter X.env x = pure x := by intro _; rfl) :
    PE X (.ListComp elt [⟨tg, iter, ifs, 0⟩] scope pos) (tOf X.K W E (eLc mk (own.map (·.2)) fi h c e)) :=
  PE.weak (pe_lc hc hN hi ok hg ht he hs) fun _ _ _ q => tLc_of his q
theorem qs_setLc {mk : Bool} {i : Nat} {y : Str} {py : Pos} {elt tg iter : Expr} {ifs : List Expr} {scope : Scope} {own : List (Str × Nat)} {pos spos : Pos} {fi : IF} {is : List Nat} {h : TF} {c : BF} {e : EF} (hc : X.calm = true) (hN : X.N.Nodup) (ok : BlkOk X.N X.env.scope scope own) (hi : PI X tg iter (iOf X.K W E fi))
    (hg : ∀ (s : Shared) (H : Hp) (C : Addr) (cl : List (Str × Addr)) (fp : List Addr), PG (X.blk s H scope (compEnvC scope cl C X.env) fp) tg (gI X.K W is h)) (ht : ∀ (s : Shared) (H : Hp) (C : Addr) (cl : List (Str × Addr)) (fp : List Addr), PTs (X.blk s H scope (compEnvC scope cl C X.env) fp) ifs (bOf X.K W E0 c))
    (he : ∀ (s : Shared) (H : Hp) (C : Addr) (cl : List (Str × Addr)) (fp : List Addr), PE (X.blk s H scope (compEnvC scope cl C X.env) fp) elt (tOf X.K W E0 e)) (hy : X.N[i]? = some y := by rfl) (hyl : X.env.scope.names.lookup y = some .local := by rfl)
    (hsw : swapsWith (.ListComp elt [⟨tg, iter, ifs, 0⟩] scope pos) (some (.Name y py)) spos.line X.env = pure true := by exact sw_true rfl rfl rfl (by decide +kernel)) (his : ∀ i ∈ is, i ∈ own.map (·.2) := by decide) (hs : ∀ x, foldedSetIterable iter X.env x = pure x := by intro _; rfl) :
    PS X (.Assign [.Name y py] (.ListComp elt [⟨tg, iter, ifs, 0⟩] scope pos) spos) (sOf X.K W E (sSet i (eLc mk (own.map (·.2)) fi h c e))) := by
  refine PS.weak (ps_setLc hc hN hy hyl hsw hi ok hg ht he hs) fun D σ H q => ?_
  obtain ⟨F, L, μ, ρ, r, hr, hs, hf, hp⟩ := q
  show tLc _ _ _ _ _ σ H _
  refine tLc_of (mk := mk) (is := is) his ?_
  have hf : bS (eLc mk (own.map (·.2)) fi h c e ρ μ) (fun s μ1 => some (.nx (ρ.set i s) μ1)) = some r := hf
  refine tS_ok hr hs hf hp fun s v μ1 F1 H1 L1 hk e1 r1 d1 n1 p1 => ?_
  cases hk
  exact p1 _ F1 H1 L1 .refl r1 ((hs.mono e1).set d1 i)
end
end DL
end

section
set_option Elab.async false
set_option linter.all false
set_option maxRecDepth 100000
set_option maxHeartbeats 4000000
/-! DLcall: contracts of defs, calls. -/
namespace DL
open PySem PySem.Spec PyProof.Rows L2

def PostG (K : PySem.W.Frag) (W : Wd) (E : XK) (F : Hp) (L : List Addr) (H : Hp) (r : ER) (Q : VK) : Prop := match r with
  | .ok (.d d) μ' => ∀ v F' H', Ext F H L F' H' L → Rep K W F' L μ' H' → Den K F' v d → Q v H'
  | .ok (.m i) μ' => ∀ v F' H' L', Ext F H L F' H' L' → Rep K W F' L' μ' H' → DenS K F' L' v (.m i) → Q v H'
  | .ok .un _ => False
  | .ex x μ' => ∀ v d F' H', Ext F H L F' H' L → Rep K W F' L μ' H' → H' d = some (.xd [(x.fld, v)]) → Den K F' v x.val → E (.ref (x.cls W)) (some d) H'
def spG (K : PySem.W.Frag) (W : Wd) (n : Nat) (g : GF) : Sp := fun vs H Q E => vs.length = n ∧ ∃ F L μ ss r, Rep K W F L μ H ∧ DenSs K F L vs ss ∧ g ss μ = some r ∧ PostG K W E F L H r Q
/-- the end of a def: its own mutable things go; what is handed back is frozen -/
def froz (n : Nat) (i : Nat) (μ : List MO) : Option ER := if n ≤ i then (match μ[i]? with
    | some (.ml ds) => some (.ok (.d (.lst ds)) (μ.take n))
    | some (.md ks) => some (.ok (.d (.dct ks)) (μ.take n))
    | none => none) else none
def fin (n : Nat) : Option SR → Option ER
  | some (.nx _ μ) => some (.ok (.d .non) (μ.take n))
  | some (.ret (.d d) μ) => some (.ok (.d d) (μ.take n))
  | some (.ret (.m i) μ) => froz n i μ
  | some (.ex x μ) => some (.ex x (μ.take n))
  | _ => none
/-- .. whose new list or dict goes out mutable -/
def finM (n : Nat) : Option SR → Option ER
  | some (.ret (.m i) μ) => if n ≤ i then (match μ[i]? with
    | some o => some (.ok (.m n) (μ.take n ++ [o]))
    | none => none) else none
  | _ => none
section
variable {K : PySem.W.Frag} {W : Wd} {E : XK} {F H F' H' : Hp} {L L' : List Addr} {μ μ' : List MO}
theorem Ext.drop (e : Ext F H L F' H' L') : Ext F H L F' H' L := ⟨e.ff, e.hh, e.dom, e.fr, ⟨[], by simp, by simp⟩⟩
theorem Rep.drop {N : List Addr} (r : Rep K W F' (L ++ N) μ' H') : Rep K W F' L (μ'.take L.length) H' where
  sub := r.sub
  ft := r.ft
  tabs := r.tabs
  nd := (List.nodup_append.mp r.nd).1
  len := by
    have := r.len
    simp at this
    simp; omega
  nf := fun a ha => r.nf a (List.mem_append_left _ ha)
  obj := fun i a o e1 e2 => by
    have hi : i < L.length := (List.getElem?_eq_some_iff.mp e1).1
    refine r.obj i a o (by rw [List.getElem?_append_left hi]; exact e1) ?_
    rw [List.getElem?_take] at e2
    by_cases hc : i < L.length
    · rw [if_pos hc] at e2; exact e2
    · exact absurd hi hc
theorem Rep.drop' (e : Ext F H L F' H' L') (r : Rep K W F' L' μ' H') : Rep K W F' L (μ'.take L.length) H' := by
  obtain ⟨N, rfl, _⟩ := e.lp
  exact r.drop
theorem fin_post {n : Nat} {rs : SR} {r : ER} {Q : VK} (hn : n = L.length) (hf : fin n (some rs) = some r) (hp : PostG K W E F L H r Q) : PostS K W E F L H rs { nx := fun _ H' => Q .non H', rt := Q } := by
  subst hn
  cases rs with
  | nx ρ μ1 =>
    cases hf
    exact fun σ' F' H' L' e r s => hp .non F' H' e.drop (r.drop' e) .non
  | bk ρ μ1 => cases hf
  | ct ρ μ1 => cases hf
  | ex x μ1 =>
    cases hf
    exact fun v d F' H' L' e r h1 h2 => hp v d F' H' e.drop (r.drop' e) h1 h2
  | ret s μ1 =>
    cases s with
    | un => cases hf
    | d d =>
      cases hf
      exact fun v F' H' L' e r s _ => hp v F' H' e.drop (r.drop' e) s
    | m i =>
      intro v F' H' L' e r s _
      show Q v H'
      obtain ⟨a, h1, rfl⟩ := s
      unfold fin froz at hf
      dsimp only at hf
      by_cases hi : L.length ≤ i
      · rw [if_pos hi] at hf
        have hai : F' a = none := r.nf a (List.mem_of_getElem? h1)
        obtain ⟨N, rfl, hN⟩ := e.lp
        have haN : a ∈ N := by
          rw [List.getElem?_append_right hi] at h1
          exact List.mem_of_getElem? h1
        have haL : a ∉ L := fun z => (List.nodup_append.mp r.nd).2.2 a z a haN rfl
        have hH : ¬ Al H a := hN a haN
        cases em : μ1[i]? with
        | none => rw [em] at hf; cases hf
        | some o =>
          have ob := r.obj i a o h1 em
          rw [em] at hf
          cases o with
          | ml ds =>
            cases hf
            obtain ⟨xs, ox, od⟩ := ob
            exact hp _ (upd F' a (.lst xs)) H' (e.drop.addF hH hai) (r.drop.addF ox hai haL lst_nt) (.lst upd_same (od.mono (le_upd hai)))
          | md ks =>
            cases hf
            exact hp _ (upd F' a (.dT (dtOf ks))) H' (e.drop.addF hH hai) (r.drop.addF ob hai haL dT_nt) (.dct upd_same)
      · rw [if_neg hi] at hf; cases hf
end

section
variable {K : PySem.W.Frag} {W : Wd} {E : XK} {F H F' H' : Hp} {L L' : List Addr} {μ μ' : List MO}
theorem finM_post {n : Nat} {rs : SR} {r : ER} {Q : VK} (hn : n = L.length) (hf : finM n (some rs) = some r) (hp : PostG K W E F L H r Q) : PostS K W E F L H rs { nx := fun _ H' => Q .non H', rt := Q } := by
  subst hn
  cases rs with
  | nx ρ μ1 => cases hf
  | bk ρ μ1 => cases hf
  | ct ρ μ1 => cases hf
  | ex x μ1 => cases hf
  | ret s μ1 =>
    cases s with
    | un => cases hf
    | d d => cases hf
    | m i =>
      intro v F' H' L' e r s _
      show Q v H'
      obtain ⟨a, h1, rfl⟩ := s
      unfold finM at hf
      dsimp only at hf
      by_cases hi : L.length ≤ i
      · rw [if_pos hi] at hf
        have hai : F' a = none := r.nf a (List.mem_of_getElem? h1)
        obtain ⟨N, rfl, hN⟩ := e.lp
        have haN : a ∈ N := by
          rw [List.getElem?_append_right hi] at h1
          exact List.mem_of_getElem? h1
        have haL : a ∉ L := fun z => (List.nodup_append.mp r.nd).2.2 a z a haN rfl
        cases em : μ1[i]? with
        | none => rw [em] at hf; cases hf
        | some o =>
          have ob := r.obj i a o h1 em
          rw [em] at hf
          cases hf
          have r2 := r.drop.addM hai haL ob
          refine hp _ F' H' (L ++ [a]) ⟨e.ff, e.hh, e.dom, e.fr, ⟨[a], rfl, fun b hb => ?_⟩⟩ r2 ⟨a, ?_, rfl⟩
          · rw [List.mem_singleton.mp hb]; exact hN a haN
          · rw [List.getElem?_append_right (Nat.le_refl _), Nat.sub_self]; rfl
      · rw [if_neg hi] at hf; cases hf
end
section
variable {P : Program} {w : World} {K : PySem.W.Frag} {mg : Str → Option Value} {base : Heap} {W : Wd}
/-- the context of a def's body -/
abbrev bodyCx (P : Program) (w : World) (K : PySem.W.Frag) (mg : Str → Option Value) (base : Heap) (N : List Str) (qual : Str) (scope : Scope) (f : Addr) (cd : Value) (A : Around) (outer : List Env) (s : Shared) (H : Hp) (E : XK) : Cx := cxOf (L2.CX P w) P w K mg base N qual scope f cd A outer s H E
/-- a def keeps the contract g: its body as a function fb -/
theorem fn_keeps {x qual : Str} {st : Stmt} {f : Addr} {fd : FuncData} {N ps : List Str} {k : Nat} {g : GF} {fb : SF} (Fn : Fun K x qual st f fd) (Sc : FnScope N ps (defScope st))
    (hbody : ∀ (cdv : Value) (A : Around) (outer : List Env) (s : Shared) (H : Hp) (E : XK), Room k (A.deeper (envOfC qual (defScope st) s.heap.objs.size f cdv)) → PSs (bodyCx P w K mg base N qual (defScope st) f cdv A outer s H E) (defBody st) (sOf K W E fb))
    (hsem : ∀ (ss : List S) (μ : List MO) (r : ER), ss.length = ps.length → g ss μ = some r → fin μ.length (fb (startS N.length ss) μ) = some r) : FnOk P w K mg base (L2.CX P w) (k + 1) f fd ps (spG K W ps.length g) := by
  refine Fn.okX Sc (fun vs H Q E h => h.1) fun cdv A outer s H vs Q E hr h => ⟨sOf K W E fb, hbody cdv A outer s H E hr, ?_⟩
  obtain ⟨hl, F, L, μ, ss, r, hr, hs, hg, hp⟩ := h
  have hse := hsem ss μ r (by rw [← hs.length]; exact hl) hg
  cases eb : fb (startS N.length ss) μ with
  | none => rw [eb] at hse; cases hse
  | some rs =>
    rw [eb] at hse
    exact ⟨F, L, μ, _, rs, hr, .start hs, eb, fin_post hr.len.symm hse hp⟩

theorem fn_keepsM {x qual : Str} {st : Stmt} {f : Addr} {fd : FuncData} {N ps : List Str} {k : Nat} {g : GF} {fb : SF} (Fn : Fun K x qual st f fd) (Sc : FnScope N ps (defScope st))
    (hbody : ∀ (cdv : Value) (A : Around) (outer : List Env) (s : Shared) (H : Hp) (E : XK), Room k (A.deeper (envOfC qual (defScope st) s.heap.objs.size f cdv)) → PSs (bodyCx P w K mg base N qual (defScope st) f cdv A outer s H E) (defBody st) (sOf K W E fb))
    (hsem : ∀ (ss : List S) (μ : List MO) (r : ER), ss.length = ps.length → g ss μ = some r → finM μ.length (fb (startS N.length ss) μ) = some r) : FnOk P w K mg base (L2.CX P w) (k + 1) f fd ps (spG K W ps.length g) := by
  refine Fn.okX Sc (fun vs H Q E h => h.1) fun cdv A outer s H vs Q E hr h => ⟨sOf K W E fb, hbody cdv A outer s H E hr, ?_⟩
  obtain ⟨hl, F, L, μ, ss, r, hr, hs, hg, hp⟩ := h
  have hse := hsem ss μ r (by rw [← hs.length]; exact hl) hg
  cases eb : fb (startS N.length ss) μ with
  | none => rw [eb] at hse; cases hse
  | some rs =>
    rw [eb] at hse
    exact ⟨F, L, μ, _, rs, hr, .start hs, eb, finM_post hr.len.symm hse hp⟩

/-- a def that stands at a name of the module and keeps a contract -/
structure Cal (P : Program) (w : World) (K : PySem.W.Frag) (mg : Str → Option Value) (base : Heap) (W : Wd) (k : Nat) (x : Str) (st : Stmt) (ps : List Str) (g : GF) : Prop where
  ex : ∃ f fd, mg x = some (.ref f) ∧ Fun K x x st f fd ∧ FnOk P w K mg base (L2.CX P w) k f fd ps (spG K W ps.length g)
end

/-- a call's end: data, or an error -/
def onlyD : Option ER → Option ER
  | some (.ok (.d d) μ) => some (.ok (.d d) μ)
  | some (.ok (.m i) μ) => some (.ok (.m i) μ)
  | some (.ex x μ) => some (.ex x μ)
  | _ => none
def eCall (n : Nat) (g : GF) (fa : AF) : EF := fun ρ μ => bAE (fa ρ μ) fun ss μ1 => if ss.length = n then onlyD (g ss μ1) else none
section
variable {X : Cx} {W : Wd} {E : XK} {k : Nat} {x : Str} {st : Stmt} {ps : List Str} {g : GF}
theorem spG_of {K : PySem.W.Frag} {F H : Hp} {L : List Addr} {μ : List MO} {vs : List V} {ss : List S} {res : ER} {Q : VK} {n : Nat} (hr : Rep K W F L μ H) (hd : DenSs K F L vs ss) (hl : ss.length = n) (hk : onlyD (g ss μ) = some res) (hp : PostE K W E F L H res Q) : spG K W n g vs H Q E := by
  refine ⟨by rw [hd.length]; exact hl, F, L, μ, ss, res, hr, hd, ?_, ?_⟩
  · cases eg : g ss μ with
    | none => rw [eg] at hk; cases hk
    | some r =>
      rw [eg] at hk
      cases r with
      | ok s μ' => cases s <;> first | (cases hk; rfl) | cases hk
      | ex x μ' => cases hk; rfl
  · cases eg : g ss μ with
    | none => rw [eg] at hk; cases hk
    | some r =>
      rw [eg] at hk
      cases r with
      | ok s μ' =>
        cases s with
        | d d => cases hk; exact fun v F' H' e r h => hp v F' H' L e r h (by simp)
        | un => cases hk
        | m i => cases hk; exact fun v F' H' L' e r h => hp v F' H' L' e r h (by simp)
      | ex x μ' => cases hk; exact fun v d F' H' e r h1 h2 => hp v d F' H' L e r h1 h2
theorem q_call {e : Expr} {es : List Expr} {fa : AF} {p pos : Pos} (C : Cal X.prog X.w X.K X.mg X.base W k x st ps g) (hr : Room k X.A) (hx : Passes (L2.CX X.prog X.w) X E) (ha : PA X (e :: es) (aOf X.K W E fa))
    (hb : ∀ (kV doc pm : Value) (an : Option Addr) (cdv ct : Value) (us : List Value), us.length = ps.length → bindArgs (PySem.W.fnOf x x (defArgs st) (defBody st) (defScope st) .none kV doc pm an cdv ct) ⟨us, []⟩ = pure (ps.zip us))
    (hg : Gl X x := by rfl) (hdb : (x == ("__debug__" : Str)) = false := by decide) (he : starEach (e :: es) X.env = (false, eval e X.env) :: starEach es X.env := by rfl) (hpl : (backTo pos (starEach es X.env)).any (·.1) = false := by rfl) :
    PE X (.Call (.Name x p) (e :: es) [] pos) (tOf X.K W E (eCall ps.length g fa)) := by
  obtain ⟨f, fd, hm, hF, hok⟩ := C.ex
  refine PE.weak (pe_call hok hr hg hm hF.kp (hF.binds hb) .nil hx ha hdb he hpl) fun σ H Q h => ?_
  obtain ⟨F, L, μ, ρ, res, hr, hs, hf, hp⟩ := h
  refine aOf_ok hr hs hf hp fun ss vs μ1 F1 H1 L1 hk e1 r1 d1 p1 => ?_
  show spG X.K W ps.length g (vs ++ []) H1 Q E
  rw [List.append_nil]
  by_cases hl : ss.length = ps.length
  · rw [if_pos hl] at hk
    exact spG_of r1 d1 hl hk p1
  · rw [if_neg hl] at hk; cases hk
/-- a call by keywords: all arguments by name; perm puts them in the parameters' order -/
def eCallK (n : Nat) (g : GF) (perm : List S → List S → List S) (fa fk : AF) : EF := fun ρ μ => bAE (fa ρ μ) fun ss μ1 => bAE (fk ρ μ1) fun zs μ2 => if (perm ss zs).length = n then onlyD (g (perm ss zs) μ2) else none
theorem q_callK {e : Expr} {es : List Expr} {kws : List Keyword} {ks : List Str} {fa fk : AF} {p pos : Pos} {perm : {α : Type} → List α → List α → List α} (C : Cal X.prog X.w X.K X.mg X.base W k x st ps g) (hr : Room k X.A) (hx : Passes (L2.CX X.prog X.w) X E) (ha : PA X (e :: es) (aOf X.K W E fa)) (hkw : PK X kws (aOf X.K W E fk))
    (hb : ∀ (kV doc pm : Value) (an : Option Addr) (cdv ct : Value) (us ws : List Value), (perm us ws).length = ps.length → bindArgs (PySem.W.fnOf x x (defArgs st) (defBody st) (defScope st) .none kV doc pm an cdv ct) ⟨us, ks.zip ws⟩ = pure (ps.zip (perm us ws)))
    (hrel : ∀ {vs : List V} {us : List Value} {zs : List V} {ws : List Value}, Vals vs us → Vals zs ws → Vals (perm vs zs) (perm us ws))
    (hden : ∀ {F : Hp} {L : List Addr} {vs zs : List V} {ss us : List S}, DenSs X.K F L vs ss → DenSs X.K F L zs us → DenSs X.K F L (perm vs zs) (perm ss us))
    (hg : Gl X x := by rfl) (hall : (backToKw pos (keywordEach kws X.env)).all (·.1.isSome) = true := by rfl) (hks : (backToKw pos (keywordEach kws X.env)).filterMap (·.1) = ks := by rfl)
    (hdb : (x == ("__debug__" : Str)) = false := by decide) (he : starEach (e :: es) X.env = (false, eval e X.env) :: starEach es X.env := by rfl)
    (hpl : ((backTo pos (starEach (e :: es) X.env)).any (·.1) || (backToKw pos (keywordEach kws X.env)).any (·.1.isNone)) = false := by rfl) :
    PE X (.Call (.Name x p) (e :: es) kws pos) (tOf X.K W E (eCallK ps.length g perm fa fk)) := by
  obtain ⟨f, fd, hm, hF, hok⟩ := C.ex
  have kb : KBinds X.K fd ps ks perm perm := by
    obtain ⟨oc, od, kV, doc, pm, an, cdv, ct, osl, rfl, lk, hcd⟩ := hF.ex
    exact ⟨fun s us ws _ hl => .of_eq (hb kV doc pm an cdv ct us ws hl), hrel⟩
  refine PE.weak (pe_callK hok hr hg hm hF.kp kb hx ha hkw hall hks hdb he hpl) fun σ H Q h => ?_
  obtain ⟨F, L, μ, ρ, res, hr, hs, hf, hp⟩ := h
  refine aOf_ok hr hs hf hp fun ss vs μ1 F1 H1 L1 hk e1 r1 d1 p1 => ?_
  refine aOf_ok r1 (hs.mono e1) hk p1 fun us zs μ2 F2 H2 L2' hk2 e2 r2 d2 p2 => ?_
  show spG X.K W ps.length g (perm vs zs) H2 Q E
  by_cases hl : (perm ss us).length = ps.length
  · rw [if_pos hl] at hk2
    exact spG_of r2 (hden (d1.mono e2) d2) hl hk2 p2
  · rw [if_neg hl] at hk2; cases hk2
end
end DL
end

section
set_option Elab.async false
set_option linter.all false
set_option maxRecDepth 100000
set_option maxHeartbeats 4000000
/-! DLops: operators and built-ins on data. -/
namespace DL
open PySem PySem.Spec PyProof.Rows L2

/-! ### views -/
def viewL (μ : List MO) : S → Option (List D)
  | .d (.lst ds) => some ds
  | .d (.scr ns) => some (ns.map .int)
  | .m i => (match μ[i]? with | some (.ml ds) => some ds | _ => none)
  | _ => none
def viewX (μ : List MO) : S → Option (List D)
  | .d (.lst ds) => some ds
  | .m i => (match μ[i]? with | some (.ml ds) => some ds | _ => none)
  | _ => none
def viewT : S → Option (List D)
  | .d (.tup ds) => some ds
  | _ => none
section
variable {K : PySem.W.Frag} {W : Wd} {E : XK} {F H : Hp} {L : List Addr} {μ : List MO} {s : S} {v : V} {ds : List D}
theorem viewX_ok (hr : Rep K W F L μ H) (hd : DenS K F L v s) (h : viewX μ s = some ds) : ∃ a xs, v = .ref a ∧ H a = some (.lst xs) ∧ DenL K F xs ds := by
  unfold viewX at h
  split at h
  · cases h
    cases hd with
    | lst h1 h2 => exact ⟨_, _, rfl, hr.sub _ _ h1, h2⟩
  · rename_i i
    obtain ⟨a, h1, rfl⟩ := hd
    split at h
    · rename_i e
      cases h
      obtain ⟨xs, q1, q2⟩ := hr.obj i a _ h1 e
      exact ⟨a, xs, rfl, q1, q2⟩
    · cases h
  · cases h
theorem viewL_ok (hr : Rep K W F L μ H) (hd : DenS K F L v s) (h : viewL μ s = some ds) : ∃ a xs, v = .ref a ∧ SqL K H a xs ∧ DenL K F xs ds := by
  unfold viewL at h
  split at h
  · cases h
    cases hd with
    | lst h1 h2 => exact ⟨_, _, rfl, SqL.of (hr.sub _ _ h1), h2⟩
  · cases h
    cases hd with
    | scr h1 => exact ⟨_, _, rfl, Le.seqL hr.sub h1, DenL.of_ints _⟩
  · rename_i i
    obtain ⟨a, h1, rfl⟩ := hd
    split at h
    · rename_i e
      cases h
      obtain ⟨xs, q1, q2⟩ := hr.obj i a _ h1 e
      exact ⟨a, xs, rfl, SqL.of q1, q2⟩
    · cases h
  · cases h
theorem viewT_ok (hr : Rep K W F L μ H) (hd : DenS K F L v s) (h : viewT s = some ds) : ∃ a xs, v = .ref a ∧ SqT K F a xs ∧ SqT K H a xs ∧ DenL K F xs ds := by
  unfold viewT at h
  split at h
  · cases h
    cases hd with
    | tup h1 h2 => exact ⟨_, _, rfl, h1, Le.seqT hr.sub h1, h2⟩
  · cases h
theorem post_d {d : D} {Q : VK} (hr : Rep K W F L μ H) (hp : PostE K W E F L H (.ok (.d d) μ) Q) (h : Den K F v d) : Q v H := hp v F H L .refl hr h (by simp)
end

/-! ### a tuple times one is the tuple -/
theorem tuple_times1 (l : Addr) (items : Array Value) (n : Nat) (dd : Option Addr) (sl : Array (Option Value)) (u : Tok) :
    Meets (Builtin.«tuple.__mul__» ⟨[.ref l, .int 1 u], []⟩) (fun _ R s => s.heap.get? l = some { cls := .type "tuple", dict := dd, data := .seq items n, slots := sl } ∧ R (.ok (.ret (Value.ref l))) s) :=
  .of_wp fun prog w A R s h => by
    obtain ⟨hp, g, d, tk, os⟩ := s
    obtain ⟨hl, h⟩ := h
    have f1 := AutoSeq1.idx_int
    wp_walk using wpAny_loadPart' hl
    all_goals first | exact ⟨_, rfl, h⟩ | skip
    repeat (first
      | (refine wpAny_ite_false (by decide) ?_; wp_walk using wpAny_loadPart' hl)
      | (refine wpAny_ite_true (by simp) ?_; wp_walk using wpAny_loadPart' hl))
    all_goals exact ⟨_, rfl, h⟩
def rRepT1 (K : PySem.W.Frag) : R2 := fun x y H Q => ∃ l xs, x = .ref l ∧ y = .int 1 ∧ SqT K H l xs ∧ xs ≠ [] ∧ Q (.ref l) H
theorem op_times1 {X : Cx} : OpR X (binaryOp .Mult) (rRepT1 X.K) := by
  intro pins s σ H x y v u Q I rx ry h
  obtain ⟨l, xs, rfl, rfl, hT, hne, q⟩ := h
  cases rx
  obtain ⟨t, rfl⟩ := ry
  obtain ⟨its, r, ⟨⟨cls, dd, data, sl⟩, ho, hc, n, hd⟩, hs⟩ := I.tuple hT
  simp only at hc hd
  subst hc hd
  exact wpAny_binaryOp_repeat_ref (T := "tuple") (U := "int") (by decide) ⟨_, ho, rfl⟩ (fun s' => typeIs_int s' 1 t) noFill_tuple_mul F.fills_int_mul F.slot_int_rmul repeat_tuple F.slot_int_index.lookup
    (call_meets F.slot_int_rmul (typeIs_int s 1 t) F.entry_int_rmul (F.args_int_rmul_2 _ _) (int_rmul_tuple 1 t l its.toArray n dd sl)
      ⟨ho, rfl, ⟨_, ho, rfl⟩, call_meets F.slot_tuple_mul ⟨_, ho, rfl⟩ F.entry_tuple_mul (F.args_tuple_mul_2 _ _) (tuple_times1 l its.toArray n dd sl t) ⟨ho, .ref l, H, I, rfl, q⟩⟩)
theorem op_mulAll {X : Cx} : OpR X (binaryOp .Mult) (fun x y H Q => (rI CMul fun i j => .int (i * j)) x y H Q ∨ rRepT X.K x y H Q ∨ rRepT1 X.K x y H Q ∨ rRep x y H Q) := OpR.or op_mul (OpR.or op_repT (OpR.or op_times1 op_rep))

/-! ### comparison of data -/
mutual
def D.py : D → PyData
  | .non => .none | .bl b => .bool b | .int i => .int i | .str s => .str s
  | .tup ds => .tuple (D.pys ds) | .lst ds => .list (D.pys ds) | .dct _ => .none | .scr _ => .none
def D.pys : List D → List PyData
  | [] => []
  | d :: r => d.py :: D.pys r
end
mutual
/-- depth at most n, texts of real signs, no dict -/
def okD : Nat → D → Bool
  | _, .non => true | _, .bl _ => true | _, .int _ => true
  | _, .str s => PyData.strOk s
  | 0, .tup _ => false | 0, .lst _ => false
  | n + 1, .tup ds => okDs n ds | n + 1, .lst ds => okDs n ds
  | _, .dct _ => false | _, .scr _ => false
def okDs : Nat → List D → Bool
  | _, [] => true
  | n, d :: r => okD n d && okDs n r
end
mutual
theorem okD_lay : ∀ (n : Nat) (d : D), okD n d = true → d.py.canLay0 = true ∧ d.py.depth ≤ n + 1
  | n, .non, _ => ⟨rfl, by simp [D.py, PyData.depth]⟩
  | n, .bl b, _ => ⟨rfl, by simp [D.py, PyData.depth]⟩
  | n, .int i, _ => ⟨rfl, by simp [D.py, PyData.depth]⟩
  | n, .str s, h => ⟨by simpa [D.py, PyData.canLay0, okD] using h, by simp [D.py, PyData.depth]⟩
  | 0, .tup ds, h => by simp [okD] at h
  | 0, .lst ds, h => by simp [okD] at h
  | n + 1, .tup ds, h => by
    obtain ⟨h1, h2⟩ := okDs_lay n ds (by simpa [okD] using h)
    exact ⟨by simpa [D.py, PyData.canLay0] using h1, by simp [D.py, PyData.depth]; omega⟩
  | n + 1, .lst ds, h => by
    obtain ⟨h1, h2⟩ := okDs_lay n ds (by simpa [okD] using h)
    exact ⟨by simpa [D.py, PyData.canLay0] using h1, by simp [D.py, PyData.depth]; omega⟩
  | n, .dct ks, h => by cases n <;> simp [okD] at h
  | n, .scr ks, h => by cases n <;> simp [okD] at h
theorem okDs_lay : ∀ (n : Nat) (ds : List D), okDs n ds = true → PyData.canLayAll0 (D.pys ds) = true ∧ PyData.depthAll (D.pys ds) ≤ n + 1
  | n, [], _ => ⟨rfl, by simp [D.pys, PyData.depthAll]⟩
  | n, d :: r, h => by
    have h : okD n d = true ∧ okDs n r = true := by simpa [okDs] using h
    obtain ⟨a1, a2⟩ := okD_lay n d h.1
    obtain ⟨b1, b2⟩ := okDs_lay n r h.2
    exact ⟨by simp [D.pys, PyData.canLayAll0, a1, b1], by simp [D.pys, PyData.depthAll]; omega⟩
end
theorem okD_shaped {n : Nat} {d : D} (h : okD n d = true) (hn : n ≤ 60) : SeqAt.shaped d.py = true := by
  obtain ⟨h1, h2⟩ := okD_lay n d h
  unfold SeqAt.shaped
  rw [h1, decide_eq_true (by omega)]; rfl
mutual
theorem Den.dp {K : PySem.W.Frag} {F H : Hp} (e : Le F H) : ∀ {n : Nat} {v : V} {d : D}, Den K F v d → okD n d = true → Dp K H v d.py
  | _, _, _, .non, _ => .non
  | _, _, _, .bl b, _ => .bl b
  | _, _, _, .int i, _ => .int i
  | _, _, _, .str s, _ => .str s
  | 0, _, _, .tup _ _, h => by simp [okD] at h
  | 0, _, _, .lst _ _, h => by simp [okD] at h
  | n + 1, _, _, .tup h1 h2, h => .tup (e.seqT h1) (DenL.dp e h2 (n := n) (by simpa [okD] using h))
  | n + 1, _, _, .lst h1 h2, h => .lst (SqL.of (e _ _ h1)) (DenL.dp e h2 (n := n) (by simpa [okD] using h))
  | n, _, _, .dct _, h => by cases n <;> simp [okD] at h
  | n, _, _, .scr _, h => by cases n <;> simp [okD] at h
theorem DenL.dp {K : PySem.W.Frag} {F H : Hp} (e : Le F H) : ∀ {n : Nat} {vs : List V} {ds : List D}, DenL K F vs ds → okDs n ds = true → DpAll K H vs (D.pys ds)
  | _, _, _, .nil, _ => .nil
  | n, _, _, .cons h1 h2, h => by
    rename_i v vs d ds
    have h : okD n d = true ∧ okDs n ds = true := by simpa [okDs] using h
    exact .cons (Den.dp e h1 h.1) (DenL.dp e h2 h.2)
end
mutual
def eqvD : D → D → Bool
  | .non, .non => true
  | .bl a, .bl b => a == b
  | .bl a, .int j => (if a then 1 else 0) == j
  | .int i, .bl b => i == (if b then 1 else 0)
  | .int i, .int j => i == j
  | .str x, .str y => x == y
  | .lst xs, .lst ys => eqvDs xs ys
  | .tup xs, .tup ys => eqvDs xs ys
  | _, _ => false
def eqvDs : List D → List D → Bool
  | [], [] => true
  | x :: xs, y :: ys => eqvD x y && eqvDs xs ys
  | _, _ => false
end
mutual
theorem eqvD_py : ∀ {n m : Nat} (d e : D), okD n d = true → okD m e = true → PyData.eqv d.py e.py = eqvD d e
  | n, m, d, .dct _, _, h => by cases m <;> simp [okD] at h
  | n, m, d, .scr _, _, h => by cases m <;> simp [okD] at h
  | n, m, .dct _, e, h, _ => by cases n <;> simp [okD] at h
  | n, m, .scr _, e, h, _ => by cases n <;> simp [okD] at h
  | n, m, .non, e, _, he => by cases e <;> first | (cases m <;> simp [okD] at he; done) | simp [D.py, PyData.eqv, eqvD]
  | n, m, .bl b, e, _, he => by cases e <;> first | (cases m <;> simp [okD] at he; done) | simp [D.py, PyData.eqv, eqvD]
  | n, m, .int b, e, _, he => by cases e <;> first | (cases m <;> simp [okD] at he; done) | simp [D.py, PyData.eqv, eqvD]
  | n, m, .str b, e, _, he => by cases e <;> first | (cases m <;> simp [okD] at he; done) | simp [D.py, PyData.eqv, eqvD]
  | 0, m, .tup xs, e, h, _ => by simp [okD] at h
  | 0, m, .lst xs, e, h, _ => by simp [okD] at h
  | n + 1, m, .tup xs, e, h, he => by
    cases e with
    | tup ys =>
      cases m with
      | zero => simp [okD] at he
      | succ m =>
        have := eqvDs_py (n := n) (m := m) xs ys (by simpa [okD] using h) (by simpa [okD] using he)
        simp only [D.py, PyData.eqv, eqvD]; exact this
    | _ => simp [D.py, PyData.eqv, eqvD] <;> (cases m <;> simp [okD] at he)
  | n + 1, m, .lst xs, e, h, he => by
    cases e with
    | lst ys =>
      cases m with
      | zero => simp [okD] at he
      | succ m =>
        have := eqvDs_py (n := n) (m := m) xs ys (by simpa [okD] using h) (by simpa [okD] using he)
        simp only [D.py, PyData.eqv, eqvD]; exact this
    | _ => simp [D.py, PyData.eqv, eqvD] <;> (cases m <;> simp [okD] at he)
theorem eqvDs_py : ∀ {n m : Nat} (ds es : List D), okDs n ds = true → okDs m es = true → PyData.eqvAll (D.pys ds) (D.pys es) = eqvDs ds es
  | _, _, [], [], _, _ => by simp [D.pys, PyData.eqvAll, eqvDs]
  | _, _, [], _ :: _, _, _ => by simp [D.pys, PyData.eqvAll, eqvDs]
  | _, _, _ :: _, [], _, _ => by simp [D.pys, PyData.eqvAll, eqvDs]
  | n, m, d :: ds, e :: es, h, he => by
    have h : okD n d = true ∧ okDs n ds = true := by simpa [okDs] using h
    have he : okD m e = true ∧ okDs m es = true := by simpa [okDs] using he
    simp only [D.pys, PyData.eqvAll, eqvDs]
    rw [eqvD_py d e h.1 he.1, eqvDs_py ds es h.2 he.2]
end
/-- lists made in a def are data too -/
def toD (μ : List MO) : S → Option D
  | .d x => some x
  | _ => none
def gEq : G2 := fun s u μ => match toD μ s, toD μ u with
  | some x, some y => if okD 20 x = true ∧ okD 20 y = true then some (.ok (.d (.bl (eqvD x y))) μ) else none
  | _, _ => none
def gNe : G2 := fun s u μ => match toD μ s, toD μ u with
  | some x, some y => if okD 20 x = true ∧ okD 20 y = true then some (.ok (.d (.bl (!eqvD x y))) μ) else none
  | _, _ => none
section
variable {K : PySem.W.Frag} {W : Wd} {E : XK}
theorem o2_eq : Op2 K W E (rEqD K) gEq := fun F L μ H x y s u res Q hr h1 h2 hg hp => by
  unfold gEq toD at hg
  cases s with
  | un => cases hg
  | m _ => cases hg
  | d a =>
    cases u with
    | un => cases hg
    | m _ => cases hg
    | d b =>
      simp only at hg
      by_cases hc : okD 20 a = true ∧ okD 20 b = true
      · rw [if_pos hc] at hg; cases hg
        refine ⟨a.py, b.py, Den.dp hr.sub h1 hc.1, Den.dp hr.sub h2 hc.2, okD_shaped hc.1 (by decide), okD_shaped hc.2 (by decide), ?_⟩
        rw [eqvD_py a b hc.1 hc.2]
        exact post_d hr hp (.bl _)
      · rw [if_neg hc] at hg; cases hg
theorem o2_ne : Op2 K W E (rNeD K) gNe := fun F L μ H x y s u res Q hr h1 h2 hg hp => by
  unfold gNe toD at hg
  cases s with
  | un => cases hg
  | m _ => cases hg
  | d a =>
    cases u with
    | un => cases hg
    | m _ => cases hg
    | d b =>
      simp only at hg
      by_cases hc : okD 20 a = true ∧ okD 20 b = true
      · rw [if_pos hc] at hg; cases hg
        refine ⟨a.py, b.py, Den.dp hr.sub h1 hc.1, Den.dp hr.sub h2 hc.2, okD_shaped hc.1 (by decide), okD_shaped hc.2 (by decide), ?_⟩
        rw [eqvD_py a b hc.1 hc.2]
        exact post_d hr hp (.bl _)
      · rw [if_neg hc] at hg; cases hg

/-! ### ints -/
def gI2 (f : Int → Int → D) (C : Int → Int → Bool) : G2 := fun s u μ => match s, u with
  | .d (.int i), .d (.int j) => if C i j = true then some (.ok (.d (f i j)) μ) else none
  | _, _ => none
theorem o2_int {g : Int → Int → V} {f : Int → Int → D} {C' : Int → Int → Prop} {C : Int → Int → Bool} (hC : ∀ i j, C i j = true → C' i j) (hd : ∀ F i j, Den K F (g i j) (f i j)) : Op2 K W E (rI C' g) (gI2 f C) := fun F L μ H x y s u res Q hr h1 h2 hg hp => by
  unfold gI2 at hg
  split at hg
  · rename_i i j
    by_cases hc : C i j = true
    · rw [if_pos hc] at hg; cases hg
      cases h1; cases h2
      exact ⟨i, j, rfl, rfl, hC i j hc, post_d hr hp (hd F i j)⟩
    · rw [if_neg hc] at hg; cases hg
  · cases hg
def gI20 (f : Int → Int → D) : G2 := fun s u μ => match s, u with
  | .d (.int i), .d (.int j) => some (.ok (.d (f i j)) μ)
  | _, _ => none
theorem o2_int0 {g : Int → Int → V} {f : Int → Int → D} (hd : ∀ F i j, Den K F (g i j) (f i j)) : Op2 K W E (rI0 g) (gI20 f) := fun F L μ H x y s u res Q hr h1 h2 hg hp => by
  unfold gI20 at hg
  split at hg
  · rename_i i j
    cases hg
    cases h1; cases h2
    exact ⟨i, j, rfl, rfl, post_d hr hp (hd F i j)⟩
  · cases hg
def gLt : G2 := gI20 fun i j => .bl (decide (i < j))
def gLe : G2 := gI20 fun i j => .bl (decide (i ≤ j))
def gGt : G2 := gI20 fun i j => .bl (decide (j < i))
def gGe : G2 := gI20 fun i j => .bl (decide (j ≤ i))
def gSub : G2 := gI20 fun i j => .int (i - j)
def small64B (i : Int) : Bool := decide (-(2 ^ 64) < i) && decide (i < 2 ^ 64)
def gFdiv : G2 := gI2 (fun i j => .int (i / j)) fun i j => decide (0 < j) && decide (j < 1073741824)
def gMod : G2 := gI2 (fun i j => .int (i % j)) fun i j => decide (0 < j)
def gPow : G2 := gI2 (fun i j => .int (i ^ j.toNat)) fun i j => decide (0 ≤ j) && decide (j ≤ 100) && decide (i.natAbs < 1000)
theorem o2_lt : Op2 K W E (rI0 fun i j => .bl (decide (i < j))) gLt := o2_int0 fun _ _ _ => .bl _
theorem o2_le : Op2 K W E (rI0 fun i j => .bl (decide (i ≤ j))) gLe := o2_int0 fun _ _ _ => .bl _
theorem o2_gt : Op2 K W E (rI0 fun i j => .bl (decide (j < i))) gGt := o2_int0 fun _ _ _ => .bl _
theorem o2_ge : Op2 K W E (rI0 fun i j => .bl (decide (j ≤ i))) gGe := o2_int0 fun _ _ _ => .bl _
theorem o2_sub : Op2 K W E (rI0 fun i j => .int (i - j)) gSub := o2_int0 fun _ _ _ => .int _
theorem o2_fdiv : Op2 K W E (rI CDiv fun i j => .int (i / j)) gFdiv := o2_int (fun i j h => by
  have h : 0 < j ∧ j < 1073741824 := by simpa using h
  exact h) fun _ _ _ => .int _
theorem o2_mod : Op2 K W E (rI (fun _ j => 0 < j) fun i j => .int (i % j)) gMod := o2_int (fun i j h => by simpa using h) fun _ _ _ => .int _
theorem o2_pow : Op2 K W E (rI CPow fun i j => .int (i ^ j.toNat)) gPow := o2_int (fun i j h => by
  have h : (0 ≤ j ∧ j ≤ 100) ∧ i.natAbs < 1000 := by simpa using h
  exact ⟨h.1.1, by omega, by have := h.2; omega⟩) fun _ _ _ => .int _

/-! ### +, * of anything -/
def small24 : Nat := 200000
theorem small24_line {n : Nat} (h : n ≤ small24) : n ≤ sizeLine := Nat.le_trans h (by decide)
def gAdd (mk : Bool) : G2 := fun s u μ => match s, u with
  | .d (.int i), .d (.int j) => some (.ok (.d (.int (i + j))) μ)
  | .d (.str a), .d (.str b) => if a.length + b.length ≤ small24 then some (.ok (.d (.str (a ++ b))) μ) else none
  | s, u => match viewT s, viewT u with
    | some xs, some ys => if xs.length + ys.length ≤ small24 then some (.ok (.d (.tup (xs ++ ys))) μ) else none
    | _, _ => match viewX μ s, viewX μ u with
      | some xs, some ys => if xs.length + ys.length ≤ small24 then newL mk (xs ++ ys) μ else none
      | _, _ => none
def rAddAll (K : PySem.W.Frag) : R2 := fun x y H Q =>
  (rI0 fun i j => .int (i + j)) x y H Q ∨ (∃ i j, x = .str i ∧ y = .str j ∧ i.length + j.length ≤ sizeLine ∧ Q (.str (i ++ j)) H) ∨ rCatA K x y H Q ∨ rCat x y H Q
theorem op_addAll {X : Cx} : OpR X (binaryOp .Add) (rAddAll X.K) := OpR.or op_add (OpR.or op_add_str (OpR.or op_catA op_cat))
theorem o2_add {mk : Bool} : Op2 K W E (rAddAll K) (gAdd mk) := fun F L μ H x y s u res Q hr h1 h2 hg hp => by
  unfold gAdd at hg
  split at hg
  · cases hg; cases h1; cases h2
    exact .inl ⟨_, _, rfl, rfl, post_d hr hp (.int _)⟩
  · rename_i a b
    by_cases hl : a.length + b.length ≤ small24
    · rw [if_pos hl] at hg; cases hg; cases h1; cases h2
      exact .inr (.inl ⟨_, _, rfl, rfl, small24_line hl, post_d hr hp (.str _)⟩)
    · rw [if_neg hl] at hg; cases hg
  · split at hg
    · rename_i xs ys e1 e2
      by_cases hl : xs.length + ys.length ≤ small24
      · rw [if_pos hl] at hg; cases hg
        obtain ⟨a, as, rfl, fa, ha, da⟩ := viewT_ok hr h1 e1
        obtain ⟨b, bs, rfl, fb, hb, db⟩ := viewT_ok hr h2 e2
        refine .inr (.inr (.inl ⟨a, b, as, bs, rfl, rfl, ha, hb, small24_line (by rw [da.length, db.length]; exact hl), fun ea => ?_, fun _ eb => ?_, fun _ _ p np => ?_⟩))
        · subst ea
          cases da
          exact post_d hr hp (.tup fb (by simpa using db))
        · subst eb
          cases db
          exact post_d hr hp (.tup fa (by simpa using da))
        · exact post_newT hr hp np (da.append db)
      · rw [if_neg hl] at hg; cases hg
    · split at hg
      · rename_i xs ys e1 e2
        by_cases hl : xs.length + ys.length ≤ small24
        · rw [if_pos hl] at hg
          obtain ⟨a, as, rfl, ha, da⟩ := viewX_ok hr h1 e1
          obtain ⟨b, bs, rfl, hb, db⟩ := viewX_ok hr h2 e2
          exact .inr (.inr (.inr ⟨a, b, as, bs, rfl, rfl, ha, hb, small24_line (by rw [da.length, db.length]; exact hl), fun p np => post_newL hr hg hp np (da.append db)⟩))
        · rw [if_neg hl] at hg; cases hg
      · cases hg
def gMul (mk : Bool) : G2 := fun s u μ => match s, u with
  | .d (.int i), .d (.int j) => if small64B i || small64B j then some (.ok (.d (.int (i * j))) μ) else none
  | s, .d (.int k) => match viewT s with
    | some xs => if xs ≠ [] ∧ 2 ≤ k ∧ k ≤ 1000 ∧ xs.length ≤ 1000 then some (.ok (.d (.tup (List.replicate k.toNat xs).flatten)) μ) else if xs ≠ [] ∧ k = 1 then some (.ok (.d (.tup xs)) μ) else none
    | none => match viewX μ s with
      | some xs => if 0 ≤ k ∧ k ≤ 1000 ∧ xs.length ≤ 200 then newL mk (List.replicate k.toNat xs).flatten μ else none
      | none => none
  | _, _ => none
theorem o2_mulI {mk : Bool} : Op2 K W E (fun x y H Q => (rI CMul fun i j => .int (i * j)) x y H Q ∨ rRepT K x y H Q ∨ rRepT1 K x y H Q ∨ rRep x y H Q) (gMul mk) := fun F L μ H x y s u res Q hr h1 h2 hg hp => by
  unfold gMul at hg
  split at hg
  · rename_i i j
    by_cases hc : (small64B i || small64B j) = true
    · rw [if_pos hc] at hg; cases hg; cases h1; cases h2
      refine .inl ⟨i, j, rfl, rfl, ?_, post_d hr hp (.int _)⟩
      unfold small64B at hc
      simp only [Bool.or_eq_true, Bool.and_eq_true, decide_eq_true_eq] at hc
      exact hc
    · rw [if_neg hc] at hg; cases hg
  · rename_i k hns
    cases h2
    split at hg
    · rename_i xs e1
      obtain ⟨a, as, rfl, fa, ha, da⟩ := viewT_ok hr h1 e1
      have hl := da.length
      have hne : xs ≠ [] → as ≠ [] := fun hx z => hx (by rw [z] at hl; exact List.eq_nil_of_length_eq_zero hl.symm)
      by_cases hc : xs ≠ [] ∧ 2 ≤ k ∧ k ≤ 1000 ∧ xs.length ≤ 1000
      · rw [if_pos hc] at hg; cases hg
        exact .inr (.inl ⟨a, k, as, rfl, rfl, ha, hne hc.1, hc.2.1, hc.2.2.1, by omega, fun p np => post_newT hr hp np (da.rep _)⟩)
      · rw [if_neg hc] at hg
        by_cases hc1 : xs ≠ [] ∧ k = 1
        · rw [if_pos hc1] at hg; cases hg
          obtain ⟨hx, rfl⟩ := hc1
          exact .inr (.inr (.inl ⟨a, as, rfl, rfl, ha, hne hx, post_d hr hp (.tup fa da)⟩))
        · rw [if_neg hc1] at hg; cases hg
    · split at hg
      · rename_i xs e1
        by_cases hc : 0 ≤ k ∧ k ≤ 1000 ∧ xs.length ≤ 200
        · rw [if_pos hc] at hg
          obtain ⟨a, as, rfl, ha, da⟩ := viewX_ok hr h1 e1
          have hl := da.length
          refine .inr (.inr (.inr ⟨a, k, as, rfl, rfl, ha, by omega, by omega, ?_, fun p np => post_newL hr hg hp np (da.rep _)⟩))
          have : as.length * k.toNat ≤ 200 * 1000 := Nat.mul_le_mul (by omega) (by omega)
          exact small24_line this
        · rw [if_neg hc] at hg; cases hg
      · cases hg
  · cases hg
end
end DL
end

section
set_option Elab.async false
set_option linter.all false
set_option maxRecDepth 100000
set_option maxHeartbeats 4000000
/-! DLops2: membership, subscripts, slices, calls of built-ins, walks. -/
namespace DL
open PySem PySem.Spec PyProof.Rows L2

section
variable {K : PySem.W.Frag} {W : Wd} {E : XK}
/-! ### None, booleans -/
def gIsN : G2 := fun s u μ => match s, u with
  | .d .non, .d .non => some (.ok (.d (.bl true)) μ)
  | .d _, .d .non => some (.ok (.d (.bl false)) μ)
  | _, _ => none
def gNotN : G2 := fun s u μ => match s, u with
  | .d .non, .d .non => some (.ok (.d (.bl false)) μ)
  | .d _, .d .non => some (.ok (.d (.bl true)) μ)
  | _, _ => none
theorem Den.non_iff {F : Hp} {v : V} {d : D} (h : Den K F v d) : v = .non ↔ d = .non := by
  cases h <;> simp
theorem o2_isN : Op2 K W E (fun x y H Q => y = .non ∧ Q (.bl (decide (x = .non))) H) gIsN := fun F L μ H x y s u res Q hr h1 h2 hg hp => by
  unfold gIsN at hg
  split at hg
  · cases hg; cases h1; cases h2
    exact ⟨rfl, post_d hr hp (.bl true)⟩
  · rename_i d hn
    cases hg; cases h2
    have hn' : d ≠ .non := fun z => by subst z; exact hn rfl
    have : x ≠ .non := fun z => hn' ((Den.non_iff (show Den K F x d from h1)).mp z)
    refine ⟨rfl, ?_⟩
    rw [decide_eq_false this]
    exact post_d hr hp (.bl false)
  · cases hg
theorem o2_notN : Op2 K W E (fun x y H Q => y = .non ∧ Q (.bl (!decide (x = .non))) H) gNotN := fun F L μ H x y s u res Q hr h1 h2 hg hp => by
  unfold gNotN at hg
  split at hg
  · cases hg; cases h1; cases h2
    exact ⟨rfl, post_d hr hp (.bl false)⟩
  · rename_i d hn
    cases hg; cases h2
    have hn' : d ≠ .non := fun z => by subst z; exact hn rfl
    have : x ≠ .non := fun z => hn' ((Den.non_iff (show Den K F x d from h1)).mp z)
    refine ⟨rfl, ?_⟩
    rw [decide_eq_false this]
    exact post_d hr hp (.bl true)
  · cases hg
def gNotB : G2 := fun s u μ => match s, u with
  | .d (.bl a), .d (.bl b) => some (.ok (.d (.bl (!decide (a = b)))) μ)
  | _, _ => none
theorem o2_notB : Op2 K W E rNotB gNotB := fun F L μ H x y s u res Q hr h1 h2 hg hp => by
  unfold gNotB at hg
  split at hg
  · cases hg; cases h1; cases h2
    exact ⟨_, _, rfl, rfl, post_d hr hp (.bl _)⟩
  · cases hg

/-! ### in, not in -/
def allInts : List D → Option (List Int)
  | [] => some []
  | .int i :: r => (allInts r).map (i :: ·)
  | _ :: _ => none
theorem allInts_ok : ∀ {ds : List D} {ns : List Int}, allInts ds = some ns → ds = ns.map D.int
  | [], ns, h => by cases h; rfl
  | d :: r, ns, h => by
    cases d with
    | int i =>
      unfold allInts at h
      cases e : allInts r with
      | none => rw [e] at h; cases h
      | some ms => rw [e] at h; cases h; rw [allInts_ok e]; rfl
    | _ => cases h
theorem allInts_map : ∀ ns : List Int, allInts (ns.map D.int) = some ns
  | [] => rfl
  | n :: ns => by simp [allInts, allInts_map ns]
def gIn (neg : Bool) : G2 := fun s u μ => match s, viewT u with
  | .d (.int i), some ds => (match allInts ds with
    | some ns => some (.ok (.d (.bl (if neg then !ns.contains i else ns.contains i))) μ)
    | none => none)
  | .d x, none => (match viewL μ u with
    | some ds => if okD 20 x = true ∧ okDs 20 ds = true then some (.ok (.d (.bl (if neg then !ds.any (fun z => eqvD z x) else ds.any fun z => eqvD z x))) μ) else none
    | none => none)
  | _, _ => none
def rInAll (K : PySem.W.Frag) (neg : Bool) : R2 := fun x y H Q => rIn K neg x y H Q ∨ (if neg then rNotInD K x y H Q else rInD K x y H Q)
theorem op_inAll {X : Cx} (hu : X.A.units + 65 < cLine) : OpR X (compareOp .In) (rInAll X.K false) := OpR.or op_in_seq (op_inD hu)
theorem op_ninAll {X : Cx} (hu : X.A.units + 65 < cLine) : OpR X (compareOp .NotIn) (rInAll X.K true) := OpR.or op_notIn_seq (op_notInD hu)
theorem inV_ints (i : Int) : ∀ ns : List Int, inV (.int i) (ns.map V.int) = ns.contains i
  | [] => rfl
  | n :: ns => by
    have ih := inV_ints i ns
    unfold inV at ih ⊢
    rw [List.map_cons, List.any_cons, ih, List.contains_cons]
    congr 1
    simp only [eqV]
    first | (rw [Bool.beq_comm]) | (by_cases h : n = i <;> simp [h, eq_comm]) | (cases h : (n == i) <;> simp_all [eq_comm])
theorem flat_ints : ∀ ns : List Int, (ns.map V.int).all flatV = true
  | [] => rfl
  | n :: ns => by rw [List.map_cons, List.all_cons, flat_ints ns]; rfl
theorem any_eqv {n m : Nat} {x : D} (hx : okD m x = true) : ∀ {ds : List D}, okDs n ds = true → ((D.pys ds).any fun z => PyData.eqv z x.py) = ds.any fun z => eqvD z x
  | [], _ => rfl
  | d :: r, h => by
    have h : okD n d = true ∧ okDs n r = true := by simpa [okDs] using h
    simp only [D.pys, List.any_cons]
    rw [any_eqv hx h.2, eqvD_py d x h.1 hx]
theorem o2_in {neg : Bool} : Op2 K W E (rInAll K neg) (gIn neg) := fun F L μ H x y s u res Q hr h1 h2 hg hp => by
  unfold gIn at hg
  split at hg
  · rename_i i ds e
    cases h1
    split at hg
    · rename_i ns ea
      cases hg
      obtain ⟨a, xs, rfl, fa, ha, da⟩ := viewT_ok hr h2 e
      have hd := allInts_ok ea
      subst hd
      have hx := da.ints
      subst hx
      refine .inl ⟨a, _, rfl, .inr ha, rfl, flat_ints ns, ?_⟩
      rw [inV_ints]
      exact post_d hr hp (.bl _)
    · cases hg
  · rename_i d e
    split at hg
    · rename_i ds el
      by_cases hc : okD 20 d = true ∧ okDs 20 ds = true
      · rw [if_pos hc] at hg; cases hg
        obtain ⟨a, xs, rfl, ha, da⟩ := viewL_ok hr h2 el
        have hsh : SeqAt.shaped (.list (D.pys ds)) = true := okD_shaped (d := .lst ds) (n := 21) (by simpa [okD] using hc.2) (by decide)
        refine .inr ?_
        cases neg with
        | true =>
          refine ⟨d.py, D.pys ds, Den.dp hr.sub h1 hc.1, .lst ha (DenL.dp hr.sub da hc.2), okD_shaped hc.1 (by decide), hsh, ?_⟩
          rw [any_eqv hc.1 hc.2]
          exact post_d hr hp (.bl _)
        | false =>
          refine ⟨d.py, D.pys ds, Den.dp hr.sub h1 hc.1, .lst ha (DenL.dp hr.sub da hc.2), okD_shaped hc.1 (by decide), hsh, ?_⟩
          rw [any_eqv hc.1 hc.2]
          exact post_d hr hp (.bl _)
      · rw [if_neg hc] at hg; cases hg
    · cases hg
  · cases hg

/-! ### chains -/
def eChain (g g' : G2) (fa fb fc : EF) : EF := fun ρ μ => bE (fa ρ μ) fun s μ1 => bE (fb ρ μ1) fun u μ2 => asB (g s u μ2) fun b μ3 => match b with
  | true => bE (fc ρ μ3) fun z μ4 => g' u z μ4
  | false => some (.ok (.d (.bl false)) μ3)
theorem asB_split {r : Option ER} {k : Bool → List MO → Option ER} {res : ER} (h : asB r k = some res) : (∃ b μ, r = some (.ok (.d (.bl b)) μ) ∧ k b μ = some res) ∨ ∃ x μ, r = some (.ex x μ) ∧ res = .ex x μ := by
  unfold asB at h
  split at h
  · exact .inl ⟨_, _, rfl, h⟩
  · cases h; exact .inr ⟨_, _, rfl, rfl⟩
  · cases h
theorem tChain_of {r r' : R2} {g g' : G2} {fa fb fc : EF} (ho : Op2 K W E r g) (ho' : Op2 K W E r' g') {σ : Sl} {H : Hp} {Q : VK} (h : tOf K W E (eChain g g' fa fb fc) σ H Q) : tChain r r' (tOf K W E fa) (tOf K W E fb) (tOf K W E fc) σ H Q := by
  obtain ⟨F, L, μ, ρ, res, hr, hs, hf, hp⟩ := h
  show tOf K W E fa σ H _
  refine tOf_ok hr hs hf hp fun s x μ1 F1 H1 L1 hk e1 r1 d1 p1 => ?_
  refine tOf_ok r1 (hs.mono e1) hk p1 fun u y μ2 F2 H2 L2 hk2 e2 r2 d2 p2 => ?_
  rcases asB_split hk2 with ⟨b, μ3, eg, hk3⟩ | ⟨xx, μ3, eg, rfl⟩
  · refine ho F2 L2 μ2 H2 x y s u _ _ r2 (d1.mono e2) d2 eg fun z F3 H3 L3 e3 r3 d3 _ => ?_
    cases d3
    refine ⟨b, rfl, ?_⟩
    cases b with
    | true =>
      refine iteT ?_
      refine tOf_ok r3 (((hs.mono e1).mono e2).mono e3) hk3 (p2.mono e3) fun z w μ4 F4 H4 L4 hk4 e4 r4 d4 p4 => ?_
      exact ho' F4 L4 μ4 H4 y w u z res Q r4 ((d2.mono e3).mono e4) d4 hk4 p4
    | false =>
      cases hk3
      exact iteF (p2 _ F3 H3 L3 e3 r3 (.bl false) (by simp))
  · exact ho F2 L2 μ2 H2 x y s u _ _ r2 (d1.mono e2) d2 eg p2
theorem q_chain {X : Cx} {op op' : CmpOp} {r r' : R2} {g g' : G2} {a b c : Expr} {fa fb fc : EF} {pos : Pos} (ho : OpR X (compareOp op) r) (hg : Op2 X.K W E r g) (ho' : OpR X (compareOp op') r') (hg' : Op2 X.K W E r' g') (ha : PE X a (tOf X.K W E fa)) (hb : PE X b (tOf X.K W E fb)) (hc : PE X c (tOf X.K W E fc)) (hm : lastMarks [op, op'] [b, c] = false := by rfl) :
    PE X (.Compare a [op, op'] [b, c] pos) (tOf X.K W E (eChain g g' fa fb fc)) := PE.weak (pe_chain ho ho' ha hb hc hm) fun _ _ _ h => tChain_of hg hg' h

/-! ### subscripts -/
def gIx : G2 := fun s u μ => match s, u with
  | .d (.str z), .d (.int i) => if z.length ≤ small24 then (match atI z.cps.toList i with
    | some c => some (.ok (.d (.str ⟨#[c]⟩)) μ)
    | none => none) else none
  | s, .d (.int i) => (match viewT s with
    | some ds => (match atI ds i with
      | some d => some (.ok (.d d) μ)
      | none => none)
    | none => match viewL μ s with
      | some ds => (match atI ds i with
        | some d => some (.ok (.d d) μ)
        | none => none)
      | none => none)
  | _, _ => none
theorem DenL.atI {F : Hp} {vs : List V} {ds : List D} {i : Int} {d : D} (h : DenL K F vs ds) (e : L2.atI ds i = some d) : ∃ v, L2.atI vs i = some v ∧ Den K F v d := by
  unfold L2.atI at e ⊢
  rw [h.length]
  cases ej : ixN ds.length i with
  | none => rw [ej] at e; cases e
  | some j =>
    rw [ej] at e
    obtain ⟨v, h1, h2⟩ := h.get (i := j) (d := d) e
    exact ⟨v, h1, h2⟩
theorem o2_ix : Op2 K W E (rIx K) gIx := fun F L μ H x y s u res Q hr h1 h2 hg hp => by
  unfold gIx at hg
  split at hg
  · rename_i z i
    cases h1; cases h2
    by_cases hl : z.length ≤ small24
    · rw [if_pos hl] at hg
      split at hg
      · rename_i c e
        cases hg
        exact .inr (.inr ⟨z, i, c, rfl, rfl, small24_line hl, e, post_d hr hp (.str _)⟩)
      · cases hg
    · rw [if_neg hl] at hg; cases hg
  · rename_i i hns
    cases h2
    split at hg
    · rename_i ds e1
      split at hg
      · rename_i d e
        cases hg
        obtain ⟨a, xs, rfl, fa, ha, da⟩ := viewT_ok hr h1 e1
        obtain ⟨v, hv, dv⟩ := da.atI e
        exact .inr (.inl ⟨a, xs, i, v, rfl, rfl, ha, hv, post_d hr hp dv⟩)
      · cases hg
    · split at hg
      · rename_i ds e1
        split at hg
        · rename_i d e
          cases hg
          obtain ⟨a, xs, rfl, ha, da⟩ := viewL_ok hr h1 e1
          obtain ⟨v, hv, dv⟩ := da.atI e
          exact .inl ⟨a, xs, i, v, rfl, rfl, ha, hv, post_d hr hp dv⟩
        · cases hg
      · cases hg
  · cases hg
theorem q_ix {X : Cx} {a b : Expr} {fa fb : EF} {pos : Pos} (ha : PE X a (tOf X.K W E fa)) (hb : PE X b (tOf X.K W E fb)) (hs : PlainIx b := by exact fun _ _ => rfl) : PE X (.Subscript a b pos) (tOf X.K W E (e2 gIx fa fb)) :=
  PE.weak (pe_ix ix_seq ha hb hs) fun _ _ _ h => tOp_of o2_ix h

/-! ### slices -/
def cutD (ds : List D) (lo hi : Option Int) : List D := (ds.drop (HT.sIx ds.length 0 lo)).take (HT.sIx ds.length ds.length hi - HT.sIx ds.length 0 lo)
theorem DenL.cut {F : Hp} {vs : List V} {ds : List D} (h : DenL K F vs ds) (lo hi : Option Int) : DenL K F (cutV vs lo hi) (cutD ds lo hi) := by
  unfold cutV cutD
  rw [h.length]
  exact (h.drop _).take _
def ePart (f : Option EF) (ρ : List S) (μ : List MO) (k : Option Int → List MO → Option ER) : Option ER := match f with
  | none => k none μ
  | some f => match f ρ μ with
    | some (.ok (.d (.int i)) μ1) => k (some i) μ1
    | some (.ex x μ1) => some (.ex x μ1)
    | _ => none
def pOf (K : PySem.W.Frag) (W : Wd) (E : XK) (f : Option EF) : TO := match f with
  | none => tNoPart
  | some f => tPart (tOf K W E f)
def gCut (mk : Bool) (s : S) (lo hi : Option Int) (μ : List MO) : Option ER := match s with
  | .d (.str z) => if z.length ≤ small24 then some (.ok (.d (.str (cutS z lo hi))) μ) else none
  | s => match viewT s with
    | some ds => some (.ok (.d (.tup (cutD ds lo hi))) μ)
    | none => match viewL μ s with
      | some ds => newL mk (cutD ds lo hi) μ
      | none => none
def eCut (mk : Bool) (f : EF) (lo hi : Option EF) : EF := fun ρ μ => bE (f ρ μ) fun s μ1 => ePart lo ρ μ1 fun l μ2 => ePart hi ρ μ2 fun h μ3 => gCut mk s l h μ3
theorem pOf_ok {f : Option EF} {σ : Sl} {H F : Hp} {L : List Addr} {μ : List MO} {ρ : List S} {Q : VK} {k : Option Int → List MO → Option ER} {res : ER} (hr : Rep K W F L μ H) (hs : SlotsOk K F L ρ σ) (hf : ePart f ρ μ k = some res) (hp : PostE K W E F L H res Q) {R : Option Int → Hp → Prop}
    (hk : ∀ i μ1 F1 H1 L1, k i μ1 = some res → Ext F H L F1 H1 L1 → Rep K W F1 L1 μ1 H1 → PostE K W E F1 L1 H1 res Q → R i H1) : pOf K W E f σ H R := by
  cases f with
  | none => exact hk none μ F H L hf .refl hr hp
  | some f =>
    unfold ePart at hf
    simp only at hf
    show tOf K W E f σ H _
    cases ea : f ρ μ with
    | none => rw [ea] at hf; cases hf
    | some ra =>
      rw [ea] at hf
      refine ⟨F, L, μ, ρ, ra, hr, hs, ea, ?_⟩
      cases ra with
      | ex x μ1 => cases hf; exact hp
      | ok s μ1 =>
        intro x F1 H1 L1 e1 r1 d1 n1
        cases s with
        | un => cases hf
        | m i => cases hf
        | d y =>
          cases y with
          | int i => cases d1; exact ⟨i, rfl, hk (some i) μ1 F1 H1 L1 hf e1 r1 (hp.mono e1)⟩
          | _ => cases hf
theorem cut_whole {α : Type} (xs : List α) (lo hi : Option Int) (h : HT.sIx xs.length 0 lo = 0 ∧ HT.sIx xs.length xs.length hi = xs.length) : (xs.drop (HT.sIx xs.length 0 lo)).take (HT.sIx xs.length xs.length hi - HT.sIx xs.length 0 lo) = xs := by
  rw [h.1, h.2, List.drop_zero, Nat.sub_zero, List.take_length]
theorem q_cut {X : Cx} {mk : Bool} {e : Expr} {lo hi : Option Expr} {f : EF} {flo fhi : Option EF} {p2 pos : Pos} (he : PE X e (tOf X.K W E f)) (hl : PO X lo (pOf X.K W E flo)) (hh : PO X hi (pOf X.K W E fhi)) : PE X (.Subscript e (.Slice lo hi none p2) pos) (tOf X.K W E (eCut mk f flo fhi)) := by
  refine PE.weak (pe_slice (SlR.or sl_list (SlR.or sl_tupA sl_str)) he hl hh) fun σ H Q h => ?_
  obtain ⟨F, L, μ, ρ, res, hr, hs, hf, hp⟩ := h
  show tOf X.K W E f σ H _
  refine tOf_ok hr hs hf hp fun s v μ1 F1 H1 L1 hk e1 r1 d1 p1 => ?_
  refine pOf_ok r1 (hs.mono e1) hk p1 fun l μ2 F2 H2 L2 hk2 e2 r2 p2 => ?_
  refine pOf_ok r2 ((hs.mono e1).mono e2) hk2 p2 fun u μ3 F3 H3 L3 hk3 e3 r3 p3 => ?_
  have d3 := (d1.mono e2).mono e3
  unfold gCut at hk3
  split at hk3
  · rename_i z
    cases d3
    by_cases hz : z.length ≤ small24
    · rw [if_pos hz] at hk3; cases hk3
      exact .inr (.inr ⟨z, rfl, small24_line hz, post_d r3 p3 (.str _)⟩)
    · rw [if_neg hz] at hk3; cases hk3
  · split at hk3
    · rename_i ds ev
      cases hk3
      obtain ⟨a, xs, rfl, fa, ha, da⟩ := viewT_ok r3 d3 ev
      refine .inr (.inl ⟨a, xs, rfl, ha, fun hw => ?_, fun _ p np => post_newT r3 p3 np (da.cut _ _)⟩)
      have hc := cut_whole ds l u (by rw [← da.length]; exact hw)
      have hc : cutD ds l u = ds := hc
      rw [hc] at p3
      exact post_d r3 p3 (.tup fa da)
    · split at hk3
      · rename_i ds ev
        obtain ⟨a, xs, rfl, ha, da⟩ := viewL_ok r3 d3 ev
        exact .inl ⟨a, xs, rfl, ha, fun p np => post_newL r3 hk3 p3 np (da.cut _ _)⟩
      · cases hk3
theorem qp_none {X : Cx} : PO X none (pOf X.K W E none) := po_none
theorem qp_some {X : Cx} {e : Expr} {f : EF} (h : PE X e (tOf X.K W E f)) : PO X (some e) (pOf X.K W E (some f)) := po_some h

/-! ### calls of built-ins -/
def COk (K : PySem.W.Frag) (W : Wd) (E : XK) (r : List V → Hp → VK → Prop) (g : GF) : Prop :=
  ∀ F L μ H vs ss res Q, Rep K W F L μ H → DenSs K F L vs ss → g ss μ = some res → PostE K W E F L H res Q → r vs H Q
def eB (g : GF) (fa : AF) : EF := fun ρ μ => bAE (fa ρ μ) g
theorem tCB_of {r : List V → Hp → VK → Prop} {g : GF} {fa : AF} (ho : COk K W E r g) {σ : Sl} {H : Hp} {Q : VK} (h : tOf K W E (eB g fa) σ H Q) : tCB r (aOf K W E fa) σ H Q := by
  obtain ⟨F, L, μ, ρ, res, hr, hs, hf, hp⟩ := h
  exact aOf_ok hr hs hf hp fun ss vs μ1 F1 H1 L1 hk e1 r1 d1 p1 => ho F1 L1 μ1 H1 vs ss res Q r1 d1 hk p1
theorem q_bi {X : Cx} {id : String} {r : List V → Hp → VK → Prop} {g : GF} {x : Str} {e : Expr} {es : List Expr} {fa : AF} {p pos : Pos} (hc : CallR X (.builtin id) r) (ho : COk X.K W E r g) (hm : X.mg x = none) (hv : bootBuiltins x = some (.builtin id)) (ha : PA X (e :: es) (aOf X.K W E fa)) (hg : Gl X x := by rfl) (hn : x ≠ "__name__" := by decide) (hdb : (x == ("__debug__" : Str)) = false := by decide)
    (he : starEach (e :: es) X.env = (false, eval e X.env) :: starEach es X.env := by rfl) (hpl : (backTo pos (starEach es X.env)).any (·.1) = false := by rfl) : PE X (.Call (.Name x p) (e :: es) [] pos) (tOf X.K W E (eB g fa)) :=
  PE.weak (pe_callB hc hg hm hv ha hn hdb he hpl) fun _ _ _ h => tCB_of ho h
theorem q_ty {X : Cx} {T : String} {r : List V → Hp → VK → Prop} {g : GF} {x : Str} {e : Expr} {es : List Expr} {fa : AF} {p pos : Pos} (hc : CallR X (.type T) r) (ho : COk X.K W E r g) (hm : X.mg x = none) (hv : bootBuiltins x = some (.type T)) (ha : PA X (e :: es) (aOf X.K W E fa)) (hg : Gl X x := by rfl) (hn : x ≠ "__name__" := by decide) (hdb : (x == ("__debug__" : Str)) = false := by decide)
    (he : starEach (e :: es) X.env = (false, eval e X.env) :: starEach es X.env := by rfl) (hpl : (backTo pos (starEach es X.env)).any (·.1) = false := by rfl) : PE X (.Call (.Name x p) (e :: es) [] pos) (tOf X.K W E (eB g fa)) :=
  PE.weak (pe_callTy hc hg hm hv ha hn hdb he hpl) fun _ _ _ h => tCB_of ho h
theorem DenSs.one {F : Hp} {L : List Addr} {vs : List V} {s : S} (h : DenSs K F L vs [s]) : ∃ v, vs = [v] ∧ DenS K F L v s := by
  cases h with
  | cons h1 h2 => cases h2; exact ⟨_, rfl, h1⟩
theorem DenSs.two {F : Hp} {L : List Addr} {vs : List V} {s u : S} (h : DenSs K F L vs [s, u]) : ∃ v w, vs = [v, w] ∧ DenS K F L v s ∧ DenS K F L w u := by
  cases h with
  | cons h1 h2 => cases h2 with | cons h2 h3 => cases h3; exact ⟨_, _, rfl, h1, h2⟩
/-- len -/
def gLen : GF := fun ss μ => match ss with
  | [.d (.str z)] => if z.length ≤ small24 then some (.ok (.d (.int z.length)) μ) else none
  | [s] => (match viewT s with
    | some ds => some (.ok (.d (.int ds.length)) μ)
    | none => match viewL μ s with
      | some ds => some (.ok (.d (.int ds.length)) μ)
      | none => none)
  | _ => none
theorem c_len {X : Cx} : CallR X (.builtin "len") (fun xs H Q => (∃ p ys, xs = [.ref p] ∧ (SqL X.K H p ys ∨ SqT X.K H p ys) ∧ Q (.int ys.length) H) ∨ ∃ z, xs = [.str z] ∧ z.length ≤ sizeLine ∧ Q (.int z.length) H) := CallR.or call_len_seq call_len_str
theorem k_len : COk K W E (fun xs H Q => (∃ p ys, xs = [.ref p] ∧ (SqL K H p ys ∨ SqT K H p ys) ∧ Q (.int ys.length) H) ∨ ∃ z, xs = [.str z] ∧ z.length ≤ sizeLine ∧ Q (.int z.length) H) gLen := fun F L μ H vs ss res Q hr hd hg hp => by
  unfold gLen at hg
  split at hg
  · rename_i z
    obtain ⟨v, rfl, h⟩ := hd.one
    cases h
    by_cases hz : z.length ≤ small24
    · rw [if_pos hz] at hg; cases hg
      exact .inr ⟨z, rfl, small24_line hz, post_d hr hp (.int _)⟩
    · rw [if_neg hz] at hg; cases hg
  · rename_i s hs
    obtain ⟨v, rfl, h⟩ := hd.one
    split at hg
    · rename_i ds e
      cases hg
      obtain ⟨a, xs, rfl, fa, ha, da⟩ := viewT_ok hr h e
      refine .inl ⟨a, xs, rfl, .inr ha, ?_⟩
      rw [da.length]
      exact post_d hr hp (.int _)
    · split at hg
      · rename_i ds e
        cases hg
        obtain ⟨a, xs, rfl, ha, da⟩ := viewL_ok hr h e
        refine .inl ⟨a, xs, rfl, .inl ha, ?_⟩
        rw [da.length]
        exact post_d hr hp (.int _)
      · cases hg
  · cases hg
/-- all, any, sum, min, max of a list -/
def allBls : List D → Option (List Bool)
  | [] => some []
  | .bl i :: r => (allBls r).map (i :: ·)
  | _ :: _ => none
theorem allBls_ok : ∀ {ds : List D} {ns : List Bool}, allBls ds = some ns → ds = ns.map D.bl
  | [], ns, h => by cases h; rfl
  | d :: r, ns, h => by
    cases d with
    | bl i =>
      unfold allBls at h
      cases e : allBls r with
      | none => rw [e] at h; cases h
      | some ms => rw [e] at h; cases h; rw [allBls_ok e]; rfl
    | _ => cases h
theorem allBls_map : ∀ ns : List Bool, allBls (ns.map D.bl) = some ns
  | [] => rfl
  | n :: ns => by simp [allBls, allBls_map ns]
def gOnBls (f : List Bool → Bool) : GF := fun ss μ => match ss with
  | [s] => (match (viewL μ s).bind allBls with
    | some bs => some (.ok (.d (.bl (f bs))) μ)
    | none => none)
  | _ => none
theorem viewBls {F H : Hp} {L : List Addr} {μ : List MO} {v : V} {s : S} {bs : List Bool} (hr : Rep K W F L μ H) (h : DenS K F L v s) (e : (viewL μ s).bind allBls = some bs) : ∃ a, v = .ref a ∧ SqL K H a (bs.map V.bl) := by
  cases ev : viewL μ s with
  | none => rw [ev] at e; cases e
  | some ds =>
    rw [ev] at e
    obtain ⟨a, xs, rfl, ha, da⟩ := viewL_ok hr h ev
    have hd := allBls_ok (show allBls ds = some bs from e)
    subst hd
    rw [da.bls] at ha
    exact ⟨a, rfl, ha⟩
theorem viewInts {F H : Hp} {L : List Addr} {μ : List MO} {v : V} {s : S} {ns : List Int} (hr : Rep K W F L μ H) (h : DenS K F L v s) (e : (viewL μ s).bind allInts = some ns) : ∃ a, v = .ref a ∧ SqL K H a (ns.map V.int) := by
  cases ev : viewL μ s with
  | none => rw [ev] at e; cases e
  | some ds =>
    rw [ev] at e
    obtain ⟨a, xs, rfl, ha, da⟩ := viewL_ok hr h ev
    have hd := allInts_ok (show allInts ds = some ns from e)
    subst hd
    rw [da.ints] at ha
    exact ⟨a, rfl, ha⟩
theorem k_all : COk K W E (rAll K) (gOnBls fun bs => bs.all id) := fun F L μ H vs ss res Q hr hd hg hp => by
  unfold gOnBls at hg
  split at hg
  · obtain ⟨v, rfl, h⟩ := hd.one
    split at hg
    · rename_i bs e
      cases hg
      obtain ⟨a, rfl, ha⟩ := viewBls hr h e
      exact ⟨a, bs, rfl, ha, post_d hr hp (.bl _)⟩
    · cases hg
  · cases hg
theorem k_any : COk K W E (rAny K) (gOnBls fun bs => bs.any id) := fun F L μ H vs ss res Q hr hd hg hp => by
  unfold gOnBls at hg
  split at hg
  · obtain ⟨v, rfl, h⟩ := hd.one
    split at hg
    · rename_i bs e
      cases hg
      obtain ⟨a, rfl, ha⟩ := viewBls hr h e
      exact ⟨a, bs, rfl, ha, post_d hr hp (.bl _)⟩
    · cases hg
  · cases hg
def gSum : GF := fun ss μ => match ss with
  | [s] => (match (viewL μ s).bind allInts with
    | some ns => some (.ok (.d (.int ns.sum)) μ)
    | none => none)
  | _ => none
theorem k_sum : COk K W E (rSum K) gSum := fun F L μ H vs ss res Q hr hd hg hp => by
  unfold gSum at hg
  split at hg
  · obtain ⟨v, rfl, h⟩ := hd.one
    split at hg
    · rename_i ns e
      cases hg
      obtain ⟨a, rfl, ha⟩ := viewInts hr h e
      exact ⟨a, ns, rfl, ha, post_d hr hp (.int _)⟩
    · cases hg
  · cases hg
def maxI : List Int → Int
  | [] => 0
  | x :: r => r.foldl (fun a b => if a < b then b else a) x
def minI : List Int → Int
  | [] => 0
  | x :: r => r.foldl (fun a b => if b < a then b else a) x
theorem maxI_go : ∀ (r : List Int) (x : Int), (r.foldl (fun a b => if a < b then b else a) x) ∈ x :: r ∧ ∀ y ∈ x :: r, y ≤ r.foldl (fun a b => if a < b then b else a) x
  | [], x => by simp
  | z :: r, x => by
    rw [List.foldl_cons]
    obtain ⟨h1, h2⟩ := maxI_go r (if x < z then z else x)
    by_cases h : x < z
    · rw [if_pos h] at h1 h2 ⊢
      refine ⟨List.mem_cons_of_mem _ h1, fun y hy => ?_⟩
      rcases List.mem_cons.mp hy with rfl | hy
      · have := h2 z (List.mem_cons_self); omega
      · exact h2 y hy
    · rw [if_neg h] at h1 h2 ⊢
      refine ⟨?_, fun y hy => ?_⟩
      · rcases List.mem_cons.mp h1 with e | h1
        · rw [e]; exact List.mem_cons_self
        · exact List.mem_cons_of_mem _ (List.mem_cons_of_mem _ h1)
      · rcases List.mem_cons.mp hy with rfl | hy
        · exact h2 _ (List.mem_cons_self)
        · rcases List.mem_cons.mp hy with rfl | hy
          · have := h2 x (List.mem_cons_self); omega
          · exact h2 y (List.mem_cons_of_mem _ hy)
theorem minI_go : ∀ (r : List Int) (x : Int), (r.foldl (fun a b => if b < a then b else a) x) ∈ x :: r ∧ ∀ y ∈ x :: r, r.foldl (fun a b => if b < a then b else a) x ≤ y
  | [], x => by simp
  | z :: r, x => by
    rw [List.foldl_cons]
    obtain ⟨h1, h2⟩ := minI_go r (if z < x then z else x)
    by_cases h : z < x
    · rw [if_pos h] at h1 h2 ⊢
      refine ⟨List.mem_cons_of_mem _ h1, fun y hy => ?_⟩
      rcases List.mem_cons.mp hy with rfl | hy
      · have := h2 z (List.mem_cons_self); omega
      · exact h2 y hy
    · rw [if_neg h] at h1 h2 ⊢
      refine ⟨?_, fun y hy => ?_⟩
      · rcases List.mem_cons.mp h1 with e | h1
        · rw [e]; exact List.mem_cons_self
        · exact List.mem_cons_of_mem _ (List.mem_cons_of_mem _ h1)
      · rcases List.mem_cons.mp hy with rfl | hy
        · exact h2 _ (List.mem_cons_self)
        · rcases List.mem_cons.mp hy with rfl | hy
          · have := h2 x (List.mem_cons_self); omega
          · exact h2 y (List.mem_cons_of_mem _ hy)
theorem maxI_eq {ns : List Int} {m : Int} (h1 : m ∈ ns) (h2 : ∀ y ∈ ns, y ≤ m) : maxI ns = m := by
  cases ns with
  | nil => cases h1
  | cons x r =>
    obtain ⟨a, b⟩ := maxI_go r x
    have := h2 _ a
    have := b m h1
    show r.foldl _ x = m
    omega
theorem minI_eq {ns : List Int} {m : Int} (h1 : m ∈ ns) (h2 : ∀ y ∈ ns, m ≤ y) : minI ns = m := by
  cases ns with
  | nil => cases h1
  | cons x r =>
    obtain ⟨a, b⟩ := minI_go r x
    have := h2 _ a
    have := b m h1
    show r.foldl _ x = m
    omega
def rMax12 (K : PySem.W.Frag) : List V → Hp → VK → Prop := fun xs H Q => rMax K xs H Q ∨ ∃ i j, xs = [.int i, .int j] ∧ Q (.int (if j > i then j else i)) H
def rMin12 (K : PySem.W.Frag) : List V → Hp → VK → Prop := fun xs H Q => rMin K xs H Q ∨ ∃ i j, xs = [.int i, .int j] ∧ Q (.int (if j < i then j else i)) H
theorem c_max {X : Cx} (hc : X.calm = true) : CallR X (.builtin "max") (rMax12 X.K) := CallR.or (cr_max hc) (call_max2 hc)
theorem c_min {X : Cx} (hc : X.calm = true) : CallR X (.builtin "min") (rMin12 X.K) := CallR.or (cr_min hc) (call_min2 hc)
def gMax : GF := fun ss μ => match ss with
  | [s] => (match (viewL μ s).bind allInts with
    | some ns => if ns ≠ [] then some (.ok (.d (.int (maxI ns))) μ) else none
    | none => none)
  | [.d (.int i), .d (.int j)] => some (.ok (.d (.int (max i j))) μ)
  | _ => none
def gMin : GF := fun ss μ => match ss with
  | [s] => (match (viewL μ s).bind allInts with
    | some ns => if ns ≠ [] then some (.ok (.d (.int (minI ns))) μ) else none
    | none => none)
  | [.d (.int i), .d (.int j)] => some (.ok (.d (.int (min i j))) μ)
  | _ => none
theorem k_max : COk K W E (rMax12 K) gMax := fun F L μ H vs ss res Q hr hd hg hp => by
  unfold gMax at hg
  split at hg
  · obtain ⟨v, rfl, h⟩ := hd.one
    split at hg
    · rename_i ns e
      by_cases hn : ns ≠ []
      · rw [if_pos hn] at hg; cases hg
        obtain ⟨a, rfl, ha⟩ := viewInts hr h e
        refine .inl ⟨a, ns, rfl, ha, List.length_pos_iff.mpr hn, fun m h1 h2 => ?_⟩
        rw [← maxI_eq h1 h2]
        exact post_d hr hp (.int _)
      · rw [if_neg hn] at hg; cases hg
    · cases hg
  · rename_i i j
    cases hg
    obtain ⟨v, w, rfl, h1, h2⟩ := hd.two
    cases h1; cases h2
    refine .inr ⟨i, j, rfl, ?_⟩
    have : (if j > i then j else i) = max i j := by split <;> omega
    rw [this]
    exact post_d hr hp (.int _)
  · cases hg
theorem k_min : COk K W E (rMin12 K) gMin := fun F L μ H vs ss res Q hr hd hg hp => by
  unfold gMin at hg
  split at hg
  · obtain ⟨v, rfl, h⟩ := hd.one
    split at hg
    · rename_i ns e
      by_cases hn : ns ≠ []
      · rw [if_pos hn] at hg; cases hg
        obtain ⟨a, rfl, ha⟩ := viewInts hr h e
        refine .inl ⟨a, ns, rfl, ha, List.length_pos_iff.mpr hn, fun m h1 h2 => ?_⟩
        rw [← minI_eq h1 h2]
        exact post_d hr hp (.int _)
      · rw [if_neg hn] at hg; cases hg
    · cases hg
  · rename_i i j
    cases hg
    obtain ⟨v, w, rfl, h1, h2⟩ := hd.two
    cases h1; cases h2
    refine .inr ⟨i, j, rfl, ?_⟩
    have : (if j < i then j else i) = min i j := by split <;> omega
    rw [this]
    exact post_d hr hp (.int _)
  · cases hg
def gAbs : GF := fun ss μ => match ss with
  | [.d (.int i)] => some (.ok (.d (.int (i.natAbs : Int))) μ)
  | _ => none
theorem k_abs : COk K W E (fun xs H Q => ∃ i, xs = [.int i] ∧ Q (.int (if i < 0 then -i else i)) H) gAbs := fun F L μ H vs ss res Q hr hd hg hp => by
  unfold gAbs at hg
  split at hg
  · rename_i i
    cases hg
    obtain ⟨v, rfl, h⟩ := hd.one
    cases h
    refine ⟨i, rfl, ?_⟩
    have : (if i < 0 then -i else i) = (i.natAbs : Int) := by split <;> omega
    rw [this]
    exact post_d hr hp (.int _)
  · cases hg
def gInt : GF := fun ss μ => match ss with
  | [.d (.int i)] => some (.ok (.d (.int i)) μ)
  | [.d (.bl b)] => some (.ok (.d (.int (if b then 1 else 0))) μ)
  | _ => none
theorem k_int : COk K W E (fun xs H Q => (∃ i, xs = [.int i] ∧ Q (.int i) H) ∨ ∃ k, xs = [.bl k] ∧ Q (.int (if k then 1 else 0)) H) gInt := fun F L μ H vs ss res Q hr hd hg hp => by
  unfold gInt at hg
  split at hg
  · cases hg
    obtain ⟨v, rfl, h⟩ := hd.one
    cases h
    exact .inl ⟨_, rfl, post_d hr hp (.int _)⟩
  · cases hg
    obtain ⟨v, rfl, h⟩ := hd.one
    cases h
    exact .inr ⟨_, rfl, post_d hr hp (.int _)⟩
  · cases hg
/-- tuple(list), tuple(tuple); list(..) -/
def gTup : GF := fun ss μ => match ss with
  | [s] => (match viewT s with
    | some ds => some (.ok (.d (.tup ds)) μ)
    | none => match viewL μ s with
      | some ds => some (.ok (.d (.tup ds)) μ)
      | none => none)
  | _ => none
theorem k_tup : COk K W E (fun xs H Q => ∃ p ys, xs = [.ref p] ∧ ((SqL K H p ys ∧ ∀ l, H l = none → Q (.ref l) (upd H l (.tup ys))) ∨ (SqT K H p ys ∧ Q (.ref p) H))) gTup := fun F L μ H vs ss res Q hr hd hg hp => by
  unfold gTup at hg
  split at hg
  · obtain ⟨v, rfl, h⟩ := hd.one
    split at hg
    · rename_i ds e
      cases hg
      obtain ⟨a, xs, rfl, fa, ha, da⟩ := viewT_ok hr h e
      exact ⟨a, xs, rfl, .inr ⟨ha, post_d hr hp (.tup fa da)⟩⟩
    · split at hg
      · rename_i ds e
        cases hg
        obtain ⟨a, xs, rfl, ha, da⟩ := viewL_ok hr h e
        exact ⟨a, xs, rfl, .inl ⟨ha, fun p np => post_newT hr hp np da⟩⟩
      · cases hg
  · cases hg
def gLst (mk : Bool) : GF := fun ss μ => match ss with
  | [s] => (match viewT s with
    | some ds => newL mk ds μ
    | none => match viewL μ s with
      | some ds => newL mk ds μ
      | none => none)
  | _ => none
theorem k_lst {mk : Bool} : COk K W E (fun xs H Q => ∃ p ys, xs = [.ref p] ∧ (SqL K H p ys ∨ SqT K H p ys) ∧ ∀ l, H l = none → Q (.ref l) (upd H l (.lst ys))) (gLst mk) := fun F L μ H vs ss res Q hr hd hg hp => by
  unfold gLst at hg
  split at hg
  · obtain ⟨v, rfl, h⟩ := hd.one
    split at hg
    · rename_i ds e
      obtain ⟨a, xs, rfl, fa, ha, da⟩ := viewT_ok hr h e
      exact ⟨a, xs, rfl, .inr ha, fun p np => post_newL hr hg hp np da⟩
    · split at hg
      · rename_i ds e
        obtain ⟨a, xs, rfl, ha, da⟩ := viewL_ok hr h e
        exact ⟨a, xs, rfl, .inl ha, fun p np => post_newL hr hg hp np da⟩
      · cases hg
  · cases hg
/-- tuple(range(a, b)) -/
def rgI (a b : Int) : List Int := (List.range (b - a).toNat).map fun (i : Nat) => a + (i : Int)
theorem rgV_eq (a b : Int) : rgV a b = (rgI a b).map V.int := by
  unfold rgV rgI
  rw [List.map_map]
  rfl
def eTupRg (fa fb : EF) : EF := fun ρ μ => bE (fa ρ μ) fun s μ1 => bE (fb ρ μ1) fun u μ2 => match s, u with
  | .d (.int a), .d (.int b) => if 0 ≤ a ∧ a ≤ 1000000 ∧ 0 ≤ b ∧ b ≤ 1000000 then some (.ok (.d (.tup ((rgI a b).map D.int))) μ2) else none
  | _, _ => none
theorem q_tupRg {X : Cx} {a b : Expr} {fa fb : EF} {p p' pos pos' : Pos} (hc : X.calm = true) (hm : X.mg "tuple" = none) (hm2 : X.mg "range" = none) (ha : PE X a (tOf X.K W E fa)) (hb : PE X b (tOf X.K W E fb)) (hg : Gl X "tuple" := by rfl) (hg2 : Gl X "range" := by rfl)
    (na : starEach [a, b] X.env = (false, eval a X.env) :: starEach [b] X.env := by rfl) (nb : starEach [b] X.env = (false, eval b X.env) :: starEach [] X.env := by rfl) (hp : (backTo pos' (starEach [b] X.env)).any (·.1) = false := by rfl)
    (nc : starEach [.Call (.Name "range" p') [a, b] [] pos'] X.env = (false, eval (.Call (.Name "range" p') [a, b] [] pos') X.env) :: starEach [] X.env := by rfl) :
    PE X (.Call (.Name "tuple" p) [.Call (.Name "range" p') [a, b] [] pos'] [] pos) (tOf X.K W E (eTupRg fa fb)) := by
  refine PE.weak (pe_tupRg hc hg hm (prg_2 hg2 hm2 ha hb na nb hp) nc) fun σ H Q h => ?_
  obtain ⟨F, L, μ, ρ, res, hr, hs, hf, hp⟩ := h
  show tOf X.K W E fa σ H _
  refine tOf_ok hr hs hf hp fun s v μ1 F1 H1 L1 hk e1 r1 d1 p1 => ?_
  refine tOf_ok r1 (hs.mono e1) hk p1 fun u w μ2 F2 H2 L2 hk2 e2 r2 d2 p2 => ?_
  split at hk2
  · rename_i i j
    by_cases hb : 0 ≤ i ∧ i ≤ 1000000 ∧ 0 ≤ j ∧ j ≤ 1000000
    · rw [if_pos hb] at hk2; cases hk2
      cases d1; cases d2
      refine ⟨i, j, rfl, rfl, RgOk.of_le (by omega) (by omega) (by omega) (by omega), fun q nq => ?_⟩
      rw [rgV_eq]
      exact post_newT r2 p2 nq (DenL.of_ints _)
    · rw [if_neg hb] at hk2; cases hk2
  · cases hk2
/-- isinstance(x, T), T written: int, bool, tuple, str -/
def tyD : D → Option String
  | .non => some "NoneType" | .bl _ => some "bool" | .int _ => some "int" | .str _ => some "str" | .tup _ => some "tuple" | .lst _ => some "list" | .dct _ => some "dict" | .scr _ => none
def isiB (t c : String) : Bool := t == c || (t == "bool" && c == "int")
def eIsi (c : String) (f : EF) : EF := fun ρ μ => match f ρ μ with
  | some (.ok (.d d) μ1) => (match tyD d with
    | some t => some (.ok (.d (.bl (isiB t c))) μ1)
    | none => none)
  | some (.ex x μ1) => some (.ex x μ1)
  | _ => none
theorem tyX_of {F H : Hp} (e : Le F H) {v : V} {d : D} {t : String} (h : Den K F v d) (ht : tyD d = some t) : TyX K H v (.type t) := by
  cases h with
  | non => cases ht; exact .base .non
  | bl b => cases ht; exact .base (.bl b)
  | int i => cases ht; exact .base (.int i)
  | str s => cases ht; exact .base (.str s)
  | lst h1 _ => cases ht; exact .base (.lst (e _ _ h1))
  | dct h1 => cases ht; exact .base (.dT (e _ _ h1))
  | scr _ => cases ht
  | tup h1 _ =>
    cases ht
    rcases Le.seqT e h1 with (h | ⟨o, h⟩) | ⟨o, its, n, h, hc, _⟩
    · exact .base (.tup h)
    · exact .fTuple h
    · exact .kTuple h hc
theorem kit_isi {t c : String} (hc : c ∈ ["int", "bool", "tuple", "str"]) (ht : t ∈ ["NoneType", "bool", "int", "str", "tuple", "list", "dict"]) : kitB t c = some (isiB t c) := by
  simp only [List.mem_cons, List.not_mem_nil, or_false] at hc ht
  rcases hc with rfl | rfl | rfl | rfl <;> rcases ht with rfl | rfl | rfl | rfl | rfl | rfl | rfl <;> decide +kernel
theorem tyD_mem {d : D} {t : String} (h : tyD d = some t) : t ∈ ["NoneType", "bool", "int", "str", "tuple", "list", "dict"] := by
  cases d <;> simp [tyD] at h <;> subst h <;> simp
theorem q_isi {X : Cx} {c : Str} {cn : String} {e : Expr} {f : EF} {p pc pos : Pos} (hm : X.mg "isinstance" = none) (hmc : X.mg c = none) (hvc : bootBuiltins c = some (.type cn)) (he : PE X e (tOf X.K W E f)) (hcn : cn ∈ ["int", "bool", "tuple", "str"] := by decide) (hg : Gl X "isinstance" := by rfl) (hgc : Gl X c := by rfl) (hnc : c ≠ "__name__" := by decide) (hdc : (c == ("__debug__" : Str)) = false := by decide)
    (hse : starEach (e :: [.Name c pc]) X.env = (false, eval e X.env) :: starEach [.Name c pc] X.env := by rfl) (hpl : (backTo pos (starEach [.Name c pc] X.env)).any (·.1) = false := by rfl) (hs2 : starEach (.Name c pc :: []) X.env = (false, eval (.Name c pc) X.env) :: starEach [] X.env := by rfl) :
    PE X (.Call (.Name "isinstance" p) [e, .Name c pc] [] pos) (tOf X.K W E (eIsi cn f)) := by
  refine PE.weak (pe_callB call_isi hg hm (by decide +kernel) (pa_cons he (pa_cons (pe_bltn (v := .ty cn) hgc hmc hvc rfl hnc hdc) pa_nil hs2) hse) (by decide) (by decide) hse hpl) fun σ H Q h => ?_
  obtain ⟨F, L, μ, ρ, res, hr, hs, hf, hp⟩ := h
  have hf : bE (f ρ μ) (fun s μ1 => match s with | .d d => (match tyD d with | some t => some (.ok (.d (.bl (isiB t cn))) μ1) | none => none) | _ => none) = some res := by
    rw [← hf]
    unfold bE eIsi
    cases f ρ μ with
    | none => rfl
    | some ra => cases ra with
      | ex => rfl
      | ok s μ1 => cases s <;> rfl
  show tOf X.K W E f σ H _
  refine tOf_ok hr hs hf hp fun s v μ1 F1 H1 L1 hk e1 r1 d1 p1 => ?_
  cases s with
  | un => cases hk
  | m i => cases hk
  | d d =>
    simp only at hk
    cases et : tyD d with
    | none => rw [et] at hk; cases hk
    | some t =>
      rw [et] at hk; cases hk
      refine ⟨v, .ty cn, .type t, .type cn, isiB t cn, rfl, .ty cn, tyX_of r1.sub d1 et, kit_ty (kit_isi hcn (tyD_mem et)), ?_⟩
      exact post_d r1 p1 (.bl _)

/-! ### what a loop walks -/
theorem PI.or {X : Cx} {tg e : Expr} {w1 w2 : TI} (h1 : PI X tg e w1) (h2 : PI X tg e w2) : PI X tg e (fun σ H R => w1 σ H R ∨ w2 σ H R) := ⟨fun pins s σ H R I h => by
  rcases h with h | h
  · exact h1.run pins s σ H R I h
  · exact h2.run pins s σ H R I h⟩
def iSeq (f : EF) : IF := fun ρ μ => match f ρ μ with
  | some (.ok s μ1) => (match viewT s with
    | some ds => some (.ok ds μ1)
    | none => match s with
      | .d (.lst ds) => some (.ok ds μ1)
      | .d (.scr ns) => some (.ok (ns.map .int) μ1)
      | _ => none)
  | some (.ex x μ1) => some (.ex x μ1)
  | none => none
theorem walkD_list {F H0 : Hp} {a : Addr} {xs : List V} {ds : List D} (h : SqL K F a xs) (hd : DenL K F xs ds) : WalkD K F (Itl K a) ds := fun H hl => by
  have hq := Le.seqL hl h
  have w := walk_list (K := K) (a := a) (xs := xs)
  have e := hd.length
  refine ⟨fun i hi => w.goes i H (by rw [e]; exact hi) hq, by rw [← e]; exact w.stops H hq, fun i x H' d hdi y => ?_⟩
  obtain ⟨v, h1, h2⟩ := hd.get hdi
  obtain ⟨y1, y2⟩ := w.yields i H x H' (List.getElem?_eq_some_iff.mp h1).1 hq y
  rw [h1] at y2; cases y2
  exact .inl ⟨y1, h2⟩
theorem walkD_tup {F H0 : Hp} {a : Addr} {xs : List V} {ds : List D} (h : SqT K F a xs) (hd : DenL K F xs ds) : WalkD K F (Itt K a) ds := fun H hl => by
  have hq := Le.seqT hl h
  have w := walk_tup (K := K) (a := a) (xs := xs)
  have e := hd.length
  refine ⟨fun i hi => w.goes i H (by rw [e]; exact hi) hq, by rw [← e]; exact w.stops H hq, fun i x H' d hdi y => ?_⟩
  obtain ⟨v, h1, h2⟩ := hd.get hdi
  obtain ⟨y1, y2⟩ := w.yields i H x H' (List.getElem?_eq_some_iff.mp h1).1 hq y
  rw [h1] at y2; cases y2
  exact .inl ⟨y1, h2⟩
theorem q_iseq {X : Cx} {tg e : Expr} {f : EF} (he : PE X e (tOf X.K W E f)) : PI X tg e (iOf X.K W E (iSeq f)) := by
  refine PI.weak (PI.or (pi_list he) (pi_tup he)) fun σ H R h => ?_
  obtain ⟨F, L, μ, ρ, res, hr, hs, hf, hp⟩ := h
  unfold iSeq at hf
  cases ea : f ρ μ with
  | none => rw [ea] at hf; cases hf
  | some ra =>
    rw [ea] at hf
    cases ra with
    | ex x μ1 => cases hf; exact .inl ⟨F, L, μ, ρ, _, hr, hs, ea, hp⟩
    | ok s μ1 =>
      simp only at hf
      cases ev : viewT s with
      | some ds =>
        rw [ev] at hf; cases hf
        refine .inr ⟨F, L, μ, ρ, _, hr, hs, ea, fun v F1 H1 L1 e1 r1 d1 n1 => ?_⟩
        obtain ⟨a, xs, rfl, fa, ha, da⟩ := viewT_ok r1 d1 ev
        exact ⟨a, rfl, ⟨xs, ha⟩, hp _ F1 H1 L1 e1 r1 (walkD_tup (H0 := H1) fa da)⟩
      | none =>
        rw [ev] at hf
        cases s with
        | un => cases hf
        | m i => cases hf
        | d d =>
          cases d with
          | lst ds =>
            cases hf
            refine .inl ⟨F, L, μ, ρ, _, hr, hs, ea, fun v F1 H1 L1 e1 r1 d1 n1 => ?_⟩
            cases d1 with
            | lst h1 h2 => exact ⟨_, rfl, ⟨_, SqL.of (r1.sub _ _ h1)⟩, hp _ F1 H1 L1 e1 r1 (walkD_list (H0 := H1) (SqL.of h1) h2)⟩
          | scr ns =>
            cases hf
            refine .inl ⟨F, L, μ, ρ, _, hr, hs, ea, fun v F1 H1 L1 e1 r1 d1 n1 => ?_⟩
            cases d1 with
            | scr h1 => exact ⟨_, rfl, ⟨_, Le.seqL r1.sub h1⟩, hp _ F1 H1 L1 e1 r1 (walkD_list (H0 := H1) h1 (DenL.of_ints _))⟩
          | _ => cases hf
def iRg (fa : Option EF) (fb : EF) : IF := fun ρ μ => match fa with
  | none => (match fb ρ μ with
    | some (.ok (.d (.int j)) μ1) => if 0 ≤ j ∧ j ≤ 2 ^ 61 then some (.ok ((rgI 0 j).map .int) μ1) else none
    | some (.ex x μ1) => some (.ex x μ1)
    | _ => none)
  | some fa => (match fa ρ μ with
    | some (.ok (.d (.int i)) μ1) => (match fb ρ μ1 with
      | some (.ok (.d (.int j)) μ2) => if 0 ≤ i ∧ i ≤ 2 ^ 61 ∧ 0 ≤ j ∧ j ≤ 2 ^ 61 then some (.ok ((rgI i j).map .int) μ2) else none
      | some (.ex x μ2) => some (.ex x μ2)
      | _ => none)
    | some (.ex x μ1) => some (.ex x μ1)
    | _ => none)
theorem rgI_length (a b : Int) : (rgI a b).length = (b - a).toNat := by unfold rgI; simp
theorem rgI_get {a b : Int} {i : Nat} {x : Int} (h : (rgI a b)[i]? = some x) : x = a + i := by
  unfold rgI at h
  rw [List.getElem?_map] at h
  cases e : (List.range (b - a).toNat)[i]? with
  | none => rw [e] at h; cases h
  | some j =>
    rw [e] at h
    obtain ⟨h1, h2⟩ := List.getElem?_eq_some_iff.mp e
    have h3 : j = i := by rw [← h2, List.getElem_range]
    subst h3
    exact (Option.some.inj h).symm
theorem walkD_rg {F : Hp} (a b : Int) : WalkD K F (Itr a (b - a).toNat) ((rgI a b).map .int) := fun H hl => by
  have hlen : ((rgI a b).map D.int).length = (b - a).toNat := by rw [List.length_map, rgI_length]
  refine ⟨fun i hi => by rw [hlen] at hi; exact hi, by rw [hlen]; exact Nat.le_refl _, fun i x H' d hd y => ?_⟩
  obtain ⟨y1, y2⟩ := y
  rw [List.getElem?_map] at hd
  cases e : (rgI a b)[i]? with
  | none => rw [e] at hd; cases hd
  | some z =>
    rw [e] at hd
    have hz := rgI_get e
    subst hz
    cases hd
    subst y2
    exact .inl ⟨y1, .int _⟩
theorem q_irg1 {X : Cx} {tg a : Expr} {f : EF} {p pos : Pos} (hm : X.mg "range" = none) (ha : PE X a (tOf X.K W E f)) (hg : Gl X "range" := by rfl) (hs : starEach [a] X.env = [(false, eval a X.env)] := by rfl) (hs' : starEach (a :: []) X.env = (false, eval a X.env) :: starEach [] X.env := by rfl) : PI X tg (.Call (.Name "range" p) [a] [] pos) (iOf X.K W E (iRg none f)) := by
  refine PI.weak (pi_range1 hg hm (pa_cons ha pa_nil hs') hs) fun σ H R h => ?_
  obtain ⟨F, L, μ, ρ, res, hr, hs, hf, hp⟩ := h
  unfold iRg at hf
  simp only at hf
  show tOf X.K W E f σ H _
  cases ea : f ρ μ with
  | none => rw [ea] at hf; cases hf
  | some ra =>
    rw [ea] at hf
    refine ⟨F, L, μ, ρ, ra, hr, hs, ea, ?_⟩
    cases ra with
    | ex x μ1 => cases hf; exact hp
    | ok s μ1 =>
      intro v F1 H1 L1 e1 r1 d1 n1
      cases s with
      | un => cases hf
      | m i => cases hf
      | d d =>
        cases d with
        | int j =>
          simp only at hf
          by_cases hj : 0 ≤ j ∧ j ≤ 2 ^ 61
          · rw [if_pos hj] at hf; cases hf
            cases d1
            refine ⟨j, rfl, by omega, by omega, hp _ F1 H1 L1 e1 r1 ?_⟩
            have := walkD_rg (K := X.K) (F := F1) 0 j
            rwa [Int.sub_zero] at this
          · rw [if_neg hj] at hf; cases hf
        | _ => cases hf
theorem q_irg2 {X : Cx} {tg a b : Expr} {fa fb : EF} {p pos : Pos} (hm : X.mg "range" = none) (ha : PE X a (tOf X.K W E fa)) (hb : PE X b (tOf X.K W E fb)) (hg : Gl X "range" := by rfl) (hs : starEach [a, b] X.env = [(false, eval a X.env), (false, eval b X.env)] := by rfl) (hs2 : starEach [b] X.env = [(false, eval b X.env)] := by rfl)
    (hsa : starEach (a :: [b]) X.env = (false, eval a X.env) :: starEach [b] X.env := by rfl) (hsb : starEach (b :: []) X.env = (false, eval b X.env) :: starEach [] X.env := by rfl) : PI X tg (.Call (.Name "range" p) [a, b] [] pos) (iOf X.K W E (iRg (some fa) fb)) := by
  refine PI.weak (pi_range2 hg hm (pa_cons ha (pa_cons hb pa_nil hsb) hsa) hs hs2) fun σ H R h => ?_
  obtain ⟨F, L, μ, ρ, res, hr, hs, hf, hp⟩ := h
  unfold iRg at hf
  simp only at hf
  show tOf X.K W E fa σ H _
  cases ea : fa ρ μ with
  | none => rw [ea] at hf; cases hf
  | some ra =>
    rw [ea] at hf
    refine ⟨F, L, μ, ρ, ra, hr, hs, ea, ?_⟩
    cases ra with
    | ex x μ1 => cases hf; exact hp
    | ok s μ1 =>
      intro v F1 H1 L1 e1 r1 d1 n1
      cases s with
      | un => cases hf
      | m i => cases hf
      | d d =>
        cases d with
        | int i =>
          simp only at hf
          show tOf X.K W E fb σ H1 _
          cases eb : fb ρ μ1 with
          | none => rw [eb] at hf; cases hf
          | some rb =>
            rw [eb] at hf
            refine ⟨F1, L1, μ1, ρ, rb, r1, hs.mono e1, eb, ?_⟩
            cases rb with
            | ex x μ2 => cases hf; exact PostX.mono e1 hp
            | ok s2 μ2 =>
              intro w F2 H2 L2 e2 r2 d2 n2
              cases s2 with
              | un => cases hf
              | m i => cases hf
              | d d' =>
                cases d' with
                | int j =>
                  simp only at hf
                  by_cases hj : 0 ≤ i ∧ i ≤ 2 ^ 61 ∧ 0 ≤ j ∧ j ≤ 2 ^ 61
                  · rw [if_pos hj] at hf; cases hf
                    cases d1; cases d2
                    exact ⟨i, j, rfl, ⟨by omega, by omega, by omega, by omega⟩, hp _ F2 H2 L2 (e1.trans e2) r2 (walkD_rg i j)⟩
                  · rw [if_neg hj] at hf; cases hf
                | _ => cases hf
        | _ => cases hf
/-- zip of two lists, of two tuples -/
def zipD (ds es : List D) : List D := (ds.zip es).map fun p => .tup [p.1, p.2]
def iZip (fa : AF) : IF := fun ρ μ => match fa ρ μ with
  | some (.ok [s, u] μ1) => (match viewT s, viewT u with
    | some ds, some es => some (.ok (zipD ds es) μ1)
    | _, _ => match s, u with
      | .d (.lst ds), .d (.lst es) => some (.ok (zipD ds es) μ1)
      | _, _ => none)
  | some (.ex x μ1) => some (.ex x μ1)
  | _ => none
theorem zipD_get {ds es : List D} {i : Nat} {d : D} (h : (zipD ds es)[i]? = some d) : ∃ a b, ds[i]? = some a ∧ es[i]? = some b ∧ d = .tup [a, b] := by
  unfold zipD at h
  rw [List.getElem?_map] at h
  cases e : (ds.zip es)[i]? with
  | none => rw [e] at h; cases h
  | some p =>
    rw [e] at h
    obtain ⟨a, b⟩ := p
    rw [List.getElem?_zip_eq_some] at e
    exact ⟨a, b, e.1, e.2, (Option.some.inj h).symm⟩
theorem zipD_length (ds es : List D) : (zipD ds es).length = min ds.length es.length := by unfold zipD; simp
theorem walkD_zip {F : Hp} {a b : Addr} {xs ys : List V} {ds es : List D} (h1 : SqL K F a xs) (h2 : SqL K F b ys) (d1 : DenL K F xs ds) (d2 : DenL K F ys es) : WalkD K F (Itz K a b) (zipD ds es) := fun H hl => by
  have q1 := Le.seqL hl h1
  have q2 := Le.seqL hl h2
  have w := walk_zip (K := K) (a := a) (b := b) (xs := xs) (ys := ys) (n := (zipD ds es).length) (by rw [zipD_length, d1.length, d2.length])
  refine ⟨fun i hi => w.goes i H hi ⟨q1, q2⟩, w.stops H ⟨q1, q2⟩, fun i x H' d hd y => ?_⟩
  obtain ⟨T, u, v, e1, e2, e3, e4, e5⟩ := w.yields i H x H' (List.getElem?_eq_some_iff.mp hd).1 ⟨q1, q2⟩ y
  obtain ⟨p, q, f1, f2, rfl⟩ := zipD_get hd
  obtain ⟨v1, g1, g2⟩ := d1.get f1
  obtain ⟨v2, g3, g4⟩ := d2.get f2
  have e4 : xs[i]? = some u := e4
  have e5 : ys[i]? = some v := e5
  rw [g1] at e4; cases e4
  rw [g3] at e5; cases e5
  exact .inr ⟨T, [u, v], [p, q], e1, e2, e3, rfl, .cons g2 (.cons g4 .nil)⟩
theorem walkD_zipT {F : Hp} {a b : Addr} {xs ys : List V} {ds es : List D} (h1 : SqT K F a xs) (h2 : SqT K F b ys) (d1 : DenL K F xs ds) (d2 : DenL K F ys es) : WalkD K F (RZ.ItzT K a b) (zipD ds es) := fun H hl => by
  have q1 := Le.seqT hl h1
  have q2 := Le.seqT hl h2
  have l1 := d1.length
  have l2 := d2.length
  have hz := zipD_length ds es
  refine ⟨fun i hi => ?_, ⟨xs, ys, q1, q2, by omega⟩, fun i x H' d hd y => ?_⟩
  · have i1 : i < xs.length := by omega
    have i2 : i < ys.length := by omega
    exact ⟨xs, ys, xs[i], ys[i], q1, q2, List.getElem?_eq_getElem i1, List.getElem?_eq_getElem i2⟩
  · obtain ⟨T, u, v, e1, e2, e3, e4, e5⟩ := y
    obtain ⟨p, q, f1, f2, rfl⟩ := zipD_get hd
    obtain ⟨v1, g1, g2⟩ := d1.get f1
    obtain ⟨v2, g3, g4⟩ := d2.get f2
    have e4 := e4 xs q1
    have e5 := e5 ys q2
    rw [g1] at e4; cases e4
    rw [g3] at e5; cases e5
    exact .inr ⟨T, [u, v], [p, q], e1, e2, e3, rfl, .cons g2 (.cons g4 .nil)⟩
theorem q_izip {X : Cx} {e e2 : Expr} {fa : AF} {p pos tpos : Pos} {elts : List Expr} {kk : Nat} (hm : X.mg "zip" = none) (ha : PA X [e, e2] (aOf X.K W E fa)) (hg : Gl X "zip" := by rfl)
    (hs : starEach [e, e2] X.env = (false, eval e X.env) :: starEach [e2] X.env := by rfl) (hpl : (backTo pos (starEach [e2] X.env)).any (·.1) = false := by rfl) : PI X (.Tuple elts kk tpos) (.Call (.Name "zip" p) [e, e2] [] pos) (iOf X.K W E (iZip fa)) := by
  refine PI.weak (RZ.pi_zipA hg hm ha hs hpl) fun σ H R h => ?_
  obtain ⟨F, L, μ, ρ, res, hr, hs, hf, hp⟩ := h
  unfold iZip at hf
  show aOf X.K W E fa σ H _
  cases ea : fa ρ μ with
  | none => rw [ea] at hf; cases hf
  | some ra =>
    rw [ea] at hf
    refine ⟨F, L, μ, ρ, ra, hr, hs, ea, ?_⟩
    cases ra with
    | ex x μ1 => cases hf; exact hp
    | ok ss μ1 =>
      intro vs F1 H1 L1 e1 r1 d1
      match ss, d1, hf with
      | [s, u], .cons d1 (.cons d2 .nil), hf =>
        simp only at hf
        split at hf
        · rename_i ds es f1 f2
          cases hf
          obtain ⟨a, xs, rfl, fa1, ha, da⟩ := viewT_ok r1 d1 f1
          obtain ⟨b, ys, rfl, fb1, hb, db⟩ := viewT_ok r1 d2 f2
          exact ⟨a, b, xs, ys, rfl, .inr ⟨ha, hb, hp _ F1 H1 L1 e1 r1 (walkD_zipT fa1 fb1 da db)⟩⟩
        · split at hf
          · cases hf
            cases d1 with
            | lst h1 h2 =>
              cases d2 with
              | lst h3 h4 =>
                exact ⟨_, _, _, _, rfl, .inl ⟨SqL.of (r1.sub _ _ h1), SqL.of (r1.sub _ _ h3), hp _ F1 H1 L1 e1 r1 (walkD_zip (SqL.of h1) (SqL.of h3) h2 h4)⟩⟩
          · cases hf
end
end DL
end

section
set_option Elab.async false
set_option linter.all false
set_option maxRecDepth 100000
set_option maxHeartbeats 4000000
/-! DLops3: sorting, sets, appends, stores, more forms. -/
namespace DL
open PySem PySem.Spec PyProof.Rows L2

theorem roomU65 {k : Nat} {A : Around} (r : Room k A) : A.units + 65 < cLine := by
  have h := r.un
  omega
theorem _root_.L2.Room.u65 {k : Nat} {A : Around} (r : L2.Room k A) : A.units + 65 < cLine := roomU65 r
/-- where a def stands behind the top -/
structure St0 (K : PySem.W.Frag) (mg : Str → Option Value) (x : Str) (st : Stmt) : Prop where
  ex : ∃ f fd, mg x = some (.ref f) ∧ Fun K x x st f fd
section
variable {X : Cx} {W : Wd} {E : XK}
theorem qt_chain {op op' : CmpOp} {r r' : R2} {g g' : G2} {a b c : Expr} {fa fb fc : EF} {pos : Pos} (ho : OpR X (compareOp op) r) (hg : Op2 X.K W E r g) (ho' : OpR X (compareOp op') r') (hg' : Op2 X.K W E r' g') (ha : PE X a (tOf X.K W E fa)) (hb : PE X b (tOf X.K W E fb)) (hc : PE X c (tOf X.K W E fc)) (hm : lastMarks [op, op'] [b, c] = false := by rfl) :
    PT X (.Compare a [op, op'] [b, c] pos) (bOf X.K W E (tst (eChain g g' fa fb fc))) :=
  PT.weak (pt_chain ho ho' ha hb hc hm) fun _ _ _ h => tTest_of (fun _ _ _ h => tChain_of hg hg' h) h
/-- -x -/
def eNeg (f : EF) : EF := fun ρ μ => match f ρ μ with
  | some (.ok (.d (.int i)) μ1) => some (.ok (.d (.int (-i))) μ1)
  | some (.ex x μ1) => some (.ex x μ1)
  | _ => none
theorem eNeg_eq (f : EF) (ρ : List S) (μ : List MO) : eNeg f ρ μ = bE (f ρ μ) fun s μ1 => match s with | .d (.int i) => some (.ok (.d (.int (-i))) μ1) | _ => none := by
  unfold eNeg bE
  cases f ρ μ with
  | none => rfl
  | some ra => cases ra with
    | ex => rfl
    | ok s μ1 => cases s with
      | d d => cases d <;> rfl
      | _ => rfl
theorem q_neg {a : Expr} {f : EF} {pos : Pos} (ha : PE X a (tOf X.K W E f)) : PE X (.UnaryOp .USub a pos) (tOf X.K W E (eNeg f)) := by
  refine PE.weak (pe_un un_neg ha) fun σ H Q h => ?_
  obtain ⟨F, L, μ, ρ, res, hr, hs, hf, hp⟩ := h
  rw [eNeg_eq] at hf
  show tOf X.K W E f σ H _
  refine tOf_ok hr hs hf hp fun s v μ1 F1 H1 L1 hk e1 r1 d1 p1 => ?_
  split at hk
  · cases hk; cases d1
    exact ⟨_, rfl, post_d r1 p1 (.int _)⟩
  · cases hk
/-- return -/
def sRetN : SF := fun _ μ => some (.ret (.d .non) μ)
theorem qs_retN {pos : Pos} : PS X (.Return none pos) (sOf X.K W E sRetN) := PS.weak ps_retN fun D σ H q => by
  obtain ⟨F, L, μ, ρ, r, hr, hs, hf, hp⟩ := q
  cases hf
  exact hp .non F H L .refl hr .non (by simp)
theorem qs_pass {pos : Pos} : PS X (.Pass pos) (sOf X.K W E sNx) := PS.weak ps_pass fun D σ H q => by
  obtain ⟨F, L, μ, ρ, r, hr, hs, hf, hp⟩ := q
  cases hf
  exact hp σ F H L .refl hr hs
/-- a, b, c = x, y, z -/
def sPar3 (i j l : Nat) (f : AF) : SF := fun ρ μ => match f ρ μ with
  | some (.ok [s, u, z] μ1) => some (.nx (((ρ.set i s).set j u).set l z) μ1)
  | some (.ex x μ1) => some (.ex x μ1)
  | _ => none
theorem qs_par3 {i j l : Nat} {x y z : Str} {a b c : Expr} {f : AF} {px py pz pt pos : Pos} {kt k2 pt2} (hc : X.calm = true) (hN : X.N.Nodup) (ha : PA X [a, b, c] (aOf X.K W E f)) (hi : X.N[i]? = some x := by rfl) (hj : X.N[j]? = some y := by rfl) (hl : X.N[l]? = some z := by rfl) (hij : i ≠ j := by decide) (hil : i ≠ l := by decide) (hjl : j ≠ l := by decide)
    (hx : X.env.scope.names.lookup x = some .local := by rfl) (hy : X.env.scope.names.lookup y = some .local := by rfl) (hz : X.env.scope.names.lookup z = some .local := by rfl)
    (hw : swappedStores [.Tuple [.Name x px, .Name y py, .Name z pz] kt pt] (.Tuple [a, b, c] k2 pt2) X.env = pure (some [x, y, z]) := by rfl)
    (hs : swapsWithSole [.Tuple [.Name x px, .Name y py, .Name z pz] kt pt] (.Tuple [a, b, c] k2 pt2) pos.line X.env = pure false := by rfl) :
    PS X (.Assign [.Tuple [.Name x px, .Name y py, .Name z pz] kt pt] (.Tuple [a, b, c] k2 pt2) pos) (sOf X.K W E (sPar3 i j l f)) := by
  refine PS.weak (ps_par3 hc hN hi hj hl hij hil hjl hx hy hz ha hw hs) fun D σ H q => ?_
  obtain ⟨F, L, μ, ρ, r, hr, hs, hf, hp⟩ := q
  unfold sPar3 at hf
  show aOf X.K W E f σ H _
  cases ea : f ρ μ with
  | none => rw [ea] at hf; cases hf
  | some ra =>
    rw [ea] at hf
    refine ⟨F, L, μ, ρ, ra, hr, hs, ea, ?_⟩
    cases ra with
    | ex x μ1 => cases hf; exact hp
    | ok ss μ1 =>
      intro vs F1 H1 L1 e1 r1 d1
      match ss, d1, hf with
      | [s, u, z], .cons d1 (.cons d2 (.cons d3 .nil)), hf =>
        cases hf
        exact ⟨_, _, _, rfl, hp _ F1 H1 L1 e1 r1 ((((hs.mono e1).set d1 i).set d2 j).set d3 l)⟩

/-! ### append, item stores on lists of this def or an argument -/
def isML : Option MO → Bool
  | some (.ml _) => true
  | _ => false
def eAppend (fo fa : EF) : EF := fun ρ μ => bE (fo ρ μ) fun s μ1 => match s with
  | .m i => if isML μ1[i]? = true then bE (fa ρ μ1) fun u μ2 => (match u, μ2[i]? with
    | .d x, some (.ml ds) => if ds.length < cap then some (.ok (.d .non) (μ2.set i (.ml (ds ++ [x])))) else none
    | _, _ => none) else none
  | _ => none
end
section
variable {X : Cx} {W : Wd} {E : XK}
theorem viewM {K : PySem.W.Frag} {F H : Hp} {L : List Addr} {μ : List MO} {v : V} {i : Nat} {ds : List D} (hr : Rep K W F L μ H) (h : DenS K F L v (.m i)) (e : μ[i]? = some (.ml ds)) : ∃ a xs, v = .ref a ∧ L[i]? = some a ∧ H a = some (.lst xs) ∧ DenL K F xs ds := by
  obtain ⟨a, h1, rfl⟩ := h
  obtain ⟨xs, q1, q2⟩ := hr.obj i a _ h1 e
  exact ⟨a, xs, rfl, h1, q1, q2⟩
theorem setM_ok {K : PySem.W.Frag} {F H : Hp} {L : List Addr} {μ : List MO} {i : Nat} {a : Addr} {xs ys : List V} {es : List D} (hr : Rep K W F L μ H) (hi : L[i]? = some a) (hp : H a = some (.lst xs)) (hd : DenL K F ys es) : Rep K W F L (μ.set i (.ml es)) (upd H a (.lst ys)) :=
  hr.setM hi hp lst_nt lst_nc ⟨ys, upd_same, hd⟩
theorem q_append {o e : Expr} {fo fa : EF} {apos cpos : Pos} (ho : PE X o (tOf X.K W E fo)) (ha : PE X e (tOf X.K W E fa))
    (hbase : attributeBase o "append" X.env (eval o X.env) = eval o X.env := by rfl)
    (hfew : ((backTo cpos (starEach [e] X.env)).all (fun x => !x.1) && (backToKw cpos (keywordEach [] X.env)).all (fun x => x.1.isSome)
      && decide ([e].length + ([] : List Keyword).length + (if ([] : List Keyword).isEmpty then 0 else 1) < 30)) = true := by rfl)
    (hline : (apos.endLine == cpos.line) = true := by rfl) (hs : starEach (e :: []) X.env = (false, eval e X.env) :: starEach [] X.env := by rfl) (hplain : (backTo cpos (starEach [] X.env)).any (·.1) = false := by rfl) : PE X (.Call (.Attribute o "append" apos) [e] [] cpos) (tOf X.K W E (eAppend fo fa)) := by
  refine PE.weak (pe_bm PySem.F.plainAttrs_list PySem.F.slot_list_append PySem.F.type_list_append mt_append ho (pa_cons ha pa_nil hs) hbase hfew hline hs hplain) fun σ H Q h => ?_
  obtain ⟨F, L, μ, ρ, res, hr, hs, hf, hp⟩ := h
  show tOf X.K W E fo σ H _
  refine tOf_ok hr hs hf hp fun s v μ1 F1 H1 L1 hk e1 r1 d1 p1 => ?_
  cases s with
  | un => cases hk
  | d d => cases hk
  | m i =>
    simp only at hk
    by_cases hm : isML μ1[i]? = true
    · rw [if_pos hm] at hk
      have hm' : ∃ ds, μ1[i]? = some (.ml ds) := by
        cases em : μ1[i]? with
        | none => rw [em] at hm; cases hm
        | some o => cases o with
          | ml ds => exact ⟨ds, rfl⟩
          | md ks => rw [em] at hm; cases hm
      obtain ⟨ds0, em⟩ := hm'
      obtain ⟨a, xs, rfl, ha, hx, _⟩ := viewM r1 d1 em
      refine ⟨.inl ⟨rfl, xs, SqL.of hx⟩, ?_⟩
      show tOf X.K W E fa σ H1 _
      refine tOf_ok r1 (hs.mono e1) hk p1 fun u y μ2 F2 H2 L2 hk2 e2 r2 d2 p2 => ?_
      split at hk2
      · rename_i x ds eu
        by_cases hc : ds.length < cap
        · rw [if_pos hc] at hk2; cases hk2
          obtain ⟨a', xs', q0, q1, q2, q3⟩ := viewM r2 (d1.mono e2) eu
          cases q0
          refine ⟨a, xs', y, rfl, rfl, q2, cap_line (by rw [q3.length]; omega), ?_⟩
          exact p2 _ F2 _ L2 (ext_setM r2 q1 lst_nt) (setM_ok r2 q1 q2 (q3.append (.cons d2 .nil))) .non (by simp)
        · rw [if_neg hc] at hk2; cases hk2
      · cases hk2
    · rw [if_neg hm] at hk; cases hk
def sSetItem (f fo fi : EF) : SF := fun ρ μ => bS (f ρ μ) fun u μ1 => bS (fo ρ μ1) fun s μ2 => bS (fi ρ μ2) fun z μ3 => match s, z, u with
  | .m i, .d (.int k), .d x => (match μ3[i]? with
    | some (.ml ds) => (match ixN ds.length k with
      | some j => some (.nx ρ (μ3.set i (.ml (ds.set j x))))
      | none => none)
    | _ => none)
  | _, _, _ => none
theorem qs_setitem {o i e : Expr} {f fo fi : EF} {spos pos : Pos} (he : PE X e (tOf X.K W E f)) (ho : PE X o (tOf X.K W E fo)) (hi : PE X i (tOf X.K W E fi))
    (ha : ∀ v, assign (.Subscript o i spos) X.env v = (do
      let ov ← holding [v] (eval o X.env)
      let iv ← holding [v, ov] (eval i X.env)
      standAt spos
      holding [v, ov, iv] (setItem ov iv v)
      release [v, ov, iv] []) := by intro _; rfl)
    (hs : swapsWithSole [.Subscript o i spos] e pos.line X.env = pure false := by rfl) (hw : swappedStores [.Subscript o i spos] e X.env = pure none := by rfl)
    (h1 : (assignEach [.Subscript o i spos] X.env).map (·.2) = [assign (.Subscript o i spos) X.env] := by rfl) : PS X (.Assign [.Subscript o i spos] e pos) (sOf X.K W E (sSetItem f fo fi)) := by
  refine PS.weak (ps_asg he (pg_sub ho hi set_list ha) hs hw h1) fun D σ H q => ?_
  obtain ⟨F, L, μ, ρ, r, hr, hs, hf, hp⟩ := q
  show tOf X.K W E f σ H _
  refine tS_ok hr hs hf hp fun u y μ1 F1 H1 L1 hk e1 r1 d1 n1 p1 => ?_
  show tOf X.K W E fo σ H1 _
  refine tS_ok r1 (hs.mono e1) hk p1 fun s v μ2 F2 H2 L2 hk2 e2 r2 d2 n2 p2 => ?_
  show tOf X.K W E fi σ H2 _
  refine tS_ok r2 ((hs.mono e1).mono e2) hk2 p2 fun z w μ3 F3 H3 L3 hk3 e3 r3 d3 n3 p3 => ?_
  split at hk3
  · rename_i i k x
    split at hk3
    · rename_i ds em
      split at hk3
      · rename_i j ej
        cases hk3
        obtain ⟨a, xs, rfl, q1, q2, q3⟩ := viewM r3 (d2.mono e3) em
        cases d3
        refine ⟨a, xs, k, j, rfl, rfl, q2, by rw [q3.length]; exact ej, ?_⟩
        exact p3 _ F3 _ L3 (ext_setM r3 q1 lst_nt) (setM_ok r3 q1 q2 (DenL.set (((d1.mono e2).mono e3 : DenS X.K F3 L3 y (.d x))) j q3)) (((hs.mono e1).mono e2).mono e3)
      · cases hk3
    · cases hk3
  · cases hk3
end
end DL
end

section
set_option Elab.async false
set_option linter.all false
set_option maxRecDepth 100000
set_option maxHeartbeats 4000000
/-! DLset: set(..) of lists and tuples of ints, sorted, counted; sorting of sequences. -/
namespace DL
open PySem PySem.Spec PyProof.Rows L2
section
variable {P : Program} {w : World} {A : Around} {E : Value → Shared → Prop} {s : Shared}
/-- the empty set that set() makes -/
abbrev set0 (w : World) : Obj := { cls := .type "set", dict := none, data := .set #[] 0 (.fresh 0 0 (!w.params.followText "set-order")) }
theorem new_set_list {l : Addr} {items : Array Value} (ns : List Int) {Q : Value → Shared → Prop} (hh : A.handled = none) (hl : s.heap.IsList l items) (hit : IntsAre items.toList ns) (hb : ns.length + 1 < scanBound)
    (h : ∀ (h' : Heap) (tk c : Nat), SetR w h' s.heap.objs.size (fun j => decide (j ∈ ns)) c → c ≤ ns.length → (∀ b o, s.heap.get? b = some o → h'.get? b = some o) → Q (.ref s.heap.objs.size) { s with heap := h', toks := tk }) :
    wpAny (model P w) A (call (.type "set") [.ref l]) Q E s := by
  have size_is : items.size = ns.length := by
    have q := IntsAre.length hit
    rwa [Array.length_toList] at q
  obtain ⟨mc, ml, mro⟩ := F.called_set.mro
  have c1 := F.called_set.made
  have c2 := F.called_set.sub
  have c3 := F.called_set.notType
  have c4 := F.called_set.canCreate
  have c5 := F.typeCall_set_1 (.ref l)
  refine wpAny_call (codeAny_of_tree ?_)
  show wpAny _ _ (callAny (.type "set") _) _ _ _
  refine wpAny_pure ⟨Code.quiet_builtin _ (by decide +kernel), codeAny_builtin F.entry_type_call ?_⟩
  rw [Around.under_plain (weight_type_call_type "set" [.ref l] []) rfl]
  repeat (any_goals (first | assumption | wp_step))
  refine codeAny_mono (code_set_led1 (.ref l) (E := E) (Q₁ := fun obj s₁ => obj = .ref s.heap.objs.size ∧ s₁ = { s with heap := s.heap.push (set0 w) }) ⟨rfl, rfl⟩) fun r s₁ hr => ?_
  cases r with
  | error e => exact hr
  | ok fl =>
    cases fl with
    | ret obj =>
      obtain ⟨rfl, rfl⟩ := hr
      have at0 : (s.heap.push (set0 w)).get? s.heap.objs.size = some (set0 w) := Heap.get?_push_size _ rfl
      have ty0 : Shared.TypeIs { s with heap := s.heap.push (set0 w) } (.ref s.heap.objs.size) "set" := ⟨_, at0, rfl⟩
      have i1 := F.called_set.init.lookup
      have i2 := F.called_set.init.bind (.ref s.heap.objs.size)
      repeat (any_goals (first | assumption | wp_step))
      refine codeAny_mono (codeAny_call_builtin (R := wants (fun r s₂ => r = .none ∧ ∃ h' tk c, s₂ = { s with heap := h', toks := tk } ∧ SetR w h' s.heap.objs.size (fun j => decide (j ∈ ns)) c ∧ c ≤ ns.length ∧
          (∀ b o, s.heap.get? b = some o → h'.get? b = some o)) E) F.called_set.init.plain F.entry_set_init (check_set_init_1 ty0 ?_)) fun r₂ s₂ hr₂ => ?_
      · obtain ⟨⟨lc, ld, lx, lsl⟩, hol, hcl, nl, hdl⟩ := hl
        simp only at hcl hdl
        subst hcl; subst hdl
        have hol' : (s.heap.push (set0 w)).get? l = some { cls := .type "list", dict := ld, data := .seq items nl, slots := lsl } := Heap.get?_push_of_some _ hol
        have k1 := F.sub_list_set
        have k2 := F.sub_list_frozenset
        have k3 : (Value.type "list" == Value.type "dict") = false := by decide
        have hl1 : (s.heap.push (set0 w)).IsList l items := ⟨_, hol', rfl, nl, rfl⟩
        have llt : l < s.heap.objs.size := Heap.lt_size hol
        unfold Builtin.«set.__init__» noKeywords Builtin.Frozenset.updateFrom
        generalize hPI : pyIter = PI
        wp_walk
        subst hPI
        refine wpAny_pyIter_list hl1 ?_
        refine wpAny_bind (wpAny_runValue ?_)
        have hh3 : A.in1.in1.in1.handled = none := by simp [hh]
        have z1 : (s.heap.push (set0 w)).objs.size = s.heap.objs.size + 1 := Heap.size_push ..
        have ne1 : l ≠ (s.heap.push (set0 w)).objs.size := by rw [z1]; exact Nat.ne_of_lt (Nat.lt_succ_of_lt llt)
        have nin : s.heap.objs.size ∉ [(s.heap.push (set0 w)).objs.size, l] := by
          rw [z1]; simp only [List.mem_cons, List.not_mem_nil, or_false, not_or]
          exact ⟨Nat.ne_of_lt (Nat.lt_succ_self _), Nat.ne_of_gt llt⟩
        have hval : ∀ (i : Nat) (v : Value), items[i]? = some v → ∃ k t, ns[i]? = some k ∧ v = .int k t := fun i v hv => by
          have hi : i < ns.length := by rw [← size_is]; exact (Array.getElem?_eq_some_iff.mp hv).1
          obtain ⟨t, e⟩ := PyProof.Rows.IntsAre.int_at hit i v (by rw [Array.getElem?_toList]; exact hv)
          refine ⟨ns[i], t, List.getElem?_eq_getElem hi, ?_⟩
          rw [e, List.getD_eq_getElem?_getD, List.getElem?_eq_getElem hi] <;> rfl
        refine set_update_ints ((Walks.list hh3 _ l ne1 items).toS) s.heap.objs.size
          nin ns size_is hb hval (items.size - 0) 0 _ (by omega) (Nat.zero_le _)
          ⟨⟨_, Heap.get?_push_size _ rfl, rfl, rfl⟩, (hl1.push _)⟩ ?c0 ?c1
        case c0 =>
          exact ⟨0, Nat.le_refl 0, setR_new_at (Heap.get?_push_of_some _ at0)⟩
        case c1 =>
          intro s' c' hm hc' hS'
          obtain ⟨h', g2, d', tk', os'⟩ := s'
          have eg : g2 = s.gens := hm.gens
          have ed : d' = s.drawn := hm.drawn
          have eo : os' = s.os := hm.os
          subst eg; subst ed; subst eo
          show wpAny _ _ _ _ _ _
          refine wpAny_pure ?_
          show wpAny _ _ (ret Value.none) _ _ _
          rw [size_is] at hc'
          refine wpAny_pure ⟨rfl, h', tk', c', rfl, hS', hc', fun b o e => ?_⟩
          have hb0 : b < s.heap.objs.size := Heap.lt_size e
          refine hm.heap b o ?_ (Heap.get?_push_of_some _ (Heap.get?_push_of_some _ e))
          simp only [List.mem_cons, List.not_mem_nil, or_false, not_or]
          rw [z1]
          exact ⟨Nat.ne_of_lt hb0, Nat.ne_of_lt (Nat.lt_succ_of_lt hb0)⟩
      · cases r₂ with
        | error e => exact hr₂
        | ok fl₂ =>
          cases fl₂ with
          | ret r =>
            obtain ⟨rfl, h', tk, c', rfl, hS', hc', hk'⟩ := hr₂
            repeat (any_goals (first | assumption | wp_step))
            exact h _ _ _ hS' hc' hk'
          | _ => exact hr₂.elim
    | _ => exact hr.elim
end
end DL
end

section
set_option Elab.async false
set_option linter.all false
set_option maxRecDepth 100000
set_option maxHeartbeats 4000000
namespace DL
open PySem PySem.Spec PyProof.Rows L2
/-! ### sorted lists are unique -/
theorem sorted_uniq {α : Type} {le : α → α → Prop} (anti : ∀ a b, le a b → le b a → a = b) : ∀ {l m : List α}, l.Perm m → l.Pairwise le → m.Pairwise le → l = m
  | [], m, p, _, _ => (List.Perm.nil_eq p)
  | x :: l, m, p, hl, hm => by
    cases m with
    | nil => exact absurd p.length_eq (by simp)
    | cons y m =>
      obtain ⟨l1, l2⟩ := List.pairwise_cons.mp hl
      obtain ⟨m1, m2⟩ := List.pairwise_cons.mp hm
      have hx : x ∈ y :: m := p.mem_iff.mp List.mem_cons_self
      have hy : y ∈ x :: l := p.mem_iff.mpr List.mem_cons_self
      have e : x = y := by
        rcases List.mem_cons.mp hx with e | hx
        · exact e
        · rcases List.mem_cons.mp hy with e | hy
          · exact e.symm
          · exact anti _ _ (l1 _ hy) (m1 _ hx)
      subst e
      rw [sorted_uniq anti (List.perm_cons x |>.mp p) l2 m2]
def sortI (ns : List Int) : List Int := ns.mergeSort fun a b => decide (a ≤ b)
theorem sortI_perm (ns : List Int) : (sortI ns).Perm ns := List.mergeSort_perm _ _
theorem sortI_sorted (ns : List Int) : (sortI ns).Pairwise (· ≤ ·) := by
  have := List.pairwise_mergeSort (le := fun a b : Int => decide (a ≤ b)) (fun a b c h1 h2 => by simp at h1 h2 ⊢; omega) (fun a b => by simp; omega) ns
  exact this.imp fun h => by simpa using h
theorem sortI_eq {ns ns' : List Int} (p : ns'.Perm ns) (h : ns'.Pairwise (· ≤ ·)) : ns' = sortI ns :=
  sorted_uniq (fun a b h1 h2 => Int.le_antisymm h1 h2) (p.trans (sortI_perm ns).symm) h (sortI_sorted ns)
/-- pairs, by their first, then by their second -/
def leP (p q : Int × Int) : Bool := decide (p.1 < q.1) || (decide (p.1 = q.1) && decide (p.2 ≤ q.2))
theorem leP_iff {p q : Int × Int} : leP p q = true ↔ p.1 < q.1 ∨ (p.1 = q.1 ∧ p.2 ≤ q.2) := by simp [leP]
def sortP (ns : List (Int × Int)) : List (Int × Int) := ns.mergeSort leP
theorem sortP_perm (ns : List (Int × Int)) : (sortP ns).Perm ns := List.mergeSort_perm _ _
theorem sortP_sorted (ns : List (Int × Int)) : (sortP ns).Pairwise (fun p q => leP p q = true) :=
  List.pairwise_mergeSort (le := leP) (fun a b c h1 h2 => by rw [leP_iff] at h1 h2 ⊢; omega) (fun a b => by
    have : leP a b = true ∨ leP b a = true := by rw [leP_iff, leP_iff]; omega
    simpa using this) ns
theorem sortP_eq {ns ns' : List (Int × Int)} (p : ns'.Perm ns) (h : ns'.Pairwise (fun p q => leP p q = true)) : ns' = sortP ns :=
  sorted_uniq (fun a b h1 h2 => by
    rw [leP_iff] at h1 h2
    obtain ⟨a1, a2⟩ := a; obtain ⟨b1, b2⟩ := b
    dsimp only at h1 h2
    rw [Prod.mk.injEq]
    omega) (p.trans (sortP_perm ns).symm) h (sortP_sorted ns)

/-! ### sorted(xs), xs a list or a tuple -/
section
variable {P : Program} {w : World} {A : Around} {E : Value → Shared → Prop} {s : Shared}
/-- a list's or tuple's items stand at l -/
def SeqAtV (h : Heap) (l : Addr) (vs : List Value) : Prop := ∃ o n, h.get? l = some o ∧ (o.cls = .type "list" ∨ o.cls = .type "tuple") ∧ o.data = .seq vs.toArray n
theorem collect_seq {l : Addr} {vs : List Value} {Q : List Value → Shared → Prop} (hl : SeqAtV s.heap l vs) (hz : vs.length ≤ sizeLine)
    (h : Q vs { s with heap := (s.heap.push (seqObj "list" #[] 0)).update s.heap.objs.size (Obj.mapSeq (· ++ vs.toArray)) }) : wpAny (model P w) A (collect (.ref l)) Q E s := by
  obtain ⟨o, n, ho, hc, hd⟩ := id hl
  unfold collect
  refine wpAny_bind (wpAny_runValue (codeAny_builtin entry_proto_collect' ?_))
  show wpAny _ _ (do again (.builtin "list.__iadd__" ⟨[← newList [], .ref l], []⟩)) _ _ s
  refine wpAny_bind (wpAny_newList (wpAny_pure ⟨Code.quiet_builtin _ (by decide +kernel), codeAny_builtin entry_list_iadd' ?_⟩))
  show wpAny _ _ (Builtin.List.listExtendWith (.ref s.heap.objs.size) (.ref l) (.ref s.heap.objs.size)) _ _ { s with heap := s.heap.push (seqObj "list" #[] 0) }
  unfold Builtin.List.listExtendWith
  have old : (s.heap.push (seqObj "list" #[] 0)).get? l = some o := Heap.get?_push_of_some _ ho
  obtain ⟨T, hT, hTT⟩ : ∃ T, o.cls = .type T ∧ (Value.type T == Value.type "list" || Value.type T == Value.type "tuple") = true := by
    rcases hc with e | e
    · exact ⟨_, e, by decide⟩
    · exact ⟨_, e, by decide⟩
  refine wpAny_bind (wpAny_typeOf (T := T) ⟨o, old, hT⟩ ?_)
  rw [if_pos (by rw [Bool.or_assoc, hTT, Bool.or_true])]
  refine wpAny_bind (listItems_at old hd ?_)
  refine wpAny_bind (listItems_at (xs := #[]) (n := 0) (Heap.get?_push_size _ rfl) rfl ?_)
  rw [if_neg (by simp)]
  refine wpAny_bind (listUpdate_at (xs := #[]) (n := 0) (Heap.get?_push_size _ rfl) rfl ?_ (Nat.zero_le _) (by show (#[] ++ vs.toArray).size ≤ sizeLine + 1; simp only [Array.size_append, List.size_toArray, List.length_nil]; omega))
  refine wpAny_pure ?_
  show wpAny (model P w) A (do
      let o ← load s.heap.objs.size
      match o.data with
      | .seq xs _ => pure xs.toList
      | _ => unsupported "internal:collect") Q E { s with heap := (s.heap.push (seqObj "list" #[] 0)).update s.heap.objs.size (Obj.mapSeq (· ++ vs.toArray)) }
  refine wpAny_bind (wpAny_load (get?_update_seq (Heap.get?_push_size _ rfl) _) ?_)
  show wpAny _ _ (pure ((#[] : Array Value) ++ vs.toArray).toList) Q E _
  rw [show ((#[] : Array Value) ++ vs.toArray).toList = vs by simp]
  exact wpAny_pure h
theorem sorted_seq {l : Addr} {vs : List Value} {ltv : Value → Value → Bool} {Q : Value → Shared → Prop} (O : SrtO.Swo ltv) (hl : SeqAtV s.heap l vs) (hz : vs.length ≤ sizeLine)
    (hS : 2 ≤ vs.length → ∀ (h₁ : Heap) (a : Addr), h₁.get? a = some (seqObj "list" vs.toArray 0) → (∀ b o, s.heap.get? b = some o → b ≠ a ∧ h₁.get? b = some o) → SrtO.SortableO P w A.in1.in1 { s with heap := h₁ } a vs ltv)
    (h : ∀ out : List Value, SrtO.Srtd ltv out → SrtO.Stb ltv out vs → Q (.ref (s.heap.objs.size + 1)) { s with heap := sortedAll s.heap vs out.toArray }) :
    wpAny (model P w) A (call (.builtin "sorted") [.ref l]) Q E s := by
  refine Calls.call_function_entry kind_sorted plain_sorted entry_sorted (args_sorted1 _) ?_
  unfold Builtin.«sorted»
  refine wpAny_bind (m := checkCount "sorted" 1 1 _) (wpAny_pure ?_)
  refine wpAny_bind (collect_seq hl hz ?_)
  refine wpAny_bind (wpAny_newList ?_ hz)
  have z1 : ((s.heap.push (seqObj "list" #[] 0)).update s.heap.objs.size (Obj.mapSeq (· ++ vs.toArray))).objs.size = s.heap.objs.size + 1 := by
    rw [Heap.size_update, size_push']
  have at1 : (((s.heap.push (seqObj "list" #[] 0)).update s.heap.objs.size (Obj.mapSeq (· ++ vs.toArray))).push (seqObj "list" vs.toArray 0)).get? (s.heap.objs.size + 1) = some (seqObj "list" vs.toArray 0) := by
    rw [← z1]; exact Heap.get?_push_size _ rfl
  have stays : ∀ b o, s.heap.get? b = some o → b ≠ s.heap.objs.size + 1 ∧ (((s.heap.push (seqObj "list" #[] 0)).update s.heap.objs.size (Obj.mapSeq (· ++ vs.toArray))).push (seqObj "list" vs.toArray 0)).get? b = some o := fun b o q => by
    have lt : b < s.heap.objs.size := Heap.lt_size q
    refine ⟨Nat.ne_of_lt (Nat.lt_succ_of_lt lt), Heap.get?_push_of_some _ ?_⟩
    rw [Heap.get?_update_ne _ _ _ _ (Nat.ne_of_lt lt)]
    exact Heap.get?_push_of_some _ q
  show wpAny _ _ _ _ _ { s with heap := ((s.heap.push (seqObj "list" #[] 0)).update s.heap.objs.size (Obj.mapSeq (· ++ vs.toArray))).push (seqObj "list" vs.toArray 0) }
  rw [z1]
  refine wpAny_bind (wpAny_holding (wpAny_call_entry slot_list_sort ⟨_, at1, rfl⟩ entry_list_sort (SrtO.list_sort_ord O at1 hz (fun h2 => hS h2 _ _ at1 stays) fun out hs hb => ⟨_, rfl, ?_⟩) (args_list_sort _)))
  exact wpAny_pure ⟨_, rfl, h out hs hb⟩
end
section
variable {X : Cx}
theorem seqAtV {pins : List (Addr × Obj)} {σ : _root_.L2.St} {H : Hp} {s : Shared} {a : Addr} {xs : List V} (I : Inv X pins σ H s) (h : SqL X.K H a xs ∨ SqT X.K H a xs) : ∃ its : List Value, Vals xs its ∧ SeqAtV s.heap a its ∧ xs.length ≤ sizeLine := by
  rcases h with h | h
  · obtain ⟨its, r, pl, hz⟩ := I.list h
    obtain ⟨o, ho, hc, n, hd⟩ := pl.isList
    exact ⟨its, r, ⟨o, n, ho, .inl hc, hd⟩, hz⟩
  · obtain ⟨its, r, ⟨o, ho, hc, n, hd⟩, hz⟩ := I.tuple h
    exact ⟨its, r, ⟨o, n, ho, .inr hc, hd⟩, hz⟩
def rSortedI2 (K : PySem.W.Frag) : List V → Hp → VK → Prop := fun vs H Q => ∃ (a : Addr) (ns : List Int), vs = [V.ref a] ∧ (SqL K H a (ns.map V.int) ∨ SqT K H a (ns.map V.int)) ∧
  ∀ p : Addr, H p = none → Q (.ref p) (upd H p (.lst ((sortI ns).map V.int)))
theorem cr_sortedI2 : CallR X (.builtin "sorted") (rSortedI2 X.K) := by
  intro pins s σ H vs us Q I r h
  obtain ⟨a, ns, rfl, hs, q⟩ := h
  obtain ⟨its, rv, hl, hz⟩ := seqAtV I hs
  rw [Vals.ref1 r]
  have hi := rv.ints
  refine sorted_seq SrtO.swo_int hl (by rw [← rv.length]; exact hz) (fun h2 h₁ a' _ _ => SrtO.ints_sortable hi h2) fun out h1 h2 => ?_
  obtain ⟨k1, k2, k3⟩ := SrtO.ints_out hi h1 h2
  obtain ⟨ep, he'⟩ := PyProof.Rows.sortedAll_at s.heap its out.toArray
  have hlen : ((out.map SrtO.iv).map V.int).length ≤ sizeLine := by
    rw [List.length_map, k2.length_eq]
    rw [List.length_map] at hz
    exact hz
  have hq := q (s.heap.objs.size + 1) (I.hok.fresh (Nat.le_succ _))
  rw [← sortI_eq k2 k3] at hq
  exact ⟨.ref _, upd H (s.heap.objs.size + 1) (.lst ((out.map SrtO.iv).map V.int)), I.laid (t' := s.toks) (fun _ _ => PyProof.Rows.sortedAll_old) (Nat.le_succ _) ⟨hlen, out, ep, vals_of_ints k1, he'⟩, rfl, hq⟩
/-- what a raw value is as a pair of ints, read off the heap -/
def pairAt (h : Heap) : Value → Int × Int
  | .ref a => (match h.get? a with
    | some o => (match o.data with
      | .seq its _ => (SrtO.iv (its.getD 0 .none), SrtO.iv (its.getD 1 .none))
      | _ => (0, 0))
    | none => (0, 0))
  | _ => (0, 0)
def backR : Value → V
  | .ref a => .ref a
  | _ => .non
def fwdR : V → Value
  | .ref a => .ref a
  | _ => .none
def rSortedP2 (K : PySem.W.Frag) : List V → Hp → VK → Prop := fun vs H Q => ∃ (a : Addr) (xs : List V) (ps : List (Int × Int)), vs = [V.ref a] ∧ (SqL K H a xs ∨ SqT K H a xs) ∧ xs.length = ps.length ∧
  (∀ (i : Nat) x p, xs[i]? = some x → ps[i]? = some p → ∃ t, x = .ref t ∧ SqT K H t [.int p.1, .int p.2]) ∧
  ∀ (ys : List V) (f : V → Int × Int) (p : Addr), ys.Perm xs → xs.map f = ps → (ys.map f).Pairwise (fun p q => leP p q = true) → H p = none → Q (.ref p) (upd H p (.lst ys))
theorem refs_back2 : ∀ {xs : List V} {vs : List Value}, Vals xs vs → (∀ x ∈ xs, ∃ t, x = V.ref t) → xs = vs.map backR ∧ (∀ v ∈ vs, ∃ t, v = Value.ref t)
  | _, _, .nil, _ => ⟨rfl, by simp⟩
  | x :: xs, v :: vs, .cons r l, h => by
    obtain ⟨t, rfl⟩ := h x List.mem_cons_self
    cases r
    obtain ⟨h1, h2⟩ := refs_back2 l fun y hy => h y (List.mem_cons_of_mem _ hy)
    refine ⟨by rw [List.map_cons, ← h1]; rfl, fun u hu => ?_⟩
    rcases List.mem_cons.mp hu with rfl | hu
    · exact ⟨t, rfl⟩
    · exact h2 u hu
theorem vals_back2 : ∀ {vs : List Value}, (∀ v ∈ vs, ∃ t, v = Value.ref t) → Vals (vs.map backR) vs
  | [], _ => .nil
  | v :: vs, h => by
    obtain ⟨t, rfl⟩ := h v List.mem_cons_self
    exact .cons (show RelV (.ref t) (.ref t) from rfl) (vals_back2 fun y hy => h y (List.mem_cons_of_mem _ hy))
theorem cr_sortedP2 : CallR X (.builtin "sorted") (rSortedP2 X.K) := by
  intro pins s σ H vs us Q I r h
  obtain ⟨a, xs, ps, rfl, hs, hlen, hx, q⟩ := h
  obtain ⟨its, rv, hl, hz⟩ := seqAtV I hs
  rw [Vals.ref1 r]
  obtain ⟨e1, e2⟩ := refs_back2 rv fun x m => by
    obtain ⟨i, hi⟩ := List.mem_iff_getElem?.mp m
    have hlt : i < ps.length := by rw [← hlen]; exact (List.getElem?_eq_some_iff.mp hi).1
    obtain ⟨t, e, _⟩ := hx i x ps[i] hi (List.getElem?_eq_getElem hlt)
    exact ⟨t, e⟩
  -- each raw value is its pair
  have pr : ∀ (i : Nat) v p, its[i]? = some v → ps[i]? = some p → Srt.IsPair s.heap v p.1 p.2 ∧ pairAt s.heap v = p := fun i v p hv hp => by
    have hxi : xs[i]? = some (backR v) := by rw [e1, List.getElem?_map, hv]; rfl
    obtain ⟨t, et, hT⟩ := hx i _ p hxi hp
    obtain ⟨t', rfl⟩ := e2 v (List.mem_of_getElem? hv)
    have et : t' = t := V.ref.inj et
    subst et
    obtain ⟨its2, r2, ⟨o, ho, hc, n, hd⟩, _⟩ := I.tuple hT
    cases r2 with
    | cons ra l1 => cases l1 with
      | cons rb l2 =>
        cases l2
        obtain ⟨t1, rfl⟩ := ra
        obtain ⟨t2, rfl⟩ := rb
        refine ⟨⟨t', o, t1, t2, n, rfl, ho, hc, hd⟩, ?_⟩
        unfold pairAt
        simp only [ho, hd]
        rfl
  have lenv : its.length = ps.length := by rw [← hlen]; exact rv.length.symm
  have prs : ∀ v ∈ its, Srt.IsPair s.heap v (pairAt s.heap v).1 (pairAt s.heap v).2 := fun v hv => by
    obtain ⟨i, hi⟩ := List.mem_iff_getElem?.mp hv
    have hlt : i < ps.length := by rw [← lenv]; exact (List.getElem?_eq_some_iff.mp hi).1
    obtain ⟨h1, h2⟩ := pr i v ps[i] hi (List.getElem?_eq_getElem hlt)
    rw [h2]; exact h1
  have hmap : its.map (pairAt s.heap) = ps := by
    apply List.ext_getElem?
    intro i
    rw [List.getElem?_map]
    cases hv : its[i]? with
    | none =>
      have : ps.length ≤ i := by rw [← lenv]; exact List.getElem?_eq_none_iff.mp hv
      rw [List.getElem?_eq_none this]; rfl
    | some v =>
      have hlt : i < ps.length := by rw [← lenv]; exact (List.getElem?_eq_some_iff.mp hv).1
      rw [List.getElem?_eq_getElem hlt, Option.map_some, (pr i v ps[i] hv (List.getElem?_eq_getElem hlt)).2]
  refine sorted_seq (SrtO.swo_lex (pairAt s.heap)) hl (by rw [← rv.length]; exact hz) (fun h2 h₁ a' ha kk => ?_) fun out h1 h2 => ?_
  · refine SrtO.pairs_sortableO (s := { s with heap := h₁ }) (by omega) (fun v hm => (prs v hm).keeps fun b o e _ => (kk b o e).2) fun o e => ?_
    have e' : some o = some (seqObj "list" its.toArray 0) := e.symm.trans ha
    cases e'
    intro c
    exact absurd (Value.type.inj c) (by decide)
  · obtain ⟨n, hn⟩ := PyProof.Rows.sortedAll_at s.heap its out.toArray
    have h3 : ∀ u ∈ out, ∃ a, u = Value.ref a := fun u hu => e2 u (h2.perm.mem_iff.mp hu)
    have hfb : ∀ u : Value, (∃ a, u = Value.ref a) → (fun x => pairAt s.heap (fwdR x)) (backR u) = pairAt s.heap u := fun u ⟨a, e⟩ => by rw [e]; rfl
    refine ⟨.ref _, upd H (s.heap.objs.size + 1) (.lst (out.map backR)), I.laid (t' := s.toks) (fun _ _ => PyProof.Rows.sortedAll_old) (Nat.le_succ _) ⟨?_, out, n, vals_back2 h3, hn⟩, rfl, q _ (fun x => pairAt s.heap (fwdR x)) _ ?_ ?_ ?_ (I.hok.fresh (Nat.le_succ _))⟩
    · rw [List.length_map, h2.len, ← rv.length]; exact hz
    · rw [e1]; exact h2.perm.map _
    · rw [e1, List.map_map, ← hmap]
      exact List.map_congr_left fun u hu => hfb u (e2 u hu)
    · rw [List.map_map]
      have : out.map ((fun x => pairAt s.heap (fwdR x)) ∘ backR) = out.map (pairAt s.heap) := List.map_congr_left fun u hu => hfb u (h3 u hu)
      rw [this]
      refine List.pairwise_map.mpr (h1.imp fun {x y} hxy => ?_)
      have := SrtO.lexB_no.mp hxy
      rw [leP_iff]
      omega

/-! ### sorted(..) on data -/
def allPairs : List D → Option (List (Int × Int))
  | [] => some []
  | .tup [.int a, .int b] :: r => (allPairs r).map ((a, b) :: ·)
  | _ :: _ => none
def pairD (p : Int × Int) : D := .tup [.int p.1, .int p.2]
theorem allPairs_ok : ∀ {ds : List D} {ps : List (Int × Int)}, allPairs ds = some ps → ds = ps.map pairD
  | [], ns, h => by cases h; rfl
  | d :: r, ns, h => by
    unfold allPairs at h
    split at h
    · rename_i e; cases e
    · rename_i a b r' e
      cases e
      cases e2 : allPairs r with
      | none => rw [e2] at h; cases h
      | some ms => rw [e2] at h; cases h; rw [allPairs_ok e2]; rfl
    · cases h
theorem allPairs_map : ∀ ps : List (Int × Int), allPairs (ps.map pairD) = some ps
  | [] => rfl
  | p :: ps => by
    show (allPairs (ps.map pairD)).map ((p.1, p.2) :: ·) = some (p :: ps)
    rw [allPairs_map ps]; rfl
/-- the items of a list or a tuple -/
def viewS (μ : List MO) (s : S) : Option (List D) := match viewT s with
  | some ds => some ds
  | none => viewL μ s
def gSorted (mk : Bool) : GF := fun ss μ => match ss with
  | [s] => (match viewS μ s with
    | some ds => (match allInts ds with
      | some ns => newL mk ((sortI ns).map .int) μ
      | none => match allPairs ds with
        | some ps => newL mk ((sortP ps).map pairD) μ
        | none => none)
    | none => none)
  | _ => none
variable {K : PySem.W.Frag} {W : Wd} {E : XK}
theorem viewS_ok {F H : Hp} {L : List Addr} {μ : List MO} {v : V} {s : S} {ds : List D} (hr : Rep K W F L μ H) (hd : DenS K F L v s) (h : viewS μ s = some ds) : ∃ a xs, v = .ref a ∧ (SqL K H a xs ∨ SqT K H a xs) ∧ DenL K F xs ds := by
  unfold viewS at h
  split at h
  · rename_i e
    cases h
    obtain ⟨a, xs, rfl, fa, ha, da⟩ := viewT_ok hr hd e
    exact ⟨a, xs, rfl, .inr ha, da⟩
  · obtain ⟨a, xs, rfl, ha, da⟩ := viewL_ok hr hd h
    exact ⟨a, xs, rfl, .inl ha, da⟩
theorem c_sorted : CallR X (.builtin "sorted") (fun vs H Q => rSortedI2 X.K vs H Q ∨ rSortedP2 X.K vs H Q) := CallR.or cr_sortedI2 cr_sortedP2
theorem k_sorted {mk : Bool} : COk K W E (fun vs H Q => rSortedI2 K vs H Q ∨ rSortedP2 K vs H Q) (gSorted mk) := fun F L μ H vs ss res Q hr hd hg hp => by
  unfold gSorted at hg
  split at hg
  · obtain ⟨v, rfl, h⟩ := hd.one
    split at hg
    · rename_i ds ev
      obtain ⟨a, xs, rfl, ha, da⟩ := viewS_ok hr h ev
      split at hg
      · rename_i ns en
        have := allInts_ok en
        subst this
        have := da.ints
        subst this
        exact .inl ⟨a, ns, rfl, ha, fun p np => post_newL hr hg hp np (DenL.of_ints _)⟩
      · split at hg
        · rename_i ps ep
          have := allPairs_ok ep
          subst this
          have hlen : xs.length = ps.length := by rw [da.length, List.length_map]
          refine .inr ⟨a, xs, ps, rfl, ha, hlen, fun i x p hx hp' => ?_, fun ys f p p1 p2 p3 np => ?_⟩
          · obtain ⟨d, hd', hdd⟩ := da.getV hx
            rw [List.getElem?_map, hp'] at hd'
            cases hd'
            cases hdd with
            | tup h1 h2 =>
              have h3 : DenL K F _ ([p.1, p.2].map D.int) := h2
              have := h3.ints
              subst this
              exact ⟨_, rfl, Le.seqT hr.sub h1⟩
          · have q1 : (ys.map f) = sortP ps := by
              refine sortP_eq ?_ p3
              rw [← p2]; exact p1.map f
            rw [← q1] at hg
            refine post_newL hr hg hp np ?_
            have key : ∀ x ∈ xs, Den K F x (pairD (f x)) := fun x hx => by
              obtain ⟨i, hi⟩ := List.mem_iff_getElem?.mp hx
              obtain ⟨d, hd', hdd⟩ := da.getV hi
              rw [← p2, List.getElem?_map, List.getElem?_map, hi] at hd'
              cases hd'
              exact hdd
            have all : ∀ zs : List V, (∀ z ∈ zs, z ∈ xs) → DenL K F zs ((zs.map f).map pairD) := fun zs => by
              induction zs with
              | nil => exact fun _ => .nil
              | cons z zs ih => exact fun hz => .cons (key z (hz z List.mem_cons_self)) (ih fun y hy => hz y (List.mem_cons_of_mem _ hy))
            exact all ys fun y hy => p1.mem_iff.mp hy
        · cases hg
    · cases hg
  · cases hg

/-! ### sorted(set(..)), len(set(..)) of ints -/
/-- without later ones -/
def dedI (ns : List Int) : List Int := ns.foldl (fun acc n => if acc.contains n then acc else acc ++ [n]) []
theorem dedI_go : ∀ (ns acc : List Int), acc.Nodup → (ns.foldl (fun acc n => if acc.contains n then acc else acc ++ [n]) acc).Nodup ∧ ∀ k, k ∈ ns.foldl (fun acc n => if acc.contains n then acc else acc ++ [n]) acc ↔ k ∈ acc ∨ k ∈ ns
  | [], acc, h => ⟨h, by simp⟩
  | n :: ns, acc, h => by
    rw [List.foldl_cons]
    by_cases hc : n ∈ acc
    · have : acc.contains n = true := by simpa using hc
      rw [if_pos this]
      obtain ⟨h1, h2⟩ := dedI_go ns acc h
      refine ⟨h1, fun k => ?_⟩
      rw [h2 k, List.mem_cons]
      constructor
      · rintro (z | z)
        · exact .inl z
        · exact .inr (.inr z)
      · rintro (z | z | z)
        · exact .inl z
        · subst z; exact .inl hc
        · exact .inr z
    · have : ¬ acc.contains n = true := by simpa using hc
      rw [if_neg this]
      obtain ⟨h1, h2⟩ := dedI_go ns (acc ++ [n]) (by
        rw [List.nodup_append]
        refine ⟨h, by simp, fun a ha b hb => ?_⟩
        have : b = n := by simpa using hb
        subst this
        exact fun z => hc (z ▸ ha))
      refine ⟨h1, fun k => ?_⟩
      rw [h2 k, List.mem_cons, List.mem_append, List.mem_singleton]
      constructor
      · rintro ((z | z) | z)
        · exact .inl z
        · exact .inr (.inl z)
        · exact .inr (.inr z)
      · rintro (z | z | z)
        · exact .inl (.inl z)
        · exact .inl (.inr z)
        · exact .inr z
theorem dedI_nodup (ns : List Int) : (dedI ns).Nodup := (dedI_go ns [] List.nodup_nil).1
theorem dedI_mem (ns : List Int) (k : Int) : k ∈ dedI ns ↔ k ∈ ns := by
  exact ((dedI_go ns [] List.nodup_nil).2 k).trans ⟨fun h => h.resolve_left (by simp), .inr⟩
theorem nodup_len : ∀ {l m : List Int}, l.Nodup → m.Nodup → (∀ k, k ∈ l ↔ k ∈ m) → l.length = m.length := fun {l m} h1 h2 h =>
  ((List.perm_ext_iff_of_nodup h1 h2).mpr h).length_eq
theorem set_seq {pins : List (Addr × Obj)} {σ : _root_.L2.St} {H : Hp} {s : Shared} {E' : Value → Shared → Prop} (hc : X.calm = true) (I : Inv X pins σ H s) {l : Addr} {ns : List Int} (hq : SqL X.K H l (ns.map V.int) ∨ SqT X.K H l (ns.map V.int)) (hb : ns.length ≤ 4000) {Q : Value → Shared → Prop}
    (h : ∀ (h' : Heap) (tk c : Nat), SetR X.w h' s.heap.objs.size (fun j => decide (j ∈ ns)) c → c = (dedI ns).length → (∀ b o, s.heap.get? b = some o → h'.get? b = some o) → Q (.ref s.heap.objs.size) { s with heap := h', toks := tk }) :
    wpAny (model X.prog X.w) X.A (call (.type "set") [.ref l]) Q E' s := by
  have cnt : ∀ {h' : Heap} {a : Addr} {c : Nat}, SetR X.w h' a (fun j => decide (j ∈ ns)) c → c = (dedI ns).length := fun {h' a c} R => by
    obtain ⟨o, es, ep, t, ho, hex, hd, g, nd, hm, hb, hf, hn, hr, hl⟩ := R
    have := nodup_len nd (dedI_nodup ns) fun k => by
      rw [← hm k, dedI_mem]; simp
    rw [List.length_map, Array.length_toList] at this
    omega
  have hsb : ns.length + 1 < scanBound := by unfold scanBound; omega
  rcases hq with hq | hq
  · obtain ⟨its, r, pl, hz⟩ := I.list hq
    exact new_set_list (items := its.toArray) ns (I.ok.hd hc) pl.isList (by simpa using r.ints) hsb fun h' tk c R _ k => h h' tk c R (cnt R) k
  · obtain ⟨its, r, pt, hz⟩ := I.tuple hq
    exact call_set_tupI (items := its.toArray) ns (I.ok.hd hc) (show s.heap.IsTuple l its.toArray from pt) (by simpa using r.ints) hsb fun h' tk c R _ k => h h' tk c R (cnt R) k
def tLenSet2 (K : PySem.W.Frag) (ta : TE) : TE := fun σ H Q => ta σ H fun x H1 => ∃ (l : Addr) (ns : List Int), x = .ref l ∧ (SqL K H1 l (ns.map V.int) ∨ SqT K H1 l (ns.map V.int)) ∧ ns.length ≤ 4000 ∧ Q (.int (dedI ns).length) H1
theorem pe_lenSet2 {a : Expr} {ta : TE} {p p2 q pos : Pos} (hc : X.calm = true) (hg : Gl X "len") (hm : X.mg "len" = none) (hg2 : Gl X "set") (hm2 : X.mg "set" = none) (ha : PE X a ta)
    (na : starEach [a] X.env = (false, eval a X.env) :: starEach [] X.env := by rfl) : PE X (.Call (.Name "len" p) [.Call (.Name "set" p2) [a] [] q] [] pos) (tLenSet2 X.K ta) := by
  refine ⟨fun pins s σ H Q I h => ?_⟩
  refine Call_ (ld_blt I hg hm PySem.boot_len ?_)
  refine PyProof.Rows.callWith_builtin1 (PyProof.Rows.args_cons ?_ rfl) rfl rfl
  refine Call_ (ld_blt I hg2 hm2 PyProof.Rows.boot_set ?_)
  refine PyProof.Rows.callWith_type1 (PyProof.Rows.args_cons (thn (ha.run pins s σ H _ I h) fun v s1 ⟨x, H1, I1, r1, q1⟩ => PyProof.Rows.args_nil ?_) na) na rfl
  obtain ⟨l, ns, rfl, hq, hl, q1⟩ := q1
  cases r1
  refine set_seq hc I1 hq hl fun h' tk c R ec hk => ?_
  refine PyProof.Rows.args_nil ?_
  obtain ⟨o, es, ep, t, ho, hex, hd, g, nd, hm3, hb, hf, hn, hr, hl3⟩ := R
  have I2 : Inv X pins σ H1 { s1 with heap := h', toks := tk } := I1.kept fun b o e => hk b o e
  have hlen : es.size = (dedI ns).length := by omega
  have hle : es.size < scanBound := hb
  unfold scanBound at hle
  refine call_len_set ho hex hd hf (by omega) ⟨.int (dedI ns).length, H1, I2.tok _, ⟨_, by rw [hlen]⟩, q1⟩
def tSortedSet2 (K : PySem.W.Frag) (ta : TE) : TE := fun σ H Q => ta σ H fun x H1 => ∃ (l : Addr) (ns : List Int), x = .ref l ∧ (SqL K H1 l (ns.map V.int) ∨ SqT K H1 l (ns.map V.int)) ∧ ns.length ≤ 4000 ∧ (dedI ns).length < 64 ∧ ∀ p, H1 p = none → Q (.ref p) (upd H1 p (.lst ((sortI (dedI ns)).map V.int)))
theorem pe_sortedSet2 {a : Expr} {ta : TE} {p p2 q pos : Pos} (hc : X.calm = true) (hg : Gl X "sorted") (hm : X.mg "sorted" = none) (hg2 : Gl X "set") (hm2 : X.mg "set" = none) (ha : PE X a ta)
    (na : starEach [a] X.env = (false, eval a X.env) :: starEach [] X.env := by rfl) : PE X (.Call (.Name "sorted" p) [.Call (.Name "set" p2) [a] [] q] [] pos) (tSortedSet2 X.K ta) := by
  refine ⟨fun pins s σ H Q I h => ?_⟩
  refine Call_ (ld_blt I hg hm PyProof.Rows.boot_sorted ?_)
  refine PyProof.Rows.callWith_builtin1 (PyProof.Rows.args_cons ?_ rfl) rfl rfl
  refine Call_ (ld_blt I hg2 hm2 PyProof.Rows.boot_set ?_)
  refine PyProof.Rows.callWith_type1 (PyProof.Rows.args_cons (thn (ha.run pins s σ H _ I h) fun v s1 ⟨x, H1, I1, r1, q1⟩ => PyProof.Rows.args_nil ?_) na) na rfl
  obtain ⟨l, ns, rfl, hq, hl, h64, q1⟩ := q1
  cases r1
  refine set_seq hc I1 hq hl fun h' tk c R ec hk => ?_
  refine PyProof.Rows.args_nil ?_
  refine sorted_set (s := { s1 with heap := h', toks := tk }) R (I1.ok.hd hc) (by omega) fun s' p0 out c' ns' kp g1 o1 hsz hp hI pw mem len => ?_
  have hmem : ∀ k, k ∈ ns' ↔ k ∈ dedI ns := fun k => by rw [mem k, dedI_mem]; simp
  have nd' : ns'.Nodup := pw.imp fun {x y} h => Int.ne_of_lt h
  have e : ns' = sortI (dedI ns) := sortI_eq ((List.perm_ext_iff_of_nodup nd' (dedI_nodup ns)).mpr hmem) (pw.imp fun h => Int.le_of_lt h)
  have kall : ∀ b u, s1.heap.get? b = some u → s'.heap.get? b = some u := fun b u e => kp b u (hk b u e)
  have lt0 : s1.heap.objs.size ≤ p0 := Nat.le_trans (Nat.le_of_lt R.lt) hsz
  have J : Inv X pins σ (upd H1 p0 (.lst (ns'.map V.int))) { s1 with heap := s'.heap, gens := s'.gens, drawn := s'.drawn, toks := s'.toks } :=
    I1.call (ch := []) (Un.laid kall lt0 (I1.hok.fresh lt0)) (I1.hok.laid kall lt0 ⟨by rw [List.length_map, len, ec, sizeLine_eq]; omega, out.toList, c', vals_of_ints hI, hp⟩) (by rw [show s'.gens = s1.gens from g1]; exact I1.bare) (fun _ z => nomatch z)
  have es : s' = { s1 with heap := s'.heap, gens := s'.gens, drawn := s'.drawn, toks := s'.toks } := by
    cases s'
    cases o1
    rfl
  rw [es]
  exact ⟨.ref p0, _, J, rfl, by rw [e]; exact q1 p0 (I1.hok.fresh lt0)⟩
def eLenSet (f : EF) : EF := fun ρ μ => bE (f ρ μ) fun s μ1 => match (viewS μ1 s).bind allInts with
  | some ns => if ns.length ≤ 4000 then some (.ok (.d (.int (dedI ns).length)) μ1) else none
  | none => none
def eSortedSet (mk : Bool) (f : EF) : EF := fun ρ μ => bE (f ρ μ) fun s μ1 => match (viewS μ1 s).bind allInts with
  | some ns => if ns.length ≤ 4000 ∧ (dedI ns).length < 64 then newL mk ((sortI (dedI ns)).map .int) μ1 else none
  | none => none
theorem viewIntsS {F H : Hp} {L : List Addr} {μ : List MO} {v : V} {s : S} {ns : List Int} (hr : Rep K W F L μ H) (h : DenS K F L v s) (e : (viewS μ s).bind allInts = some ns) : ∃ a, v = .ref a ∧ (SqL K H a (ns.map V.int) ∨ SqT K H a (ns.map V.int)) := by
  cases ev : viewS μ s with
  | none => rw [ev] at e; cases e
  | some ds =>
    rw [ev] at e
    obtain ⟨a, xs, rfl, ha, da⟩ := viewS_ok hr h ev
    have hd := allInts_ok (show allInts ds = some ns from e)
    subst hd
    rw [da.ints] at ha
    exact ⟨a, rfl, ha⟩
theorem q_lenSet {a : Expr} {f : EF} {p p2 q pos : Pos} (hc : X.calm = true) (hm : X.mg "len" = none) (hm2 : X.mg "set" = none) (ha : PE X a (tOf X.K W E f)) (hg : Gl X "len" := by rfl) (hg2 : Gl X "set" := by rfl)
    (na : starEach [a] X.env = (false, eval a X.env) :: starEach [] X.env := by rfl) : PE X (.Call (.Name "len" p) [.Call (.Name "set" p2) [a] [] q] [] pos) (tOf X.K W E (eLenSet f)) := by
  refine PE.weak (pe_lenSet2 hc hg hm hg2 hm2 ha na) fun σ H Q h => ?_
  obtain ⟨F, L, μ, ρ, res, hr, hs, hf, hp⟩ := h
  show tOf X.K W E f σ H _
  refine tOf_ok hr hs hf hp fun s v μ1 F1 H1 L1 hk e1 r1 d1 p1 => ?_
  split at hk
  · rename_i ns en
    by_cases hl : ns.length ≤ 4000
    · rw [if_pos hl] at hk; cases hk
      obtain ⟨a, rfl, ha⟩ := viewIntsS r1 d1 en
      exact ⟨a, ns, rfl, ha, hl, post_d r1 p1 (.int _)⟩
    · rw [if_neg hl] at hk; cases hk
  · cases hk
theorem q_sortedSet {mk : Bool} {a : Expr} {f : EF} {p p2 q pos : Pos} (hc : X.calm = true) (hm : X.mg "sorted" = none) (hm2 : X.mg "set" = none) (ha : PE X a (tOf X.K W E f)) (hg : Gl X "sorted" := by rfl) (hg2 : Gl X "set" := by rfl)
    (na : starEach [a] X.env = (false, eval a X.env) :: starEach [] X.env := by rfl) : PE X (.Call (.Name "sorted" p) [.Call (.Name "set" p2) [a] [] q] [] pos) (tOf X.K W E (eSortedSet mk f)) := by
  refine PE.weak (pe_sortedSet2 hc hg hm hg2 hm2 ha na) fun σ H Q h => ?_
  obtain ⟨F, L, μ, ρ, res, hr, hs, hf, hp⟩ := h
  show tOf X.K W E f σ H _
  refine tOf_ok hr hs hf hp fun s v μ1 F1 H1 L1 hk e1 r1 d1 p1 => ?_
  split at hk
  · rename_i ns en
    by_cases hl : ns.length ≤ 4000 ∧ (dedI ns).length < 64
    · rw [if_pos hl] at hk
      obtain ⟨a, rfl, ha⟩ := viewIntsS r1 d1 en
      exact ⟨a, ns, rfl, ha, hl.1, hl.2, fun p np => post_newL r1 hk p1 np (DenL.of_ints _)⟩
    · rw [if_neg hl] at hk; cases hk
  · cases hk
end
end DL
end

section
set_option Elab.async false
set_option linter.all false
set_option maxRecDepth 100000
set_option maxHeartbeats 4000000
namespace DL
open PySem PySem.Spec PyProof.Rows L2
/-! ### xs[::-1] -/
section
variable {P : Program} {w : World} {A : Around} {E : Value → Shared → Prop} {s : Shared}
theorem rev_pick {α : Type} (items : Array α) : ((List.range items.size).filterMap fun (k : Nat) => items[(((items.size : Int) - 1) + (k : Int) * (-1)).toNat]?) = items.toList.reverse := by
  have go : ∀ n, n ≤ items.size → ((List.range n).filterMap fun (k : Nat) => items[(((items.size : Int) - 1) + (k : Int) * (-1)).toNat]?) = items.toList.reverse.take n := fun n => by
    induction n with
    | zero => intro _; simp
    | succ n ih =>
      intro hn
      have h2 : (((items.size : Int) - 1) + (n : Int) * (-1)).toNat = items.size - 1 - n := by omega
      have h3 : items.size - 1 - n < items.size := by omega
      rw [List.range_succ, List.filterMap_append, ih (by omega), List.take_add_one, List.getElem?_reverse (by rw [Array.length_toList]; exact hn), Array.length_toList, Array.getElem?_toList, Array.getElem?_eq_getElem h3]
      simp only [List.filterMap_cons, List.filterMap_nil]
      rw [h2, Array.getElem?_eq_getElem h3]
      rfl
  rw [go items.size (Nat.le_refl _)]
  exact List.take_of_length_le (by simp)
theorem sliceApplied_rev {sl : Addr} {u : Tok} {n : Nat} {Q : Int × Int × Nat → Shared → Prop} (hs : s.heap.IsSliceOf sl .none .none (.int (-1) u))
    (h : Q ((n : Int) - 1, -1, n) s) : wpAny (model P w) A (Builtin.Slice.sliceApplied (.ref sl) (pure (n : Int))) Q E s := by
  obtain ⟨os, hos, hcs, hds⟩ := hs
  unfold Builtin.Slice.sliceApplied Builtin.Slice.sliceFields
  refine wpAny_bind (wpAny_bind (wpAny_field hos hds (x := .none) rfl (wpAny_bind (wpAny_field hos hds (x := .none) rfl (wpAny_bind (wpAny_field hos hds (x := .int (-1) u) rfl (wpAny_pure ?_)))))))
  refine wpAny_bind (slicePart_int ?_)
  rw [if_neg (by decide)]
  refine wpAny_bind (slicePart_none (wpAny_bind (slicePart_none (wpAny_bind (wpAny_pure ?_)))))
  have e : Builtin.Slice.slicePlaces ((n : Int) - 1) (-1) (-1) = n := by
    unfold Builtin.Slice.slicePlaces
    rw [if_neg (by decide)]
    by_cases hn : ((n : Int) - 1) > -1
    · rw [if_pos hn]
      have : ((n : Int) - 1 - -1 - 1) / (- -1) + 1 = n := by
        have : ((n : Int) - 1 - -1 - 1) = (n : Int) - 1 := by omega
        rw [this, show (- -1 : Int) = 1 by decide, Int.ediv_one]; omega
      rw [this]; simp
    · rw [if_neg hn]; simp; omega
  show wpAny _ _ (pure ((n : Int) - 1, (-1 : Int), Builtin.Slice.slicePlaces ((n : Int) - 1) (-1) (-1))) _ _ s
  rw [e]
  exact wpAny_pure h
theorem getItem_tuple_rev {t sl : Addr} {items : Array Value} {u : Tok} {Q : Value → Shared → Prop} (ht : IsTup s.heap t items) (hs : s.heap.IsSliceOf sl .none .none (.int (-1) u))
    (h : Q (.ref s.heap.objs.size) { s with heap := s.heap.push { cls := .type "tuple", data := .seq items.toList.reverse.toArray } })
    (hsz : items.size ≤ sizeLine) : wpAny (model P w) A (getItem (.ref t) (.ref sl)) Q E s := by
  have htake : sizeOk (.seq items.toList.reverse.toArray) := by
    show items.toList.reverse.toArray.size ≤ sizeLine
    rw [List.size_toArray, List.length_reverse, Array.length_toList]
    exact hsz
  obtain ⟨os, hos, hcs, hds⟩ := id hs
  have hTs : s.TypeIs (.ref sl) "slice" := ⟨os, hos, hcs⟩
  unfold getItem
  try with_reducible refine wpAny_holding ?_
  first | refine wpAny_bind (wpAny_pure ?_) | skip
  refine wpAny_bind (wpAny_sequenceKey ht.typeIs (by decide) ?_)
  refine wpAny_bind (wpAny_callSpecial?_slot (name := Str.ofString "__getitem__") ht.typeIs PyProof.Rows.slot_tuple_getitem
    (wpAny_call_entry PyProof.Rows.slot_tuple_getitem ht.typeIs entry_tuple_getitem ?_ (args_tuple_getitem _ _)))
  show wpAny _ _ (Builtin.Tuple.tupleItemsOf (.ref t) >>= _) _ _ s
  refine wpAny_bind (tupleItemsOf_ ht ?_)
  refine wpAny_bind (wpAny_typeOf hTs ?_)
  rw [if_pos (by decide)]
  refine wpAny_bind (sliceApplied_rev hs ?_)
  show wpAny _ _ (if (((items.size : Int) - 1) == 0 && (-1 : Int) == 1 && items.size == items.size) = true then _ else _) _ _ s
  rw [if_neg (by simp), rev_pick]
  first
    | exact wpAny_bind (m := Builtin.Tuple.tupleExact _) (wpAny_newObj_type (wpAny_pure ⟨_, rfl, wpAny_pure h⟩) htake)
    | exact wpAny_bind (m := Builtin.Tuple.tupleExact _) (wpAny_newObj_type (wpAny_bind (wpAny_pure (wpAny_pure ⟨_, rfl, wpAny_pure h⟩))) htake)
    | exact wpAny_bind (wpAny_bind (m := Builtin.Tuple.tupleExact _) (wpAny_newObj_type (wpAny_pure (wpAny_pure ⟨_, rfl, wpAny_pure h⟩)) htake))
    | exact wpAny_bind (wpAny_bind (m := Builtin.Tuple.tupleExact _) (wpAny_newObj_type (wpAny_pure ⟨_, rfl, wpAny_pure h⟩) htake))
end
/-- a text backwards -/
def revS (z : Str) : Str := ⟨z.cps.toList.reverse.toArray⟩
section
variable {X : Cx} {W : Wd} {E : XK}
def tRev (K : PySem.W.Frag) (te : TE) : TE := fun σ H Q => te σ H fun x H1 => (∃ a xs, x = .ref a ∧ ((SqL K H1 a xs ∧ ∀ p, H1 p = none → Q (.ref p) (upd H1 p (.lst xs.reverse))) ∨ (SqT K H1 a xs ∧ ∀ p, H1 p = none → Q (.ref p) (upd H1 p (.tup xs.reverse))))) ∨
  ∃ z, x = .str z ∧ z.length ≤ sizeLine ∧ Q (.str (revS z)) H1
theorem pe_rev {e : Expr} {te : TE} {k : Nat} {p1 p2 p3 pos : Pos} (he : PE X e te) : PE X (.Subscript e (.Slice none none (some (.UnaryOp .USub (.Constant (.int 1) k p1) p2)) p3) pos) (tRev X.K te) := by
  refine ⟨fun pins s σ H Q I h => ?_⟩
  refine Subscript_ (thn (he.run pins s σ H _ I h) fun v s1 ⟨x, H1, I1, r1, q1⟩ => ?_)
  have hst : PO X (some (.UnaryOp .USub (.Constant (.int 1) k p1) p2)) (tPart (tUn (rU fun i => .int (-i)) (tC (.int 1)))) := po_some (pe_un un_neg pe_int)
  refine wpAny_Slice (thn (po_none.run pins s1 σ H1 (fun o H2 => o = none ∧ H2 = H1) I1 ⟨rfl, rfl⟩) fun vl s2 ⟨l, H2, I2, pl, el, e2⟩ => ?_)
  subst el e2
  refine thn (po_none.run pins s2 σ H2 (fun o H3 => o = none ∧ H3 = H2) I2 ⟨rfl, rfl⟩) fun vu s3 ⟨u, H3, I3, pu, eu, e3⟩ => ?_
  subst eu e3
  refine thn (hst.run pins s3 σ H3 (fun o H4 => o = some (-1) ∧ H4 = H3) I3 ⟨1, rfl, -1, rfl, rfl, rfl⟩) fun vs s4 ⟨o, H4, I4, ps, eo, e4⟩ => ?_
  subst eo e4
  have I5 : Inv X pins σ H4 { s4 with heap := s4.heap.push { cls := .type "slice", data := .fields #[vl, vu, vs] } } := I4.kept (t' := s4.toks) fun b ob q => Heap.get?_push_of_some _ q
  have hsl := Heap.IsSliceOf.new s4.heap vl vu vs
  rcases q1 with ⟨a, xs, ex, hx⟩ | ⟨z, ex, hz, q⟩
  · subst ex
    cases r1
    rcases hx with ⟨hx, q⟩ | ⟨hx, q⟩
    · obtain ⟨its, r, ht, hz⟩ := I5.list hx
      have hlen := r.length
      refine tail_any (ops := [.ref a, .ref s4.heap.objs.size]) ht.isList.typeIs (PySem.slot_list_getitem.lookup) ?_ (by with_unfolding_all rfl)
      refine wpAny_getItem_list_slice ht.isList hsl pl pu ps (by decide) ?_ (by rw [List.size_toArray]; omega)
      rw [PySem.W.krv_pick]
      exact ⟨.ref _, _, I5.laid (t' := s4.toks) (o := .lst xs.reverse) (fun b ob q => Heap.get?_push_of_some _ q) (Nat.le_refl _) ⟨by rw [List.length_reverse]; exact hz, _, 0, r.reverse, Heap.get?_push_size _ rfl⟩, rfl, q _ (I5.hok.fresh (Nat.le_refl _))⟩
    · obtain ⟨its, r, ht, hz⟩ := I5.tuple hx
      have hlen := r.length
      refine tail_any (ops := [.ref a, .ref s4.heap.objs.size]) ht.typeIs (PyProof.Rows.slot_tuple_getitem.lookup) ?_ (by with_unfolding_all rfl)
      cases pl
      cases pu
      cases ps
      refine getItem_tuple_rev ht hsl ?_ (by rw [List.size_toArray]; omega)
      exact ⟨.ref _, _, I5.laid (t' := s4.toks) (o := .tup xs.reverse) (fun b ob q => Heap.get?_push_of_some _ q) (Nat.le_refl _) ⟨by rw [List.length_reverse]; exact hz, _, r.reverse, ⟨_, Heap.get?_push_size _ rfl, rfl, 0, rfl⟩⟩, rfl, q _ (I5.hok.fresh (Nat.le_refl _))⟩
  · subst ex
    obtain ⟨t, rfl⟩ := r1
    have hps : ∃ u, vs = .int (-1) u := by cases ps; exact ⟨_, rfl⟩
    obtain ⟨u, rfl⟩ := hps
    cases pl
    cases pu
    refine tail_any (ops := [.str z t, .ref s4.heap.objs.size]) (typeIs_str _ z t) (PySem.F.slot_str_getitem.lookup) ?_ (by with_unfolding_all rfl)
    refine wpAny_getItem_str_slice (l := none) (u := none) (st := some (-1, u)) ⟨_, Heap.get?_push_size _ rfl, rfl, rfl⟩ rfl ?_
    have hpick : slicePicked z none none (some (-1, u)) = (List.range z.cps.size).map fun (k : Nat) => (((z.cps.size : Int) - 1) + (k : Int) * (-1)).toNat := by
      show sliceRange ((z.cps.size : Int) - 1) (-1) (-1) = _
      unfold sliceRange
      rw [if_neg (by decide)]
      have hcount : (if ((z.cps.size : Int) - 1) > -1 then ((z.cps.size : Int) - 1 - -1 - -1 - 1) / (- -1) else 0) = (z.cps.size : Int) := by
        rw [show (- -1 : Int) = 1 by decide, Int.ediv_one]
        split <;> omega
      simp only [hcount, Int.toNat_natCast]
      apply List.map_congr_left
      intro k _
      congr 1
      omega
    have hmade : sliceMade z t none none (some (-1, u)) = .str (revS z) := by
      unfold sliceMade
      rw [if_neg (by simp), hpick]
      have : ((List.range z.cps.size).map fun (k : Nat) => (((z.cps.size : Int) - 1) + (k : Int) * (-1)).toNat).filterMap (z.cps[·]?) = z.cps.toList.reverse := by
        rw [List.filterMap_map]
        exact rev_pick z.cps
      rw [this]; rfl
    rw [hmade]
    refine ⟨?_, .str (revS z), H4, I5.tok _, ⟨_, rfl⟩, q⟩
    show (revS z).cps.size ≤ sizeLine
    unfold revS
    rw [List.size_toArray, List.length_reverse, Array.length_toList]
    exact hz
def eRev (mk : Bool) (f : EF) : EF := fun ρ μ => bE (f ρ μ) fun s μ1 => match s with
  | .d (.str z) => if z.length ≤ small24 then some (.ok (.d (.str (revS z))) μ1) else none
  | s => match viewT s with
    | some ds => some (.ok (.d (.tup ds.reverse)) μ1)
    | none => match viewL μ1 s with
      | some ds => newL mk ds.reverse μ1
      | none => none
theorem q_rev {mk : Bool} {e : Expr} {f : EF} {k : Nat} {p1 p2 p3 pos : Pos} (he : PE X e (tOf X.K W E f)) : PE X (.Subscript e (.Slice none none (some (.UnaryOp .USub (.Constant (.int 1) k p1) p2)) p3) pos) (tOf X.K W E (eRev mk f)) := by
  refine PE.weak (pe_rev he) fun σ H Q h => ?_
  obtain ⟨F, L, μ, ρ, res, hr, hs, hf, hp⟩ := h
  show tOf X.K W E f σ H _
  refine tOf_ok hr hs hf hp fun s v μ1 F1 H1 L1 hk e1 r1 d1 p1 => ?_
  split at hk
  · rename_i z
    by_cases hz : z.length ≤ small24
    · rw [if_pos hz] at hk; cases hk
      cases d1
      exact .inr ⟨z, rfl, small24_line hz, post_d r1 p1 (.str _)⟩
    · rw [if_neg hz] at hk; cases hk
  · split at hk
    · rename_i ds ev
      cases hk
      obtain ⟨a, xs, rfl, fa, ha, da⟩ := viewT_ok r1 d1 ev
      exact .inl ⟨a, xs, rfl, .inr ⟨ha, fun p np => post_newT r1 p1 np da.reverse⟩⟩
    · split at hk
      · rename_i ds ev
        obtain ⟨a, xs, rfl, ha, da⟩ := viewL_ok r1 d1 ev
        exact .inl ⟨a, xs, rfl, .inl ⟨ha, fun p np => post_newL r1 hk p1 np da.reverse⟩⟩
      · cases hk

/-! ### calls by keywords only -/
def eCallK0 (n : Nat) (g : GF) (perm : List S → List S → List S) (fk : AF) : EF := fun ρ μ => bAE (fk ρ μ) fun zs μ2 => if (perm [] zs).length = n then onlyD (g (perm [] zs) μ2) else none
theorem pe_callK0 {CX : CXT} {f : Addr} {fd : FuncData} {k : Nat} {x : Str} {ps ks : List Str} {sp : Sp} {kws : List Keyword} {tk : TA} {p pos : Pos} {g : List Value → List Value → List Value} {gV : List V → List V → List V} (F : FnOk X.prog X.w X.K X.mg X.base CX k f fd ps sp) (hr : Room k X.A) (hg : Gl X x) (hm : X.mg x = some (.ref f)) (hk : PySem.W.keepIn X.K (.ref f) = true) (hb : KBinds X.K fd ps ks g gV) (hx : Passes CX X E)
    (hkw : PK X kws tk) (hall : (backToKw pos (keywordEach kws X.env)).all (·.1.isSome) = true) (hks : (backToKw pos (keywordEach kws X.env)).filterMap (·.1) = ks)
    (hdb : (x == ("__debug__" : Str)) = false)
    (hpl : ((backTo pos (starEach [] X.env)).any (·.1) || (backToKw pos (keywordEach kws X.env)).any (·.1.isNone)) = false) :
    PE X (.Call (.Name x p) [] kws pos) (fun σ H Q => tk σ H fun zs H2 => sp (gV [] zs) H2 Q E) := by
  refine ⟨fun pins s σ H Q I h => ?_⟩
  refine wpAny_Call_Name_kw (ld_glob I hg hm ?_ hdb)
  refine PySem.W.callWith_KW0 (h₀ := X.base) I.ok.mod.kin hk hall ?_ hpl
  refine thn (hkw.run pos pins s σ H _ I h) fun ws s2 ⟨zs, H2, I2, rz, q2⟩ => ⟨I2.kIn, ?_⟩
  rw [hks]
  exact run_fnk F hr hb hx I2 .nil rz q2
theorem q_callK0 {k : Nat} {x : Str} {st : Stmt} {ps : List Str} {g : GF} {kws : List Keyword} {ks : List Str} {fk : AF} {p pos : Pos} {perm : {α : Type} → List α → List α → List α} (C : Cal X.prog X.w X.K X.mg X.base W k x st ps g) (hr : Room k X.A) (hx : Passes (L2.CX X.prog X.w) X E) (hkw : PK X kws (aOf X.K W E fk))
    (hb : ∀ (kV doc pm : Value) (an : Option Addr) (cdv ct : Value) (us ws : List Value), (perm us ws).length = ps.length → bindArgs (PySem.W.fnOf x x (defArgs st) (defBody st) (defScope st) .none kV doc pm an cdv ct) ⟨us, ks.zip ws⟩ = pure (ps.zip (perm us ws)))
    (hrel : ∀ {vs : List V} {us : List Value} {zs : List V} {ws : List Value}, Vals vs us → Vals zs ws → Vals (perm vs zs) (perm us ws))
    (hden : ∀ {F : Hp} {L : List Addr} {vs zs : List V} {ss us : List S}, DenSs X.K F L vs ss → DenSs X.K F L zs us → DenSs X.K F L (perm vs zs) (perm ss us))
    (hg : Gl X x := by rfl) (hall : (backToKw pos (keywordEach kws X.env)).all (·.1.isSome) = true := by rfl) (hks : (backToKw pos (keywordEach kws X.env)).filterMap (·.1) = ks := by rfl)
    (hdb : (x == ("__debug__" : Str)) = false := by decide)
    (hpl : ((backTo pos (starEach [] X.env)).any (·.1) || (backToKw pos (keywordEach kws X.env)).any (·.1.isNone)) = false := by rfl) :
    PE X (.Call (.Name x p) [] kws pos) (tOf X.K W E (eCallK0 ps.length g perm fk)) := by
  obtain ⟨f, fd, hm, hF, hok⟩ := C.ex
  have kb : KBinds X.K fd ps ks perm perm := by
    obtain ⟨oc, od, kV, doc, pm, an, cdv, ct, osl, rfl, lk, hcd⟩ := hF.ex
    exact ⟨fun s us ws _ hl => .of_eq (hb kV doc pm an cdv ct us ws hl), hrel⟩
  refine PE.weak (pe_callK0 hok hr hg hm hF.kp kb hx hkw hall hks hdb hpl) fun σ H Q h => ?_
  obtain ⟨F, L, μ, ρ, res, hr, hs, hf, hp⟩ := h
  refine aOf_ok hr hs hf hp fun us zs μ2 F2 H2 L2' hk2 e2 r2 d2 p2 => ?_
  show spG X.K W ps.length g (perm [] zs) H2 Q E
  by_cases hl : (perm [] us).length = ps.length
  · rw [if_pos hl] at hk2
    exact spG_of r2 (hden .nil d2) hl hk2 p2
  · rw [if_neg hl] at hk2; cases hk2

/-! ### a block of two clauses -/
def lc2F (h : TF) (c : BF) (fi1 : IF) (h1 : TF) (c1 : BF) (e : EF) (ρ : List S) (vs1 : List Nat) : List D → List D → List MO → Option (List D × List MO)
  | [], acc, μ => some (acc, μ)
  | d :: ds, acc, μ => match h d ρ with
    | none => none
    | some ρ1 => match c ρ1 μ with
      | some (.ok true μ1) => (match fi1 ρ1 μ1 with
        | some (.ok items μ2) => (match lcF h1 c1 e (wipeS ρ1 vs1) items acc μ2 with
          | some (acc2, μ3) => lc2F h c fi1 h1 c1 e ρ vs1 ds acc2 μ3
          | none => none)
        | _ => none)
      | some (.ok false μ1) => lc2F h c fi1 h1 c1 e ρ vs1 ds acc μ1
      | _ => none
def eLc2 (mk : Bool) (vs vs1 : List Nat) (fi : IF) (h : TF) (c : BF) (fi1 : IF) (h1 : TF) (c1 : BF) (e : EF) : EF := fun ρ μ => match fi ρ μ with
  | some (.ok items μ1) => (match lc2F h c fi1 h1 c1 e (wipeS ρ vs) vs1 items [] μ1 with
    | some (acc, μ2) => if acc.length ≤ cap then newL mk acc μ2 else none
    | none => none)
  | some (.ex x μ1) => some (.ex x μ1)
  | none => none
theorem lcF_len {h : TF} {c : BF} {e : EF} {ρ : List S} : ∀ {items acc acc' : List D} {μ μ' : List MO}, lcF h c e ρ items acc μ = some (acc', μ') → acc.length ≤ acc'.length
  | [], acc, acc', μ, μ', hf => by cases hf; exact Nat.le_refl _
  | d :: ds, acc, acc', μ, μ', hf => by
    unfold lcF at hf
    split at hf
    · cases hf
    · split at hf
      · split at hf
        · have := lcF_len hf
          rw [List.length_append] at this
          omega
        · cases hf
      · exact lcF_len hf
      · cases hf
theorem lc2F_len {h : TF} {c : BF} {fi1 : IF} {h1 : TF} {c1 : BF} {e : EF} {ρ : List S} {vs1 : List Nat} : ∀ {items acc acc' : List D} {μ μ' : List MO}, lc2F h c fi1 h1 c1 e ρ vs1 items acc μ = some (acc', μ') → acc.length ≤ acc'.length
  | [], acc, acc', μ, μ', hf => by cases hf; exact Nat.le_refl _
  | d :: ds, acc, acc', μ, μ', hf => by
    unfold lc2F at hf
    split at hf
    · cases hf
    · split at hf
      · split at hf
        · split at hf
          · rename_i e1
            exact Nat.le_trans (lcF_len e1) (lc2F_len hf)
          · cases hf
        · cases hf
      · exact lc2F_len hf
      · cases hf
variable {K : PySem.W.Frag}
/-- an item's step -/
theorem walk_step {J : It} {items : List D} {F0 F' H' : Hp} {L' : List Addr} {μ' : List MO} (hw : WalkD K F0 J items) (ef : Le F0 F') (r1 : Rep K W F' L' μ' H') {i : Nat} (hlt : i < items.length) {x : V} {H2 : Hp} (y : J.yld i H' x H2) :
    ∃ F2, Ext F' H' L' F2 H2 L' ∧ Rep K W F2 L' μ' H2 ∧ Den K F2 x items[i] := by
  have hw1 := hw H' (fun a o q => r1.sub a o (ef a o q))
  have it := hw1.2.2 i x H2 items[i] (List.getElem?_eq_getElem hlt) y
  have it' : ItemAt K F' H' x H2 items[i] := by
    rcases it with ⟨a1, a2⟩ | ⟨T, ys, ds, a1, a2, a3, a4, a5⟩
    · exact .inl ⟨a1, a2.mono ef⟩
    · exact .inr ⟨T, ys, ds, a1, a2, a3, a4, a5.mono ef⟩
  exact it'.step r1
/-- the block's list stands through a step -/
theorem keepD {F' H' Fa Ha : Hp} {L' La : List Addr} {D0 : Addr} {xs : List V} (hD1 : H' D0 = some (.lst xs)) (hF1 : F' D0 = none) (hL1 : D0 ∉ L') (ea : Ext F' H' L' Fa Ha La) : Ha D0 = some (.lst xs) ∧ Fa D0 = none ∧ D0 ∉ La := by
  have hDn : Al H' D0 := ⟨_, hD1, lst_nt⟩
  refine ⟨ea.hh D0 _ hD1 hL1 lst_nt, ea.fr D0 hDn hF1, ?_⟩
  obtain ⟨N, en, nn⟩ := ea.lp
  rw [en]
  intro z
  rcases List.mem_append.mp z with z | z
  · exact hL1 z
  · exact nn D0 z hDn
theorem lcIn_core {J : It} {items : List D} {vs is : List Nat} {h : TF} {c : BF} {e : EF} {F0 H0 F H : Hp} {L0 L : List Addr} {μ μ2 : List MO} {ρ : List S} {σ : Sl} {acc acc0 : List D} {xs : List V} {D0 : Addr} {Nx : Hp → Prop} (hw : WalkD K F J items) (e0 : Ext F0 H0 L0 F H L) (hr : Rep K W F L μ H) (hs : SlotsOk K F L ρ σ) (hi : ∀ i ∈ is, i ∈ vs) (nD : ¬ Al H0 D0)
    (hD : H D0 = some (.lst xs)) (hFD : F D0 = none) (hLD : D0 ∉ L) (da : DenL K F xs acc) (hcap : acc0.length ≤ cap) (hf : lcF h c e (wipeS ρ vs) items acc μ = some (acc0, μ2))
    (hq : ∀ F' H' L' xs, Ext F0 H0 L0 F' H' L' → Le F F' → (∀ ρ' σ', SlotsOk K F L ρ' σ' → SlotsOk K F' L' ρ' σ') → Rep K W F' L' μ2 H' → H' D0 = some (.lst xs) → F' D0 = none → D0 ∉ L' → DenL K F' xs acc0 → Nx H') :
    ∃ W1 : Nat → Nat → Hp → Prop, (∃ m, W1 0 m H) ∧ ∀ j k H, W1 j k H →
      (J.stop j H ∧ Nx H) ∨ (J.go j H ∧ ∃ Nx1 : Hp → Prop, (∀ H', Nx1 H' → ∃ k', k' < k ∧ W1 (j + 1) k' H') ∧ ∀ x H', J.yld j H x H' → gI K W is h x (wipe σ vs) H' fun σ3 H5 => wipe σ3 vs = wipe σ vs ∧ bOf K W E0 c σ3 H5 fun b H6 =>
        if b = true then tOf K W E0 e σ3 H6 fun y H7 => ∃ acc, H7 D0 = some (.lst acc) ∧ acc.length < sizeLine ∧ Nx1 (upd H7 D0 (.lst (acc ++ [y]))) else Nx1 H6) := by
  have hs0 := hs
  refine ⟨fun i m H' => m = items.length - i ∧ i ≤ items.length ∧ ∃ F' L' μ' acc xs, Ext F0 H0 L0 F' H' L' ∧ Le F F' ∧ (∀ ρ' σ', SlotsOk K F L ρ' σ' → SlotsOk K F' L' ρ' σ') ∧ Rep K W F' L' μ' H' ∧ H' D0 = some (.lst xs) ∧ F' D0 = none ∧ D0 ∉ L' ∧ DenL K F' xs acc ∧ lcF h c e (wipeS ρ vs) (items.drop i) acc μ' = some (acc0, μ2),
    ⟨items.length, by simp, Nat.zero_le _, F, L, μ, acc, xs, e0, fun _ _ h => h, fun _ _ h => h, hr, hD, hFD, hLD, da, by simpa using hf⟩, ?_⟩
  rintro i m H' ⟨rfl, hi', F', L', μ', acc, xs, e1, ef, sl, r1, hD1, hF1, hL1, da, hf1⟩
  have hw1 := hw H' (fun a o q => r1.sub a o (ef a o q))
  by_cases hlt : i < items.length
  · refine .inr ⟨hw1.1 i hlt, fun H2 => ∃ F2 L2 μ2' acc2 xs2, Ext F0 H0 L0 F2 H2 L2 ∧ Le F F2 ∧ (∀ ρ' σ', SlotsOk K F L ρ' σ' → SlotsOk K F2 L2 ρ' σ') ∧ Rep K W F2 L2 μ2' H2 ∧ H2 D0 = some (.lst xs2) ∧ F2 D0 = none ∧ D0 ∉ L2 ∧ DenL K F2 xs2 acc2 ∧ lcF h c e (wipeS ρ vs) (items.drop (i + 1)) acc2 μ2' = some (acc0, μ2), fun H2 q => ⟨items.length - (i + 1), by omega, rfl, hlt, q⟩, fun x H2 y => ?_⟩
    obtain ⟨F2, e2, r2, d2⟩ := walk_step hw ef r1 hlt y
    rw [List.drop_eq_getElem_cons hlt] at hf1
    unfold lcF at hf1
    cases eh : h items[i] (wipeS ρ vs) with
    | none => rw [eh] at hf1; cases hf1
    | some ρ1 =>
      rw [eh] at hf1
      simp only at hf1
      refine ⟨F2, L', μ', wipeS ρ vs, items[i], ρ1, r2, ((sl _ _ hs).wipe vs).mono e2, d2, eh, fun σ3 s3 k3 => ⟨?_, ?_⟩⟩
      · exact (wipe_same hi k3.1 k3.2).trans wipe_wipe
      cases ec : c ρ1 μ' with
      | none => rw [ec] at hf1; cases hf1
      | some rc =>
        rw [ec] at hf1
        refine ⟨F2, L', μ', ρ1, rc, r2, s3, ec, ?_⟩
        cases rc with
        | ex x μ1 => cases hf1
        | ok b μ1 =>
          intro F3 H3 L3 e3 r3
          have e23 := e2.trans e3
          cases b with
          | false =>
            refine iteF ?_
            obtain ⟨k1, k2, k3⟩ := keepD hD1 hF1 hL1 e23
            exact ⟨F3, L3, μ1, acc, xs, e1.trans e23, fun a o q => e23.ff a o (ef a o q), fun ρ' σ' q => (sl ρ' σ' q).mono e23, r3, k1, k2, k3, da.mono e23.ff, hf1⟩
          | true =>
            refine iteT ?_
            simp only at hf1
            cases ee : e ρ1 μ1 with
            | none => rw [ee] at hf1; cases hf1
            | some re =>
              rw [ee] at hf1
              refine ⟨F3, L3, μ1, ρ1, re, r3, s3.mono e3, ee, ?_⟩
              cases re with
              | ex x μ2 => cases hf1
              | ok s μ2' =>
                cases s with
                | un => cases hf1
                | m j => cases hf1
                | d yd =>
                  intro v F4 H4 L4 e4 r4 d4 n4
                  have e24 := e23.trans e4
                  obtain ⟨k1, k2, k3⟩ := keepD hD1 hF1 hL1 e24
                  have hl := da.length
                  have hg := lcF_len hf1
                  rw [List.length_append, List.length_singleton] at hg
                  refine ⟨xs, k1, cap_line (by omega), F4, L4, μ2', acc ++ [yd], xs ++ [v], (e1.trans e24).updD nD, fun a o q => e24.ff a o (ef a o q), fun ρ' σ' q => (sl ρ' σ' q).mono e24, r4.updD k1 k2 k3 lst_nt lst_nc, upd_same, k2, k3, DenL.append (da.mono e24.ff) (.cons d4 .nil), hf1⟩
  · have e' : i = items.length := by omega
    subst e'
    rw [List.drop_length] at hf1
    cases hf1
    exact .inl ⟨hw1.2.1, hq F' H' L' xs e1 ef sl r1 hD1 hF1 hL1 da⟩
theorem tLc2_of {mk : Bool} {vs vs1 is is1 : List Nat} {fi fi1 : IF} {h h1 : TF} {c c1 : BF} {e : EF} (hi : ∀ i ∈ is, i ∈ vs) (hi1 : ∀ i ∈ is1, i ∈ vs1) {σ : Sl} {H : Hp} {Q : VK} (q : tOf K W E (eLc2 mk vs vs1 fi h c fi1 h1 c1 e) σ H Q) :
    tLc2 (iOf K W E fi) (gI K W is h) (bOf K W E0 c) (iOf K W E0 fi1) (gI K W is1 h1) (bOf K W E0 c1) (tOf K W E0 e) vs vs1 σ H Q := by
  obtain ⟨F, L, μ, ρ, res, hr, hs, hf, hp⟩ := q
  unfold eLc2 at hf
  show iOf K W E fi σ H _
  cases ea : fi ρ μ with
  | none => rw [ea] at hf; cases hf
  | some ra =>
    rw [ea] at hf
    refine ⟨F, L, μ, ρ, ra, hr, hs, ea, ?_⟩
    cases ra with
    | ex x μ1 => cases hf; exact hp
    | ok items μ1 =>
      simp only at hf
      intro J Fb Hb Lb eb rb w1 D0 hD
      have sb := hs.mono eb
      cases el : lc2F h c fi1 h1 c1 e (wipeS ρ vs) vs1 items [] μ1 with
      | none => rw [el] at hf; cases hf
      | some am =>
        obtain ⟨acc0, μ2⟩ := am
        rw [el] at hf
        simp only at hf
        by_cases hcap : acc0.length ≤ cap
        · rw [if_pos hcap] at hf
          have nD : ¬ Al H D0 := fun z => Al.no hD (eb.dom D0 z)
          refine ⟨fun i m H' => m = items.length - i ∧ i ≤ items.length ∧ ∃ F' L' μ' acc xs, Ext F H L F' H' L' ∧ Le Fb F' ∧ SlotsOk K F' L' ρ σ ∧ Rep K W F' L' μ' H' ∧ H' D0 = some (.lst xs) ∧ F' D0 = none ∧ D0 ∉ L' ∧ DenL K F' xs acc ∧ lc2F h c fi1 h1 c1 e (wipeS ρ vs) vs1 (items.drop i) acc μ' = some (acc0, μ2),
            ⟨items.length, by simp, Nat.zero_le _, Fb, Lb, μ1, [], [], eb.updD nD, fun _ _ h => h, sb, ?_, upd_same, rb.free hD, rb.notL hD, .nil, by simpa using el⟩, ?_⟩
          · exact { sub := fun a v q => by rw [upd_ne (ne_of_none (rb.sub a v q) hD)]; exact rb.sub a v q
                    ft := rb.ft
                    tabs := rb.tabs.ext (le_upd hD)
                    nd := rb.nd
                    len := rb.len
                    nf := rb.nf
                    obj := fun i a u e1 e2 => (rb.obj i a u e1 e2).mono (fun _ _ h => h) fun z hz => by rw [upd_ne (ne_of_none hz hD)]; exact hz }
          rintro i m H' ⟨rfl, hi', F', L', μ', acc, xs, e1, ef, sl, r1, hD1, hF1, hL1, da, hf1⟩
          have hw1 := w1 H' (fun a o q => r1.sub a o (ef a o q))
          by_cases hlt : i < items.length
          · refine .inr ⟨hw1.1 i hlt, fun H2 => ∃ F2 L2 μ2' acc2 xs2, Ext F H L F2 H2 L2 ∧ Le Fb F2 ∧ SlotsOk K F2 L2 ρ σ ∧ Rep K W F2 L2 μ2' H2 ∧ H2 D0 = some (.lst xs2) ∧ F2 D0 = none ∧ D0 ∉ L2 ∧ DenL K F2 xs2 acc2 ∧ lc2F h c fi1 h1 c1 e (wipeS ρ vs) vs1 (items.drop (i + 1)) acc2 μ2' = some (acc0, μ2), fun H2 q => ⟨items.length - (i + 1), by omega, rfl, hlt, q⟩, fun x H2 y => ?_⟩
            obtain ⟨F2, e2, r2, d2⟩ := walk_step w1 ef r1 hlt y
            rw [List.drop_eq_getElem_cons hlt] at hf1
            unfold lc2F at hf1
            cases eh : h items[i] (wipeS ρ vs) with
            | none => rw [eh] at hf1; cases hf1
            | some ρ1 =>
              rw [eh] at hf1
              simp only at hf1
              refine ⟨F2, L', μ', wipeS ρ vs, items[i], ρ1, r2, (sl.wipe vs).mono e2, d2, eh, fun σ3 s3 k3 => ⟨?_, ?_⟩⟩
              · exact (wipe_same hi k3.1 k3.2).trans wipe_wipe
              cases ec : c ρ1 μ' with
              | none => rw [ec] at hf1; cases hf1
              | some rc =>
                rw [ec] at hf1
                refine ⟨F2, L', μ', ρ1, rc, r2, s3, ec, ?_⟩
                cases rc with
                | ex x μ1 => cases hf1
                | ok b μ1 =>
                  intro F3 H3 L3 e3 r3
                  have e23 := e2.trans e3
                  cases b with
                  | false =>
                    refine iteF ?_
                    obtain ⟨k1, k2, k3⟩ := keepD hD1 hF1 hL1 e23
                    exact ⟨F3, L3, μ1, acc, xs, e1.trans e23, fun a o q => e23.ff a o (ef a o q), sl.mono e23, r3, k1, k2, k3, da.mono e23.ff, hf1⟩
                  | true =>
                    refine iteT ?_
                    simp only at hf1
                    cases ei : fi1 ρ1 μ1 with
                    | none => rw [ei] at hf1; cases hf1
                    | some ri =>
                      rw [ei] at hf1
                      refine ⟨F3, L3, μ1, ρ1, ri, r3, s3.mono e3, ei, ?_⟩
                      cases ri with
                      | ex x μ3 => cases hf1
                      | ok items1 μ3 =>
                        simp only at hf1
                        intro J1 F4 H4 L4 e4 r4 w4
                        have e24 := e23.trans e4
                        obtain ⟨k1, k2, k3⟩ := keepD hD1 hF1 hL1 e24
                        cases e5 : lcF h1 c1 e (wipeS ρ1 vs1) items1 acc μ3 with
                        | none => rw [e5] at hf1; cases hf1
                        | some am2 =>
                          obtain ⟨acc2, μ4⟩ := am2
                          rw [e5] at hf1
                          have hg := lc2F_len hf1
                          refine lcIn_core w4 (e1.trans e24) r4 ((s3.mono e3).mono e4) hi1 nD k1 k2 k3 (da.mono e24.ff) (by omega) e5 fun F5 H5 L5 xs5 e5' lf sf r5 hD5 hF5 hL5 d5 => ?_
                          exact ⟨F5, L5, μ4, acc2, xs5, e5', fun a o q => lf a o (e24.ff a o (ef a o q)), sf _ _ (sl.mono e24), r5, hD5, hF5, hL5, d5, hf1⟩
          · have e' : i = items.length := by omega
            subst e'
            rw [List.drop_length] at hf1
            cases hf1
            refine .inl ⟨hw1.2.1, ?_⟩
            exact post_newD e1 r1 hf hp nD hD1 hF1 hL1 da
        · rw [if_neg hcap] at hf; cases hf
theorem q_lc2 {mk : Bool} {elt tg iter tg1 iter1 : Expr} {ifs ifs1 : List Expr} {scope : Scope} {own : List (Str × Nat)} {vs1 : List Nat} {pos : Pos} {fi fi1 : IF} {is is1 : List Nat} {h h1 : TF} {c c1 : BF} {e : EF} (hc : X.calm = true) (hN : X.N.Nodup) (ok : BlkOk X.N X.env.scope scope own) (hi : PI X tg iter (iOf X.K W E fi))
    (hg : ∀ (s : Shared) (H : Hp) (C : Addr) (cl : List (Str × Addr)) (fp : List Addr), PG (X.blk s H scope (compEnvC scope cl C X.env) fp) tg (gI X.K W is h)) (ht : ∀ (s : Shared) (H : Hp) (C : Addr) (cl : List (Str × Addr)) (fp : List Addr), PTs (X.blk s H scope (compEnvC scope cl C X.env) fp) ifs (bOf X.K W E0 c))
    (hi1 : ∀ (s : Shared) (H : Hp) (C : Addr) (cl : List (Str × Addr)) (fp : List Addr), PI (X.blk s H scope (compEnvC scope cl C X.env) fp) tg1 iter1 (iOf X.K W E0 fi1))
    (hg1 : ∀ (s : Shared) (H : Hp) (C : Addr) (cl : List (Str × Addr)) (fp : List Addr), PG (X.blk s H scope (compEnvC scope cl C X.env) fp) tg1 (gI X.K W is1 h1)) (ht1 : ∀ (s : Shared) (H : Hp) (C : Addr) (cl : List (Str × Addr)) (fp : List Addr), PTs (X.blk s H scope (compEnvC scope cl C X.env) fp) ifs1 (bOf X.K W E0 c1))
    (he : ∀ (s : Shared) (H : Hp) (C : Addr) (cl : List (Str × Addr)) (fp : List Addr), PE (X.blk s H scope (compEnvC scope cl C X.env) fp) elt (tOf X.K W E0 e)) (his : ∀ i ∈ is, i ∈ own.map (·.2) := by decide) (his1 : ∀ i ∈ is1, i ∈ vs1 := by decide) (hv : ∀ i ∈ vs1, i ∈ own.map (·.2) := by decide) (hs : ∀ x, foldedSetIterable iter X.env x = pure x := by intro _; rfl) (hs1 : ∀ env x, foldedSetIterable iter1 env x = pure x := by intro _ _; rfl) :
    PE X (.ListComp elt [⟨tg, iter, ifs, 0⟩, ⟨tg1, iter1, ifs1, 0⟩] scope pos) (tOf X.K W E (eLc2 mk (own.map (·.2)) vs1 fi h c fi1 h1 c1 e)) :=
  PE.weak (pe_lc2 hc hN hi ok hv hg ht hi1 hg1 ht1 he hs hs1) fun _ _ _ q => tLc2_of his his1 q
theorem qs_setLc2 {mk : Bool} {i : Nat} {y : Str} {py : Pos} {elt tg iter tg1 iter1 : Expr} {ifs ifs1 : List Expr} {scope : Scope} {own : List (Str × Nat)} {vs1 : List Nat} {pos spos : Pos} {fi fi1 : IF} {is is1 : List Nat} {h h1 : TF} {c c1 : BF} {e : EF} (hc : X.calm = true) (hN : X.N.Nodup) (ok : BlkOk X.N X.env.scope scope own) (hi : PI X tg iter (iOf X.K W E fi))
    (hg : ∀ (s : Shared) (H : Hp) (C : Addr) (cl : List (Str × Addr)) (fp : List Addr), PG (X.blk s H scope (compEnvC scope cl C X.env) fp) tg (gI X.K W is h)) (ht : ∀ (s : Shared) (H : Hp) (C : Addr) (cl : List (Str × Addr)) (fp : List Addr), PTs (X.blk s H scope (compEnvC scope cl C X.env) fp) ifs (bOf X.K W E0 c))
    (hi1 : ∀ (s : Shared) (H : Hp) (C : Addr) (cl : List (Str × Addr)) (fp : List Addr), PI (X.blk s H scope (compEnvC scope cl C X.env) fp) tg1 iter1 (iOf X.K W E0 fi1))
    (hg1 : ∀ (s : Shared) (H : Hp) (C : Addr) (cl : List (Str × Addr)) (fp : List Addr), PG (X.blk s H scope (compEnvC scope cl C X.env) fp) tg1 (gI X.K W is1 h1)) (ht1 : ∀ (s : Shared) (H : Hp) (C : Addr) (cl : List (Str × Addr)) (fp : List Addr), PTs (X.blk s H scope (compEnvC scope cl C X.env) fp) ifs1 (bOf X.K W E0 c1))
    (he : ∀ (s : Shared) (H : Hp) (C : Addr) (cl : List (Str × Addr)) (fp : List Addr), PE (X.blk s H scope (compEnvC scope cl C X.env) fp) elt (tOf X.K W E0 e)) (hy : X.N[i]? = some y := by rfl) (hyl : X.env.scope.names.lookup y = some .local := by rfl)
    (hsw : swapsWith (.ListComp elt [⟨tg, iter, ifs, 0⟩, ⟨tg1, iter1, ifs1, 0⟩] scope pos) (some (.Name y py)) spos.line X.env = pure true := by exact sw_true rfl rfl rfl (by decide +kernel)) (his : ∀ i ∈ is, i ∈ own.map (·.2) := by decide) (his1 : ∀ i ∈ is1, i ∈ vs1 := by decide) (hv : ∀ i ∈ vs1, i ∈ own.map (·.2) := by decide) (hs : ∀ x, foldedSetIterable iter X.env x = pure x := by intro _; rfl) (hs1 : ∀ env x, foldedSetIterable iter1 env x = pure x := by intro _ _; rfl) :
    PS X (.Assign [.Name y py] (.ListComp elt [⟨tg, iter, ifs, 0⟩, ⟨tg1, iter1, ifs1, 0⟩] scope pos) spos) (sOf X.K W E (sSet i (eLc2 mk (own.map (·.2)) vs1 fi h c fi1 h1 c1 e))) := by
  refine PS.weak (ps_setLc2 hc hN hy hyl hsw hi ok hv hg ht hi1 hg1 ht1 he hs hs1) fun D σ H q => ?_
  obtain ⟨F, L, μ, ρ, r, hr, hs, hf, hp⟩ := q
  show tLc2 _ _ _ _ _ _ _ _ _ σ H _
  refine tLc2_of (mk := mk) (is := is) (is1 := is1) his his1 ?_
  have hf : bS (eLc2 mk (own.map (·.2)) vs1 fi h c fi1 h1 c1 e ρ μ) (fun s μ1 => some (.nx (ρ.set i s) μ1)) = some r := hf
  refine tS_ok hr hs hf hp fun s v μ1 F1 H1 L1 hk e1 r1 d1 n1 p1 => ?_
  cases hk
  exact p1 _ F1 H1 L1 .refl r1 ((hs.mono e1).set d1 i)
end
end DL
end

section
set_option Elab.async false
set_option linter.all false
set_option maxRecDepth 100000
set_option maxHeartbeats 4000000
/-! DLzip: zip of a list and a tuple. -/
namespace DL
open PySem PySem.Spec PyProof.Rows L2
open PySem.Sem (wp)
section
variable {P : Program} {w : World} {A : Around} {E : Value → Shared → Prop} {s : Shared}
/-- an iterator it over the items of l: I k h says where it stands -/
structure Src (P : Program) (w : World) (A : Around) (it l : Addr) (items : Array Value) (I : Nat → Heap → Prop) : Prop where
  far : ∀ {k h h' c}, I k h → Heap.ExtBut c h h' → it ≠ c → l ≠ c → I k h'
  item : ∀ {k : Nat} {s : Shared} {x : Value} {Q : Value → Shared → Prop} {E : Value → Shared → Prop}, I k s.heap → items[k]? = some x → (∀ h', I (k + 1) h' → Heap.SameBut it s.heap h' → Q x { s with heap := h' }) → wpAny (model P w) A (Builtin.SmallTypes.nextOf (.ref it)) Q E s
  stop : ∀ {k : Nat} {s : Shared} {Q : Value → Shared → Prop} {E : Value → Shared → Prop}, I k s.heap → items[k]? = none → (∀ h' e, Heap.ExtBut it s.heap h' → (∃ o, h'.get? e = some o ∧ o.cls = .type "StopIteration") → E (.ref e) { s with heap := h' }) → wpAny (model P w) A (Builtin.SmallTypes.nextOf (.ref it)) Q E s
theorem src_list (hh : A.handled = none) {it l : Addr} {items : Array Value} (hne : l ≠ it) : Src P w A it l items (fun k h => h.IsListIter it l k ∧ h.IsList l items) where
  far := fun st e h1 h2 => ⟨st.1.extBut e h1, st.2.extBut e h2⟩
  item := fun {k s x Q E} st hx hq => wpAny_nextOf_list_item st.1 st.2 hx fun h' h1 h2 => hq h' ⟨h1, st.2.extBut h2.extBut hne⟩ h2
  stop := fun {k s Q E} st hx hq => wpAny_nextOf_list_end hh st.1 st.2 hx hq
theorem src_tup (hh : A.handled = none) {it l : Addr} {items : Array Value} (hne : l ≠ it) : Src P w A it l items (fun k h => h.IsTupleIter it l k ∧ h.IsTuple l items) where
  far := fun st e h1 h2 => ⟨st.1.extBut e h1, st.2.extBut e h2⟩
  item := fun {k s x Q E} st hx hq => RZ.nextOf_tuple_item st.1 st.2 hx fun h' h1 h2 => hq h' ⟨h1, st.2.extBut h2.extBut hne⟩ h2
  stop := fun {k s Q E} st hx hq => RZ.nextOf_tuple_end hh st.1 st.2 hx hq
/-- what stays -/
def Stays (h h' : Heap) (z TO i1 i2 : Addr) : Prop := ∀ c o, c ≠ z → c ≠ TO → c ≠ i1 → c ≠ i2 → h.get? c = some o → h'.get? c = some o
theorem zipS_item {z TI TO i1 i2 l1 l2 : Addr} {k1 k2 : Nat} {xs ys : Array Value} {I1 I2 : Nat → Heap → Prop} {x y a b : Value} {Q : Option Value → Shared → Prop} (S1 : Src P w A.in1 i1 l1 xs I1) (S2 : Src P w A.in1 i2 l2 ys I2) (D : ZipApart z TI TO i1 i2 l1 l2)
    (hz : IsZip s.heap z TI TO .none) (hTI : IsPair s.heap TI (.ref i1) (.ref i2)) (hTO : IsPair s.heap TO a b) (h1 : I1 k1 s.heap) (h2 : I2 k2 s.heap) (hx : xs[k1]? = some x) (hy : ys[k2]? = some y)
    (hQ : ∀ h', IsZip h' z TI TO (rawInt s.heap.objs.size) → IsPair h' TO x y → I1 (k1 + 1) h' → I2 (k2 + 1) h' → IsPair h' s.heap.objs.size x y → Stays s.heap h' z TO i1 i2 → Q (some (.ref s.heap.objs.size)) { s with heap := h' }) :
    wpAny (model P w) A (pyNext (.ref z)) Q E s := by
  have hT : s.TypeIs (.ref z) "zip" := ⟨_, hz, rfl⟩
  unfold pyNext
  refine wpAny_bind (wpAny_attempt (wpAny_callSpecial?_slot (name := Str.ofString "__next__") hT F.slot_zip_next (wpAny_call_entry F.slot_zip_next hT F.entry_zip_next ?_ (F.args_zip_next_1 _))))
  show wpAny _ _ (field (.ref z) 2 >>= _) _ _ _
  refine wpAny_bind (wpAny_field hz rfl (x := .bool false) rfl ?_)
  refine wpAny_bind (wpAny_field hz rfl (x := .ref TI) rfl ?_)
  refine wpAny_bind (wpAny_seqItems hTI rfl ?_)
  show wpAny _ _ (Builtin.SmallTypes.ownedTupleIsFree (.ref z) >>= _) _ _ _
  unfold Builtin.SmallTypes.ownedTupleIsFree
  refine wpAny_bind (wpAny_bind (wpAny_field hz rfl (x := .none) rfl (wpAny_pure ?_)))
  simp only [if_true]
  refine wpAny_bind (wpAny_rule (wpAny_bind (wpAny_field hz rfl (x := .ref TO) rfl (wpAny_bind (wpAny_setField_rec hz (by simp) fun ha za sa => ?_)))))
  replace za : IsZip ha z TI TO .ellipsis := za
  refine wpAny_bind ?_
  simp only [List.zipIdx_cons, List.zipIdx_nil, List.forIn_cons, List.forIn_nil]
  refine wpAny_bind (wpAny_bind (wpAny_onRaise (wpAny_bind (S1.item (S1.far h1 sa.extBut D.i1z D.l1z) hx fun hb b1 sb => wpAny_pure ?_))))
  have TOb : IsPair hb TO a b := sb.extBut _ _ D.TOi1 (sa.extBut _ _ D.TOz hTO)
  refine wpAny_bind (wpAny_seqItems TOb rfl (wpAny_bind (wpAny_updateSeq_pair TOb fun hc TOc sc => ?_)))
  replace TOc : IsPair hc TO x b := TOc
  refine wpAny_bind (wpAny_letGo (wpAny_pure ?_))
  refine wpAny_bind (wpAny_bind (wpAny_onRaise (wpAny_bind (S2.item (S2.far (S2.far (S2.far h2 sa.extBut D.i2z D.l2z) sb.extBut D.i12.symm D.l2i1) sc.extBut D.TOi2.symm D.l2TO) hy fun hd d2 sd => wpAny_pure ?_))))
  have TOd : IsPair hd TO x b := sd.extBut _ _ D.TOi2 TOc
  refine wpAny_bind (wpAny_seqItems TOd rfl (wpAny_bind (wpAny_updateSeq_pair TOd fun he TOe se => ?_)))
  replace TOe : IsPair he TO x y := TOe
  refine wpAny_bind (wpAny_letGo (wpAny_pure (wpAny_pure (wpAny_bind (wpAny_seqItems TOe rfl (wpAny_bind (wpAny_newTuple ?_)))))))
  have size : he.objs.size = s.heap.objs.size := by rw [se.1, sd.1, sc.1, sb.1, sa.1]
  have ze : IsZip he z TI TO .ellipsis := se.extBut _ _ D.TOz.symm (sd.extBut _ _ D.i2z.symm (sc.extBut _ _ D.TOz.symm (sb.extBut _ _ D.i1z.symm za)))
  have ke : Stays s.heap he z TO i1 i2 := fun c o c1 c2 c3 c4 e => se.extBut _ _ c2 (sd.extBut _ _ c4 (sc.extBut _ _ c2 (sb.extBut _ _ c3 (sa.extBut _ _ c1 e))))
  have e1 : I1 (k1 + 1) he := S1.far (S1.far (S1.far b1 sc.extBut D.TOi1.symm D.l1TO) sd.extBut D.i12 D.l1i2) se.extBut D.TOi1.symm D.l1TO
  have e2 : I2 (k2 + 1) he := S2.far d2 se.extBut D.TOi2.symm D.l2TO
  have zlt : z < he.objs.size := Heap.lt_size ze
  show wpAny _ _ (Builtin.SmallTypes.ownedTupleHandOut (.ref z) (.ref he.objs.size) >>= _) _ _ _
  unfold Builtin.SmallTypes.ownedTupleHandOut
  have zf : IsZip (he.push { cls := .type "tuple", data := .seq #[x, y] }) z TI TO .ellipsis := Heap.get?_push_of_some _ ze
  refine wpAny_bind (wpAny_bind (wpAny_setField_rec zf (by simp) fun hg zg sg => ?_))
  replace zg : IsZip hg z TI TO (rawInt he.objs.size) := zg
  refine wpAny_setField_rec zg (by simp) fun hk zk sk => ?_
  replace zk : IsZip hk z TI TO (rawInt he.objs.size) := zk
  have pushed : Heap.ExtBut z he hk := fun c o c1 e => sk.extBut _ _ c1 (sg.extBut _ _ c1 (Heap.get?_push_of_some _ e))
  have pk : IsPair hk he.objs.size x y := sk.extBut _ _ (Nat.ne_of_gt zlt) (sg.extBut _ _ (Nat.ne_of_gt zlt) (Heap.get?_push_size _ rfl))
  rw [size] at zk pk
  refine wpAny_pure ⟨_, rfl, wpAny_pure ?_⟩
  rw [size]
  exact hQ hk zk (pushed _ _ D.TOz TOe) (S1.far e1 pushed D.i1z D.l1z) (S2.far e2 pushed D.i2z D.l2z) pk fun c o c1 c2 c3 c4 e => pushed c o c1 (ke c o c1 c2 c3 c4 e)
theorem zipS_end {z TI TO i1 i2 l1 l2 : Addr} {k1 k2 : Nat} {xs ys : Array Value} {I1 I2 : Nat → Heap → Prop} {a b : Value} {Q : Option Value → Shared → Prop} (S1 : Src P w A.in1 i1 l1 xs I1) (S2 : Src P w A.in1 i2 l2 ys I2) (D : ZipApart z TI TO i1 i2 l1 l2)
    (hz : IsZip s.heap z TI TO .none) (hTI : IsPair s.heap TI (.ref i1) (.ref i2)) (hTO : IsPair s.heap TO a b) (h1 : I1 k1 s.heap) (h2 : I2 k2 s.heap) (hend : xs[k1]? = none ∨ ys[k2]? = none)
    (hQ : ∀ h', Stays s.heap h' z TO i1 i2 → Q none { s with heap := h' }) :
    wpAny (model P w) A (pyNext (.ref z)) Q E s := by
  have hT : s.TypeIs (.ref z) "zip" := ⟨_, hz, rfl⟩
  have over : ∀ (h' : Heap) (e : Addr), Stays s.heap h' z TO i1 i2 → (∃ o, h'.get? e = some o ∧ o.cls = .type "StopIteration") → wpAny (model P w) A (isInstance (.ref e) (.type "StopIteration") >>= fun r => if r = true then pure none else throw (.ref e)) Q E { s with heap := h' } := fun h' e hk ⟨o, ho, hc⟩ =>
    wpAny_bind (wpAny_isInstance (T := "StopIteration") (b := true) ⟨o, ho, hc⟩ isSubtype_stop (wpAny_pure (hQ _ hk)))
  unfold pyNext
  refine wpAny_bind (wpAny_attempt (wpAny_callSpecial?_slot (name := Str.ofString "__next__") hT F.slot_zip_next (wpAny_call_entry F.slot_zip_next hT F.entry_zip_next ?_ (F.args_zip_next_1 _))))
  show wpAny _ _ (field (.ref z) 2 >>= _) _ _ _
  refine wpAny_bind (wpAny_field hz rfl (x := .bool false) rfl ?_)
  refine wpAny_bind (wpAny_field hz rfl (x := .ref TI) rfl ?_)
  refine wpAny_bind (wpAny_seqItems hTI rfl ?_)
  show wpAny _ _ (Builtin.SmallTypes.ownedTupleIsFree (.ref z) >>= _) _ _ _
  unfold Builtin.SmallTypes.ownedTupleIsFree
  refine wpAny_bind (wpAny_bind (wpAny_field hz rfl (x := .none) rfl (wpAny_pure ?_)))
  simp only [if_true]
  refine wpAny_bind (wpAny_rule (wpAny_bind (wpAny_field hz rfl (x := .ref TO) rfl (wpAny_bind (wpAny_setField_rec hz (by simp) fun ha za sa => ?_)))))
  replace za : IsZip ha z TI TO .ellipsis := za
  refine wpAny_bind ?_
  simp only [List.zipIdx_cons, List.zipIdx_nil, List.forIn_cons, List.forIn_nil]
  refine wpAny_bind (wpAny_bind (wpAny_onRaise ?_))
  cases hx : xs[k1]? with
  | none =>
    refine wpAny_bind (S1.stop (S1.far h1 sa.extBut D.i1z D.l1z) hx fun hb e sb he => ?_)
    obtain ⟨oe, hoe, hce⟩ := he
    have zb : IsZip hb z TI TO .ellipsis := sb _ _ D.i1z.symm za
    have ez : e ≠ z := fun x => by subst x; rw [zb] at hoe; cases hoe; simp at hce
    exact wpAny_setField_rec zb (by simp) fun hc _ sc => over _ e (fun c o c1 _ c3 _ x => sc.extBut _ _ c1 (sb _ _ c3 (sa.extBut _ _ c1 x))) ⟨oe, sc.extBut _ _ ez hoe, hce⟩
  | some x =>
    have hy : ys[k2]? = none := hend.resolve_left (by rw [hx]; simp)
    refine wpAny_bind (S1.item (S1.far h1 sa.extBut D.i1z D.l1z) hx fun hb b1 sb => wpAny_pure ?_)
    have TOb : IsPair hb TO a b := sb.extBut _ _ D.TOi1 (sa.extBut _ _ D.TOz hTO)
    refine wpAny_bind (wpAny_seqItems TOb rfl (wpAny_bind (wpAny_updateSeq_pair TOb fun hc TOc sc => ?_)))
    refine wpAny_bind (wpAny_letGo (wpAny_pure ?_))
    refine wpAny_bind (wpAny_bind (wpAny_onRaise (wpAny_bind (S2.stop (S2.far (S2.far (S2.far h2 sa.extBut D.i2z D.l2z) sb.extBut D.i12.symm D.l2i1) sc.extBut D.TOi2.symm D.l2TO) hy fun hd e sd he => ?_))))
    obtain ⟨oe, hoe, hce⟩ := he
    have zd : IsZip hd z TI TO .ellipsis := sd _ _ D.i2z.symm (sc.extBut _ _ D.TOz.symm (sb.extBut _ _ D.i1z.symm za))
    have ez : e ≠ z := fun x => by subst x; rw [zd] at hoe; cases hoe; simp at hce
    exact wpAny_setField_rec zd (by simp) fun hk _ sk => over _ e (fun c o c1 c2 c3 c4 x => sk.extBut _ _ c1 (sd _ _ c4 (sc.extBut _ _ c2 (sb.extBut _ _ c3 (sa.extBut _ _ c1 x))))) ⟨oe, sk.extBut _ _ ez hoe, hce⟩
end
/-! ### zip(list, tuple) -/
abbrev zA (h : Heap) (l : Addr) : Heap := h.push { cls := .type "list_iterator", data := .fields #[.ref l, .int 0 0] }
abbrev zB (h : Heap) (l t : Addr) : Heap := (zA h l).push { cls := .type "tuple_iterator", data := .fields #[.ref t, .int 0 0] }
abbrev zC (h : Heap) (l t : Addr) : Heap := (zB h l t).push { cls := .type "tuple", data := .seq #[.ref h.objs.size, .ref (zA h l).objs.size] }
abbrev zD (h : Heap) (l t : Addr) : Heap := (zC h l t).push { cls := .type "tuple", data := .seq #[.none, .none] }
abbrev zE (h : Heap) (l t : Addr) : Heap := (zD h l t).push { cls := .type "zip", data := .fields #[.none, .bool false, .bool false, .ref (zB h l t).objs.size, .ref (zC h l t).objs.size] }
theorem meets_zipLT (l t : Addr) (xs ys : Array Value) :
    Meets (Builtin.«zip.__new__» ⟨[.type "zip", .ref l, .ref t], []⟩) (fun _ R s => s.heap.IsList l xs ∧ s.heap.IsTuple t ys ∧ R (.ok (.ret (.ref (zD s.heap l t).objs.size))) { s with heap := zE s.heap l t }) :=
  .of_wp fun prog w A R s h => by
    obtain ⟨hp, g, d, tk, os⟩ := s; obtain ⟨hl1, hl2, h⟩ := h
    have hsub := sub_zip
    have hL1 : Heap.IsList (Shared.heap ⟨hp, g, d, tk, os⟩) l xs := hl1
    have hL2 : Heap.IsTuple (Shared.heap ⟨hp.push { cls := .type "list_iterator", data := .fields #[.ref l, .int 0 0] }, g, d, tk, os⟩) t ys := Heap.IsTuple.push hl2 _
    wp_walk using wpAny_pyIter_list hL1, wpAny_pyIter_tuple hL2
    exact ⟨_, rfl, h⟩
section
variable {P : Program} {w : World} {A : Around} {E : Value → Shared → Prop} {s : Shared}
theorem call_zipLT {l t : Addr} {xs ys : Array Value} {Q : Value → Shared → Prop} (hl1 : s.heap.IsList l xs) (hl2 : s.heap.IsTuple t ys)
    (h : ∀ h', IsZip h' (s.heap.objs.size + 4) (s.heap.objs.size + 2) (s.heap.objs.size + 3) .none → IsPair h' (s.heap.objs.size + 2) (.ref s.heap.objs.size) (.ref (s.heap.objs.size + 1)) →
      IsPair h' (s.heap.objs.size + 3) .none .none → h'.IsListIter s.heap.objs.size l 0 → h'.IsTupleIter (s.heap.objs.size + 1) t 0 → (∀ c o, s.heap.get? c = some o → h'.get? c = some o) → Q (.ref (s.heap.objs.size + 4)) { s with heap := h' }) :
    wpAny (model P w) A (call (.type "zip") [.ref l, .ref t]) Q E s := by
  refine callType_new F.called_zip (by decide) (F.typeCall_zip_2 _ _) (F.newCall_zip_2 _ _) (fun obj => F.args_object_init_3 obj _ _) F.entry_zip_new (meets_zipLT l t xs ys) ⟨hl1, hl2, ?_⟩
  have z1 : (zA s.heap l).objs.size = s.heap.objs.size + 1 := Heap.size_push ..
  have z2 : (zB s.heap l t).objs.size = s.heap.objs.size + 2 := by rw [Heap.size_push, z1]
  have z3 : (zC s.heap l t).objs.size = s.heap.objs.size + 3 := by rw [Heap.size_push, z2]
  have z4 : (zD s.heap l t).objs.size = s.heap.objs.size + 4 := by rw [Heap.size_push, z3]
  have up : ∀ {h : Heap} {o o' : Obj} {c : Addr}, h.get? c = some o → (h.push o').get? c = some o := fun e => Heap.get?_push_of_some _ e
  have g5 : (zE s.heap l t).get? (zD s.heap l t).objs.size = some _ := Heap.get?_push_size _ rfl
  have g4 : (zE s.heap l t).get? (zC s.heap l t).objs.size = some _ := up (Heap.get?_push_size _ rfl)
  have g3 : (zE s.heap l t).get? (zB s.heap l t).objs.size = some _ := up (up (Heap.get?_push_size _ rfl))
  have g2 : (zE s.heap l t).get? (zA s.heap l).objs.size = some _ := up (up (up (Heap.get?_push_size _ rfl)))
  have g1 : (zE s.heap l t).get? s.heap.objs.size = some _ := up (up (up (up (Heap.get?_push_size _ rfl))))
  show _ ∧ _
  rw [z2, z3, z4] at g5
  rw [z1, z2] at g3
  rw [z3] at g4
  rw [z1] at g2
  rw [z4]
  exact ⟨⟨_, g5, rfl⟩, h _ g5 g3 g4 ⟨_, g1, rfl, rfl⟩ ⟨_, g2, rfl, rfl⟩ fun c o x => up (up (up (up (up x))))⟩
end
def ItzM (K : PySem.W.Frag) (a b : Addr) : It :=
  ⟨fun i H => ∃ (xs ys : List V) (x y : V), SqL K H a xs ∧ SqT K H b ys ∧ xs[i]? = some x ∧ ys[i]? = some y,
    fun i H v H' => ∃ T x y, v = .ref T ∧ H T = none ∧ H' = upd H T (.tup [x, y]) ∧ (∀ xs, SqL K H a xs → xs[i]? = some x) ∧ ∀ ys, SqT K H b ys → ys[i]? = some y,
    fun i H => ∃ xs ys : List V, SqL K H a xs ∧ SqT K H b ys ∧ (xs.length ≤ i ∨ ys.length ≤ i)⟩
theorem turn_zipM {P : Program} {w : World} {K : PySem.W.Frag} {elts : List Expr} {kk : Nat} {tpos : Pos} {a b z TI TO i1 i2 : Addr} (D : ZipApart z TI TO i1 i2 a b) :
    Turn P w K (.Tuple elts kk tpos) (ItzM K a b) [z, TI, TO, i1, i2] z (fun i h => IsZip h z TI TO .none ∧ IsPair h TI (.ref i1) (.ref i2) ∧ (∃ x y, IsPair h TO x y) ∧ h.IsListIter i1 a i ∧ h.IsTupleIter i2 b i) where
  mem := List.mem_cons_self
  obj := fun i h st c hc => by
    obtain ⟨hz, hTI, ⟨x, y, hTO⟩, ⟨o1, e1, _, d1⟩, ⟨o2, e2, _, d2⟩⟩ := st
    simp only [List.mem_cons, List.not_mem_nil, or_false] at hc
    rcases hc with rfl | rfl | rfl | rfl | rfl
    · exact ⟨_, hz, fun v q => nomatch q⟩
    · exact ⟨_, hTI, fun v q => nomatch q⟩
    · exact ⟨_, hTO, fun v q => nomatch q⟩
    · exact ⟨o1, e1, fun v q => by rw [d1] at q; cases q⟩
    · exact ⟨o2, e2, fun v q => by rw [d2] at q; cases q⟩
  keep := fun i h h' st k => by
    obtain ⟨hz, hTI, ⟨x, y, hTO⟩, h1, h2⟩ := st
    exact ⟨k z (by simp) _ hz, k TI (by simp) _ hTI, ⟨x, y, k TO (by simp) _ hTO⟩, h1.at fun o q => k i1 (by simp) o q, h2.at fun o q => k i2 (by simp) o q⟩
  item := by
    intro X hP hw hK hc i pins s σ H E I hf st hg
    subst hP hw hK
    obtain ⟨hz, hTI, ⟨x0, y0, hTO⟩, h1, h2⟩ := st
    obtain ⟨xs, ys, x, y, hqx, hqy, hx, hy⟩ := hg
    obtain ⟨its, rv, p, _⟩ := I.list hqx
    obtain ⟨its2, rv2, p2, _⟩ := I.tuple hqy
    obtain ⟨u, hu, ru⟩ := rv.get hx
    obtain ⟨u2, hu2, ru2⟩ := rv2.get hy
    have hzl : z < s.heap.objs.size := Heap.lt_size hz
    have hin : X.A.in1.handled = none := I.ok.hd hc
    refine zipS_item (src_list hin D.l1i1) (src_tup hin D.l2i2) D hz hTI hTO (k1 := i) (k2 := i) ⟨h1, p.isList⟩ ⟨h2, show s.heap.IsTuple b its2.toArray from p2⟩ (x := u) (y := u2) (by simpa using hu) (by simpa using hu2) fun h' z' TO' h1' h2' hT hk => ?_
    refine ⟨_, rfl, wpAny_letOwnedTupleGo_zip (s := { s with heap := h' }) z' fun h'' z'' sb => ?_⟩
    have hT2 : h''.get? s.heap.objs.size = some { cls := .type "tuple", data := .seq #[u, u2] } := (sb.2 _ (Nat.ne_of_gt hzl)).trans hT
    have new : ObjOk X.prog X.w (upd H s.heap.objs.size (.tup [x, y])) h'' s.heap.objs.size (.tup [x, y]) :=
      ⟨by show 2 ≤ sizeLine; decide, [u, u2], .cons ru (.cons ru2 .nil), ⟨_, hT2, rfl, _, rfl⟩⟩
    have I1 : Inv X pins σ (upd H s.heap.objs.size (.tup [x, y])) { s with heap := h'' } :=
      I.turnedNew (t' := s.toks) (ch := [z, TI, TO, i1, i2]) (fun c o hb q => (sb.2 c (fun q' => hb (by simp [q']))).trans (hk c o (fun q' => hb (by simp [q'])) (fun q' => hb (by simp [q'])) (fun q' => hb (by simp [q'])) (fun q' => hb (by simp [q'])) q)) hf (Nat.le_refl _) new
    refine ⟨.ref s.heap.objs.size, _, I1, rfl, ⟨_, x, y, rfl, I.hok.fresh (Nat.le_refl _), rfl, fun l hl => by rw [I.list_inj hl hqx]; exact hx, fun l hl => by rw [I.tuple_inj hl hqy]; exact hy⟩, ⟨z'', ?_, ⟨u, u2, ?_⟩, ?_, ?_⟩, fun c hcm => ?_⟩
    · exact (sb.2 _ D.TIz).trans (hk _ _ D.TIz D.TITO D.TIi1 D.TIi2 hTI)
    · exact (sb.2 _ D.TOz).trans TO'
    · exact h1'.1.at fun o q => (sb.2 _ D.i1z).trans q
    · exact h2'.1.at fun o q => (sb.2 _ D.i2z).trans q
    · have hlt : c < s.heap.objs.size := by
        have hcm' := hcm
        simp only [List.mem_cons, List.not_mem_nil, or_false] at hcm'
        rcases hcm' with rfl | rfl | rfl | rfl | rfl
        · exact hzl
        · exact Heap.lt_size hTI
        · exact Heap.lt_size hTO
        · obtain ⟨_, e1, _⟩ := h1; exact Heap.lt_size e1
        · obtain ⟨_, e2, _⟩ := h2; exact Heap.lt_size e2
      rw [upd_ne (Nat.ne_of_lt hlt)]
      exact (hf c hcm).1
  done := by
    intro X hP hw hK hc i pins s σ H E I hf st hg
    subst hP hw hK
    obtain ⟨hz, hTI, ⟨x0, y0, hTO⟩, h1, h2⟩ := st
    obtain ⟨xs, ys, hqx, hqy, hend⟩ := hg
    obtain ⟨its, rv, p, _⟩ := I.list hqx
    obtain ⟨its2, rv2, p2, _⟩ := I.tuple hqy
    have l1 := rv.length
    have l2 := rv2.length
    have hin : X.A.in1.handled = none := I.ok.hd hc
    have he : its.toArray[i]? = none ∨ its2.toArray[i]? = none := by
      rcases hend with q | q
      · exact .inl (by simp; omega)
      · exact .inr (by simp; omega)
    exact zipS_end (src_list hin D.l1i1) (src_tup hin D.l2i2) D hz hTI hTO (k1 := i) (k2 := i) ⟨h1, p.isList⟩ ⟨h2, show s.heap.IsTuple b its2.toArray from p2⟩ he fun h' hk => ⟨rfl, I.turnedL (t' := s.toks) (ch := [z, TI, TO, i1, i2]) (fun c o hb q =>
      hk c o (fun q' => hb (by simp [q'])) (fun q' => hb (by simp [q'])) (fun q' => hb (by simp [q'])) (fun q' => hb (by simp [q'])) q) hf⟩
  self := fun A i s Q E st h => wpAny_pyIter_zip st.1 h
def iZipM (K : PySem.W.Frag) (ta : TA) : TI := fun σ H R => ta σ H fun vs H1 => ∃ a b xs ys, vs = [.ref a, .ref b] ∧ SqL K H1 a xs ∧ SqT K H1 b ys ∧ R (ItzM K a b) H1
theorem pi_zipM {X : Cx} {e e2 : Expr} {ta : TA} {p pos tpos : Pos} {elts : List Expr} {kk : Nat} (hg : Gl X "zip") (hm : X.mg "zip" = none) (ha : PA X [e, e2] ta)
    (hs : starEach [e, e2] X.env = (false, eval e X.env) :: starEach [e2] X.env := by rfl) (hpl : (backTo pos (starEach [e2] X.env)).any (·.1) = false := by rfl) :
    PI X (.Tuple elts kk tpos) (.Call (.Name "zip" p) [e, e2] [] pos) (iZipM X.K ta) := by
  refine ⟨fun pins s σ H R I h => ?_⟩
  refine Call_ (ld_blt I hg hm PyProof.Rows.boot_zip (PyProof.Rows.callWith_type1 (thn (ha.run pos pins s σ H _ I h) fun us s1 ⟨vs, H1, I1, r1, q1⟩ => ?_) hs hpl))
  obtain ⟨a, b, xs, ys, ex, hqx, hqy, q⟩ := q1
  subst ex
  obtain ⟨u1, r1', hus, ru1⟩ : ∃ u r, us = u :: r ∧ RelV (.ref a) u ∧ Vals [.ref b] r := by cases r1 with | cons p q => exact ⟨_, _, rfl, p, q⟩
  obtain ⟨ru1, rr⟩ := ru1
  subst hus
  obtain ⟨u2, rfl, ru2⟩ := rr.one
  cases ru1
  cases ru2
  obtain ⟨its, rv, p1, _⟩ := I1.list hqx
  obtain ⟨its2, rv2, p2, _⟩ := I1.tuple hqy
  obtain ⟨o2, ho2, _⟩ := id p2
  refine call_zipLT p1.isList (show s1.heap.IsTuple b its2.toArray from p2) fun h' hz hTI hTO h1 h2 hk => wpAny_pyIter_zip hz ?_
  have I2 : Inv X pins σ H1 { s1 with heap := h' } := I1.kept (t' := s1.toks) hk
  refine ⟨s1.heap.objs.size + 4, [s1.heap.objs.size + 4, s1.heap.objs.size + 2, s1.heap.objs.size + 3, s1.heap.objs.size, s1.heap.objs.size + 1], _, _, H1, rfl, I2, turn_zipM (PySem.W.ktu_apart s1.heap.objs.size a b p1.lt (Heap.lt_size ho2)), ⟨hz, hTI, ⟨_, _, hTO⟩, h1, h2⟩, fun c hcm => ?_, q⟩
  have hle : s1.heap.objs.size ≤ c := by
    simp only [List.mem_cons, List.not_mem_nil, or_false] at hcm
    rcases hcm with rfl | rfl | rfl | rfl | rfl <;> first | exact Nat.le_add_right _ _ | exact Nat.le_refl _
  exact I1.fpOk hle (I1.hok.fresh hle)
section
variable {X : Cx} {W : Wd} {E : XK} {K : PySem.W.Frag}
def iZip2 (fa : AF) : IF := fun ρ μ => match fa ρ μ with
  | some (.ok [s, u] μ1) => (match viewT s, viewT u with
    | some ds, some es => some (.ok (zipD ds es) μ1)
    | none, some es => (match s with
      | .d (.lst ds) => some (.ok (zipD ds es) μ1)
      | _ => none)
    | _, _ => match s, u with
      | .d (.lst ds), .d (.lst es) => some (.ok (zipD ds es) μ1)
      | _, _ => none)
  | some (.ex x μ1) => some (.ex x μ1)
  | _ => none
theorem walkD_zipM {F : Hp} {a b : Addr} {xs ys : List V} {ds es : List D} (h1 : SqL K F a xs) (h2 : SqT K F b ys) (d1 : DenL K F xs ds) (d2 : DenL K F ys es) : WalkD K F (ItzM K a b) (zipD ds es) := fun H hl => by
  have q1 := Le.seqL hl h1
  have q2 := Le.seqT hl h2
  have l1 := d1.length
  have l2 := d2.length
  have hz := zipD_length ds es
  refine ⟨fun i hi => ?_, ⟨xs, ys, q1, q2, by omega⟩, fun i x H' d hd y => ?_⟩
  · have i1 : i < xs.length := by omega
    have i2 : i < ys.length := by omega
    exact ⟨xs, ys, xs[i], ys[i], q1, q2, List.getElem?_eq_getElem i1, List.getElem?_eq_getElem i2⟩
  · obtain ⟨T, u, v, e1, e2, e3, e4, e5⟩ := y
    obtain ⟨p, q, f1, f2, rfl⟩ := zipD_get hd
    obtain ⟨v1, g1, g2⟩ := d1.get f1
    obtain ⟨v2, g3, g4⟩ := d2.get f2
    have e4 := e4 xs q1
    have e5 := e5 ys q2
    rw [g1] at e4; cases e4
    rw [g3] at e5; cases e5
    exact .inr ⟨T, [u, v], [p, q], e1, e2, e3, rfl, .cons g2 (.cons g4 .nil)⟩
theorem q_izip2 {e e2 : Expr} {fa : AF} {p pos tpos : Pos} {elts : List Expr} {kk : Nat} (hm : X.mg "zip" = none) (ha : PA X [e, e2] (aOf X.K W E fa)) (hg : Gl X "zip" := by rfl)
    (hs : starEach [e, e2] X.env = (false, eval e X.env) :: starEach [e2] X.env := by rfl) (hpl : (backTo pos (starEach [e2] X.env)).any (·.1) = false := by rfl) : PI X (.Tuple elts kk tpos) (.Call (.Name "zip" p) [e, e2] [] pos) (iOf X.K W E (iZip2 fa)) := by
  refine PI.weak (PI.or (RZ.pi_zipA hg hm ha hs hpl) (pi_zipM hg hm ha hs hpl)) fun σ H R h => ?_
  obtain ⟨F, L, μ, ρ, res, hr, hs, hf, hp⟩ := h
  unfold iZip2 at hf
  cases ea : fa ρ μ with
  | none => rw [ea] at hf; cases hf
  | some ra =>
    rw [ea] at hf
    cases ra with
    | ex x μ1 => cases hf; exact .inl ⟨F, L, μ, ρ, _, hr, hs, ea, hp⟩
    | ok ss μ1 =>
      match ss, ea, hf with
      | [s, u], ea, hf =>
        simp only at hf
        split at hf
        · rename_i ds es f1 f2
          cases hf
          refine .inl ⟨F, L, μ, ρ, _, hr, hs, ea, fun vs F1 H1 L1 e1 r1 d => ?_⟩
          obtain ⟨v, w, rfl, d1, d2⟩ := d.two
          obtain ⟨a, xs, rfl, fa1, ha, da⟩ := viewT_ok r1 d1 f1
          obtain ⟨b, ys, rfl, fb1, hb, db⟩ := viewT_ok r1 d2 f2
          exact ⟨a, b, xs, ys, rfl, .inr ⟨ha, hb, hp _ F1 H1 L1 e1 r1 (walkD_zipT fa1 fb1 da db)⟩⟩
        · rename_i es f1 f2
          split at hf
          · cases hf
            refine .inr ⟨F, L, μ, ρ, _, hr, hs, ea, fun vs F1 H1 L1 e1 r1 d => ?_⟩
            obtain ⟨v, w, rfl, d1, d2⟩ := d.two
            obtain ⟨b, ys, rfl, fb1, hb, db⟩ := viewT_ok r1 d2 f2
            cases d1 with
            | lst h1 h2 => exact ⟨_, b, _, ys, rfl, SqL.of (r1.sub _ _ h1), hb, hp _ F1 H1 L1 e1 r1 (walkD_zipM (SqL.of h1) fb1 h2 db)⟩
          · cases hf
        · split at hf
          · cases hf
            refine .inl ⟨F, L, μ, ρ, _, hr, hs, ea, fun vs F1 H1 L1 e1 r1 d => ?_⟩
            obtain ⟨v, w, rfl, d1, d2⟩ := d.two
            cases d1 with
            | lst h1 h2 =>
              cases d2 with
              | lst h3 h4 => exact ⟨_, _, _, _, rfl, .inl ⟨SqL.of (r1.sub _ _ h1), SqL.of (r1.sub _ _ h3), hp _ F1 H1 L1 e1 r1 (walkD_zip (SqL.of h1) (SqL.of h3) h2 h4)⟩⟩
          · cases hf
end
end DL
end

section
set_option Elab.async false
set_option linter.all false
set_option maxRecDepth 100000
set_option maxHeartbeats 4000000
/-! DLexc: an own error whose __init__ says super().__init__(v) and keeps v as a field. -/
namespace DL
open PySem PySem.W PySem.Calls PyProof.Rows PySem.HandSPX
/-- what the written part says of the class x, at C, of its __init__, at fI (cell cc, code cda) -/
structure ErrTxt (P : Program) (K : Frag) (mg : Str → Option Value) (x fld : Str) (C fI : Addr) : Prop where
  gC : mg x = some (.ref C)
  cls : ∃ nm q N bs bm sn sub ab col dd k0 k1 k2 k3 k5, K.lookup C = some (excClassObj nm q C N bs bm true sn sub ab col dd k0 k1 k2 k3 k5 "ValueError.__new__") ∧ refsVE bm = true
  sa : findIn K (.ref C) "__setattr__" = some (some (.builtin "object.__setattr__"))
  ga : findIn K (.ref C) "__getattribute__" = some (some (.builtin "BaseException.__getattribute__"))
  gg : findIn K (.ref C) "__getattr__" = some none
  noN : findIn K (.ref C) fld = some none
  iC : findIn K (.ref C) "__init__" = some (some (.ref fI))
  tC : typeIn K (.ref fI) = some (.type "function")
  kC : keepIn K (.ref C) = true
  exC : subIn K (.ref C) (.type "BaseException") = some true
  tyC : typeIn K (.ref C) = some (.type "type")
  hdC : hasDictIn K C = true
  te : exmOne K (.ref C) (.ref C) = some true
  ve : subIn K (.ref C) (.type "ValueError") = some true
  me : mroIn K C (.ref C) = some true
  su : ks_superIn K C C "__init__" = some (some (.builtin "ValueError.__init__"))
  th : nsIn K cStatics "thirdparty.any" = some none
  ns : nsIn K mainGlobals "super" = some none
  top : (P.main.scope.names.lookup ("super" : Str)).isSome = false
  fs : fld = "name" ∨ fld = "place"
  fn : ∃ (oc : Value) (od : Option Addr) (qual : Str) (kV doc pm : Value) (an : Option Addr) (cda cc : Addr) (ct : Value) (osl : Array (Option Value)) (p1 p2 q1 q2 q3 q4 q5 q6 q7 q8 q9 q10 : Pos) (scope : Scope) (ccl cl : Value) (cdd cld : Option Addr) (ccs csl : Array (Option Value)) (vs : Array Value) (file : Str) (tf : Tok),
    K.lookup fI = some ⟨oc, od, .func (ksFn "__init__" qual { posonlyargs := [], args := [{ arg := "self", annotation := none, pos := p1 }, { arg := fld, annotation := none, pos := p2 }], vararg := none, kwonlyargs := [], kw_defaults := [], kwarg := none, defaults := [] }
      [.Expr (.Call (.Attribute (.Call (.Name "super" q1) [] [] q2) "__init__" q3) [.Name fld q4] [] q5) q6, .Assign [.Attribute (.Name "self" q7) fld q8] (.Name fld q9) q10] scope .none kV doc pm an (.ref cda) ct cc), osl⟩ ∧ codeIn K (.ref cda) qual = true ∧
    (q3.endLine == q5.line) = true ∧ (scope.kind = .function ∧ scope.isCoroutine = false ∧ scope.isGenerator = false ∧ (∀ y ∈ scope.names, y.2 ≠ .cell) ∧ scope.names.lookup ("self" : Str) = some .local ∧ scope.names.lookup fld = some .local ∧ scope.names.lookup ("__class__" : Str) = some .free ∧ scope.names.lookup ("super" : Str) = some .globalImplicit) ∧
    K.lookup cda = some ⟨ccl, cdd, .fields vs, ccs⟩ ∧ vs[2]? = some (.str file tf) ∧ ((P.main.file : Str) == file) = true ∧
    K.lookup cc = some ⟨cl, cld, .cell (some (.ref C)), csl⟩
/-- what __init__ leaves of a fresh exception at xo -/
structure InitEnd (h h' : Heap) (xo C dx : Addr) (fld : Str) (v : Value) : Prop where
  keep : ∀ b o, b ≠ xo → h.get? b = some o → h'.get? b = some o
  obj : ∃ t1, h'.get? xo = some { cls := .ref C, dict := some dx, data := .fields #[.ref t1, .none, .none, .none, .bool false, .none] }
  dbig : h.objs.size ≤ dx
  dne : dx ≠ xo
  ns : h'.Ns1 dx (fun y => if y = fld then some v else none)
section
variable {P : Program} {w : World} {A : Around} {E : Value → Shared → Prop} {R : Result → Shared → Prop} {s : Shared} {K : Frag} {mg mb : Str → Option Value} {x fld : Str} {C fI : Addr}
theorem one_size (v : Value) : [v].length ≤ sizeLine := by
  rw [sizeLine_eq]
  exact (by decide : 1 ≤ 16777216)
theorem call_mw {xo u t0 : Addr} {nm q : Str} {C N : Addr} {bs bm : List Value} {hdct : Bool} {sn : List Str} {sub : List Value} {ab : Bool} {col : Option Bool} {dd : Option Addr} {k0 k1 k2 k3 k5 : Option Value} {h : Heap} {g : Array GenState} {d : Drawn} {t : Nat} {os : OsState} {rest : List Value} {Q : Value → Shared → Prop}
    (hu : h.get? u = some (kxs_mw "ValueError.__init__" xo)) (hC : h.get? C = some (excClassObj nm q C N bs bm hdct sn sub ab col dd k0 k1 k2 k3 k5 "ValueError.__new__")) (he : h.get? xo = some (excO C t0)) (hz : rest.length ≤ sizeLine)
    (hq : ∀ h' t1, (∀ b o, b ≠ xo → h.get? b = some o → h'.get? b = some o) → h'.get? xo = some (excO C t1) → Q .none ⟨h', g, d, t, os⟩) : wpAny (model P w) A (call (.ref u) rest) Q E ⟨h, g, d, t, os⟩ := by
  refine wpAny_call (codeAny_of_tree ?_)
  show wpAny _ A.in1 (callAny (.ref u) ⟨rest, []⟩) _ _ _
  simp only [callAny]
  refine wpAny_bind (wpAny_load hu ?_)
  simp only [kxs_mw, show (Value.type "method-wrapper" == Value.type "method" || Value.type "method-wrapper" == Value.type "builtin_function_or_method" || Value.type "method-wrapper" == Value.type "method-wrapper") = true by decide, if_true]
  refine KFB.if_so (by decide) ?_
  refine wpAny_bind (check_bound_init F.excBase_ValueError.toExcCallFacts hC he rfl ?_)
  refine wpAny_bind (wpAny_pure (wpAny_pure ?_))
  refine ⟨plainId_quiet F.excBase_ValueError.init.plain _, codeAny_builtin F.excBase_ValueError.initEntry ?_⟩
  exact exc_init_tree (cls := .ref C) (t0 := t0) (dv := none) (c2 := .none) (c3 := .none) (b4 := .bool false) he hz fun h' k e _ => hq h' _ k e
theorem err_init (T : ErrTxt P K mg x fld C fI) {xo t0 : Addr} {v : Value} (X : K.In s.heap) (G : s.heap.Ns mainGlobals mg) (gs : mg "super" = none) (B : s.heap.Ns builtinsNs mb) (bs : mb "super" = some (.type "super")) (hlim : s.heap.NoLimit) (hx : s.heap.get? xo = some (excO C t0)) (hnx : K.lookup xo = none) (hroom : A.depth < recursionLimit)
    (hq : ∀ h' tk dx, InitEnd s.heap h' xo C dx fld v → R (.ok (.ret .none)) { s with heap := h', toks := tk }) :
    codeAny (model P w) A (.call (.ref fI) ⟨[.ref xo, v], []⟩) R s := by
  obtain ⟨oc, od, qual, kV, doc, pm, an, cda, cc, ct, osl, p1, p2, q1, q2, q3, q4, q5, q6, q7, q8, q9, q10, scope, ccl, cl, cdd, cld, ccs, csl, vs, file, tf, ho, hcd, hline, ⟨sk, sc, sg, snc, s1, s2, s3, s4⟩, hcda, hvs, hfile, hcell⟩ := T.fn
  obtain ⟨nm, q, N, bs', bm, sn, sub, ab, col, dd, k0, k1, k2, k3, k5, hC, hbm⟩ := T.cls
  have hcl : clsIn K C = some { name := nm, bases := bs', mro := .ref C :: bm, ns := N, qualname := q, hasDict := true, slotNames := sn, subclasses := sub, abstract := ab, collection := col, hasDel := false } := by unfold clsIn; rw [hC] <;> rfl
  refine ks_codeAny_call_defAt (binds := [("self", .ref xo), (fld, v)]) hroom (X _ _ ho) rfl hlim (codeRec_of X hcd) rfl (BindsTo.of_eq ?_) snc (fun y hy => ?_) (fun h₁ hn k => ?_) sc sg sk
  · rcases T.fs with e | e <;> subst e <;> first | rfl | with_unfolding_all rfl
  · simp only [List.mem_cons, List.not_mem_nil, or_false] at hy
    rcases hy with rfl | rfl
    · exact s1
    · exact s2
  have hn' : h₁.Ns s.heap.objs.size (fun y => if y = fld then some v else if y = "self" then some (.ref xo) else none) := by
    have e : (fun y => if y = fld then some v else if y = ("self" : Str) then some (Value.ref xo) else none) = fun y => ([(("self" : Str), Value.ref xo), (fld, v)].reverse).lookup y := by
      funext y
      show _ = List.lookup y [(fld, v), (("self" : Str), Value.ref xo)]
      by_cases h1 : y = fld
      · subst h1; simp [List.lookup]
      · have : (y == fld) = false := by simpa using h1
        rw [if_neg h1]
        by_cases h2 : y = ("self" : Str)
        · subst h2; simp [List.lookup, this]
        · have h3 : (y == ("self" : Str)) = false := by simpa using h2
          simp [List.lookup, this, h2, h3]
    rw [e]; exact hn
  have X₁ : K.In h₁ := X.keeps k
  have hx₁ := k _ _ hx
  have nfs : fld ≠ "self" := by rcases T.fs with e | e <;> subst e <;> decide
  have nfd : (fld == ("__debug__" : Str)) = false := by rcases T.fs with e | e <;> subst e <;> decide
  refine ks_wpAt_execs_cons (ks_wpAt_Expr_any ?_ ?_ ?_)
  · refine ks_wpAt_MethodCall (pl := do return (← importBound (.Call (.Name "super" q1) [] [] q2) (ksEnv qual scope s.heap.objs.size fI (.ref cda) cc)).getD true) ?_ ?_
    · refine ks_wpAt_super_base (env := ksEnv qual scope s.heap.objs.size fI (.ref cda) cc) s4 s3 (by decide) rfl (X₁ _ _ ho) rfl rfl rfl (X₁ _ _ hcda) rfl hvs hfile T.top ?_
      refine ks_loadName_global sk s4 (loadGlobal_builtin (env := ksEnv qual scope s.heap.objs.size fI (.ref cda) cc) (G.keeps k) gs (B.keeps k) bs ⟨rfl, ?_⟩)
      refine wpAny_loadName_free sk s3 rfl ⟨_, X₁ _ _ hcell, rfl⟩ ?_
      refine wpAny_loadName_local sk s1 hn' (v := .ref xo) (by simp [nfs.symm]) ?_
      refine ks_wpAny_isType_cls (X₁ _ _ hC) rfl ⟨rfl, ?_⟩
      refine ks_wpAny_call_super (X₁ _ _ hC) rfl hx₁ rfl (fun c z => by cases z) (looks_mroIn X₁ T.me) (fun h₂ hso k₂ => ?_)
      have X₂ : K.In h₂ := X₁.keeps k₂
      have I₂ : InstAt h₂ xo (excO C t0) C none := ⟨k₂ _ _ hx₁, rfl, rfl, trivial⟩
      have hsu := T.su
      unfold ks_superIn at hsu
      rw [hcl] at hsu
      refine kxs_getMethod kxs_ValueError hso (looks_opaque X₂ T.th) (l₀ := .ref C :: bm) (fun A Q E s k q => wpAny_bind ((looks_clsIn X₂ hcl) A _ E s k (wpAny_pure q))) rfl X₂ hsu (I₂.type.andThen (looks_subIn X₂ T.ve)) (ks_ne X₂ I₂ hcl) (by decide) ?_
      show wpAny _ _ (callWith q5 (.ref h₂.objs.size) [] ((false, eval (.Name fld q4) (ksEnv qual scope s.heap.objs.size fI (.ref cda) cc)) :: []) []) _ _ _
      refine kxs_callWith (i := "ValueError.__init__") (x := xo) rfl (evalArgs_plain (spliced_cons ?_))
      have k₃ : ∀ b o, h₁.get? b = some o → (h₂.push (kxs_mw "ValueError.__init__" xo)).get? b = some o := fun b o e => Heap.get?_push_of_some _ (k₂ b o e)
      refine wpAny_Name (wpAny_loadName_local sk s2 (hn'.keeps k₃) (v := v) (by simp) ?_) nfd
      refine spliced_nil ⟨Heap.get?_push_size _ rfl, ?_⟩
      refine call_mw (P := P) (Heap.get?_push_size _ rfl) (k₃ _ _ (k _ _ (X _ _ hC))) (k₃ _ _ hx₁) (one_size v) fun h₄ t1 k₄ e₄ => ?_
      have xL : s.heap.objs.size ≠ xo := Nat.ne_of_gt (Heap.lt_size hx)
      have k₅ : ∀ b o, b ≠ xo → h₁.get? b = some o → h₄.get? b = some o := fun b o hb e => k₄ b o hb (k₃ b o e)
      have X₄ : K.In h₄ := fun a o e => k₅ a o (fun z => by rw [z, hnx] at e; cases e) (X₁ a o e)
      have hn₄ : h₄.Ns s.heap.objs.size (fun y => if y = fld then some v else if y = "self" then some (.ref xo) else none) := hn'.at fun o e => k₅ _ o xL e
      refine ks_wpAt_execs_cons (ks_wpAt_Assign_Attr (PySem.wpAt_of_wpAny ?_) rfl)
      refine wpAny_Name (wpAny_loadName_local sk s2 hn₄ (v := v) (by simp) ?_) nfd
      refine wpAny_Name (wpAny_loadName_local sk s1 hn₄ (v := .ref xo) (by simp [nfs.symm]) ?_) (by decide)
      refine set_plain X₄ (ox := excO C t1) (od := none) ⟨e₄, rfl, rfl, trivial⟩ T.sa ?_
      refine exc_osa X₄ e₄ hcl (show refsVE (.ref C :: bm) = true from hbm) rfl T.noN (fun h₆ tk₆ dx k₆ dn dne hx₆ hn₆ => ?_)
      refine PySem.wpAt_of_wpAny (wpAny_execs_nil (hq h₆ tk₆ dx ⟨fun b o hb e => k₆ b o hb (k₅ b o hb (k b o e)), ⟨t1, hx₆⟩, ?_, dne, hn₆⟩))
      have lt4 : s.heap.objs.size < h₄.objs.size := hn₄.lt
      exact Nat.le_of_lt (Nat.lt_of_lt_of_le lt4 dn)
    · rw [arm_eval_Call]
      unfold methodCall
      have hform : ∀ t : List (Bool × Sem Value), t = backTo q5 (starEach [.Name fld q4] (ksEnv qual scope s.heap.objs.size fI (.ref cda) cc)) → methodCallForm ([Expr.Name fld q4].length + ([] : List Keyword).length) t (backToKw q5 (keywordEach [] (ksEnv qual scope s.heap.objs.size fI (.ref cda) cc))) = true := fun t e => by subst e; rfl
      have hpos : methodCallPos true (.Call (.Name "super" q1) [] [] q2) (ksEnv qual scope s.heap.objs.size fI (.ref cda) cc) q3 q5 = pure q5 := by unfold methodCallPos; simp [hline]
      have hform := hform _ rfl
      show (do
        let ov ← attributeBase (.Call (.Name "super" q1) [] [] q2) "__init__" (ksEnv qual scope s.heap.objs.size fI (.ref cda) cc) _
        standAt q3.atName
        let (f, first) ← holding [ov] (calleeOf (methodCallForm ([Expr.Name fld q4].length + ([] : List Keyword).length) (backTo q5 (starEach [.Name fld q4] (ksEnv qual scope s.heap.objs.size fI (.ref cda) cc))) (backToKw q5 (keywordEach [] (ksEnv qual scope s.heap.objs.size fI (.ref cda) cc)))) (.Call (.Name "super" q1) [] [] q2) (ksEnv qual scope s.heap.objs.size fI (.ref cda) cc) ov "__init__")
        let callPos ← methodCallPos (methodCallForm ([Expr.Name fld q4].length + ([] : List Keyword).length) (backTo q5 (starEach [.Name fld q4] (ksEnv qual scope s.heap.objs.size fI (.ref cda) cc))) (backToKw q5 (keywordEach [] (ksEnv qual scope s.heap.objs.size fI (.ref cda) cc)))) (.Call (.Name "super" q1) [] [] q2) (ksEnv qual scope s.heap.objs.size fI (.ref cda) cc) q3 q5
        callWith callPos f first (backTo q5 (starEach [.Name fld q4] (ksEnv qual scope s.heap.objs.size fI (.ref cda) cc))) (backToKw q5 (keywordEach [] (ksEnv qual scope s.heap.objs.size fI (.ref cda) cc)))) = _
      rw [hform, hpos]
      simp only [pure_bind]
      rfl
  · show interactive (ksEnv qual scope s.heap.objs.size fI (.ref cda) cc) = false
    unfold interactive
    rw [show (ksEnv qual scope s.heap.objs.size fI (.ref cda) cc).scope.kind = .function from sk]
    rfl
  · rfl
/-- a made error -/
structure OwnMade (h h' : Heap) (e C d : Addr) (fld : Str) (v : Value) : Prop where
  keep : ∀ b o, h.get? b = some o → h'.get? b = some o
  new : h.objs.size ≤ e
  obj : ∃ oe vs, h'.get? e = some oe ∧ oe.cls = .ref C ∧ oe.dict = some d ∧ oe.data = .fields vs ∧ vs[1]? = some .none
  dbig : h.objs.size ≤ d
  dne : d ≠ e
  ns : h'.Ns1 d (fun y => if y = fld then some v else none)
theorem err_made (T : ErrTxt P K mg x fld C fI) {v : Value} (X : K.In s.heap) (G : s.heap.Ns mainGlobals mg) (gs : mg "super" = none) (B : s.heap.Ns builtinsNs mb) (bs : mb "super" = some (.type "super")) (hlim : s.heap.NoLimit) (hroom : A.depth + 1 < recursionLimit)
    (hq : ∀ h' tk e d, OwnMade s.heap h' e C d fld v → R (.ok (.ret (.ref e))) { s with heap := h', toks := tk }) :
    codeAny (model P w) A (.call (.ref C) ⟨[v], []⟩) R s := by
  obtain ⟨nm, q, N, bs', bm, sn, sub, ab, col, dd, k0, k1, k2, k3, k5, hC, hbm⟩ := T.cls
  obtain ⟨hp, g, dr, tk, os⟩ := s
  have up : ∀ b o, hp.get? b = some o → ((hp.push (kdv_tup [v])).push (excO C hp.objs.size)).get? b = some o := fun b o e => Heap.get?_push_of_some _ (Heap.get?_push_of_some _ e)
  have at1 : ((hp.push (kdv_tup [v])).push (excO C hp.objs.size)).get? (hp.objs.size + 1) = some (excO C hp.objs.size) := by heap_get
  have off : K.lookup (hp.objs.size + 1) = none := by
    cases e : K.lookup (hp.objs.size + 1) with
    | none => rfl
    | some o => exact absurd (Nat.lt_of_succ_lt (Heap.lt_size (show hp.get? (hp.objs.size + 1) = some o from X _ _ e))) (Nat.lt_irrefl _)
  refine call_own F.excBase_ValueError (fun X => refsVE_contains X bm hbm) (X _ _ hC) (looks_findIn X T.iC) (fun self => bind_fn X self T.tC) (one_size v) ?_
  refine err_init (s := ⟨(hp.push (kdv_tup [v])).push (excO C hp.objs.size), g, dr, tk, os⟩) T (X.keeps up) (G.keeps up) gs (B.keeps up) bs (hlim.keeps up) at1 off ?_ fun h' tk' dx ⟨k', ⟨t1, hx⟩, dn, dne, hns⟩ => ?_
  · exact hroom
  · have old : ∀ b o, hp.get? b = some o → h'.get? b = some o := fun b o e => k' b o (Nat.ne_of_lt (Nat.lt_succ_of_lt (Heap.lt_size e))) (up b o e)
    have z : hp.objs.size + 1 + 1 ≤ dx := by
      first
        | (simpa only [Heap.size_push] using dn)
        | exact dn
        | (have q := dn; rw [Heap.size_push, Heap.size_push] at q; exact q)
    exact ⟨rfl, hq h' tk' (hp.objs.size + 1) dx ⟨old, Nat.le_succ _, ⟨_, _, hx, rfl, rfl, rfl, rfl⟩, Nat.le_trans (Nat.le_trans (Nat.le_succ _) (Nat.le_succ _)) z, dne, hns⟩⟩
end
end DL
namespace DL
open PySem PySem.Spec PyProof.Rows L2
theorem relO_fld {v : V} {v' : Value} (fld : Str) (r : RelV v v') (f : Str) : RelO (List.lookup f [(fld, v)]) (if f = fld then some v' else none) := by
  by_cases hw : f = fld
  · subst hw
    rw [if_pos rfl, show List.lookup f [(f, v)] = some v by simp [List.lookup]]
    exact r
  · have qw : (f == fld) = false := by simpa using hw
    rw [if_neg hw, show List.lookup f [(fld, v)] = none by simp [List.lookup, qw]]
    trivial
section
variable {X : Cx} {C fI : Addr} {x fld : Str} {W : Wd} {E : XK}
def tMkErr (C : Addr) (fld : Str) (ta : TA) : _root_.L2.St → Hp → XK → Prop := fun σ H Q => ta σ H fun vs H1 => ∃ v, vs = [v] ∧ ∀ d, H1 d = none → Q (.ref C) (some d) (upd H1 d (.xd [(fld, v)]))
theorem pmk_err {a : Expr} {ta : TA} {p pos : Pos} {k : Nat} (T : ErrTxt X.prog X.K X.mg x fld C fI) (hr : Room k X.A) (ha : PA X [a] ta) (hs : X.mg "super" = none) (hg : Gl X x := by rfl) (hdb : (x == ("__debug__" : Str)) = false := by decide)
    (he : starEach (a :: []) X.env = (false, eval a X.env) :: starEach [] X.env := by rfl) (hpl : (backTo pos (starEach [] X.env)).any (·.1) = false := by rfl) :
    PMk X (.Call (.Name x p) [a] [] pos) (tMkErr C fld ta) := by
  intro pins s σ H Q I h
  refine wpAny_Call_Name_kw (ld_glob I hg T.gC ?_ hdb)
  refine PySem.W.callWith_K (h₀ := X.base) I.ok.mod.kin T.kC (thn (ha.run pos pins s σ H _ I h) fun us s1 hh => ?_) he hpl
  obtain ⟨vs, H1, I1, r1, v, rfl, q1⟩ := hh
  refine ⟨I1.kIn, ?_⟩
  obtain ⟨v', rfl, rv⟩ := r1.one
  show wpAny _ _ (call (.ref C) [v']) _ _ _
  have hlim := I1.nolimit
  obtain ⟨mb, b1, b2⟩ := I1.mod.blt
  obtain ⟨hp, g, dr, tk, os⟩ := s1
  refine wpAny_call (err_made T I1.kIn (I1.mod.glob.keeps I1.bk) hs (b1.keeps I1.bk) ((b2 "super" (by decide)).trans (by decide +kernel)) hlim (by have := hr.dp; omega) fun h' tk' e d M => ?_)
  show MkP X pins σ Q (.ref e) ⟨h', g, dr, tk', os⟩
  obtain ⟨oe, fv, hoe, hc, hd, hdat, h1⟩ := M.obj
  have hns := M.ns
  obtain ⟨G', g1, g2⟩ := restrict h' fun b => decide (b ≠ e)
  have gk : ∀ b, b ≠ e → G'.get? b = h'.get? b := fun b hb => g1 b (decide_eq_true hb)
  have ge : G'.get? e = none := g2 e (by simp)
  have old : ∀ b o, hp.get? b = some o → G'.get? b = some o := fun b o q => (gk b (Nat.ne_of_lt (Nat.lt_of_lt_of_le (Heap.lt_size q) M.new))).trans (M.keep b o q)
  have ob : ObjOk X.prog X.w (upd H1 d (.xd [(fld, v)])) G' d (.xd [(fld, v)]) :=
    ⟨_, hns.at (fun o q => (gk d M.dne).trans q), fun f => relO_fld fld rv f⟩
  have J : Inv X pins σ (upd H1 d (.xd [(fld, v)])) ⟨G', g, dr, tk', os⟩ := I1.laid (t' := tk') old M.dbig ob
  refine ⟨e, oe, fv, ⟨G', g, dr, tk', os⟩, _, .ref C, some d, rfl, J, fun b o q => ?_, ge, hoe, ⟨hc, hd⟩, hdat, h1, ?_, rfl, I1.bare, raises_own T.exC T.tyC, q1 d (I1.hok.fresh M.dbig)⟩
  · by_cases hb : b = e
    · have q' : G'.get? b = some o := q
      rw [hb, ge] at q'; cases q'
    · exact (gk b hb).symm.trans q
  · rw [upd_ne (Ne.symm M.dne)]
    exact I1.hok.fresh M.new
def sRaise (k : D → Ex) (f : EF) : SF := fun ρ μ => bS (f ρ μ) fun s μ1 => match s with
  | .d d => some (.ex (k d) μ1)
  | _ => none
theorem raise_post {K : PySem.W.Frag} {F H F1 H1 : Hp} {L L1 : List Addr} {μ1 : List MO} {z : Ex} {D : Ends} {v : V} {d : Addr} (e1 : Ext F H L F1 H1 L1) (r1 : Rep K W F1 L1 μ1 H1) (p : PostS K W E F1 L1 H1 (.ex z μ1) D) (dv : Den K F1 v z.val) (nd : H1 d = none) : E (.ref (z.cls W)) (some d) (upd H1 d (.xd [(z.fld, v)])) :=
  p v d (upd F1 d (.xd [(z.fld, v)])) _ L1 (ext_newF r1 nd) (r1.newF nd (by intro ps q; cases q)) upd_same (dv.mono (le_upd (r1.free nd)))
theorem qs_raise {a : Expr} {f : EF} {p pos pos2 : Pos} {k : Nat} {mkx : D → Ex} (T : ErrTxt X.prog X.K X.mg x fld C fI) (hC : ∀ z, (mkx z).cls W = C) (hF : ∀ z, (mkx z).fld = fld) (hV : ∀ z, (mkx z).val = z) (hs : X.mg "super" = none) (hc : X.calm = true) (hr : Room k X.A) (tk : Takes X (fun cls d _ H => E cls d H)) (ha : PE X a (tOf X.K W E f)) (hg : Gl X x := by rfl) (hdb : (x == ("__debug__" : Str)) = false := by decide)
    (he : starEach (a :: []) X.env = (false, eval a X.env) :: starEach [] X.env := by rfl) (hpl : (backTo pos (starEach [] X.env)).any (·.1) = false := by rfl) :
    PS X (.Raise (some (.Call (.Name x p) [a] [] pos)) none pos2) (sOf X.K W E (sRaise mkx f)) := by
  refine PS.weak (ps_raise hc tk (pmk_err T hr (pa_cons ha pa_nil he) hs hg hdb he hpl)) fun D σ H q => ?_
  obtain ⟨F, L, μ, ρ, r, hr, hs, hf, hp⟩ := q
  show tOf X.K W E f σ H _
  refine tS_ok hr hs hf hp fun s v μ1 F1 H1 L1 hk e1 r1 d1 n1 p1 => ?_
  split at hk
  · rename_i d
    cases hk
    refine ⟨v, rfl, fun a na => ?_⟩
    have := raise_post (E := E) e1 r1 p1 (v := v) (d := a) (by rw [hV]; exact d1) na
    rw [hC, hF] at this
    exact this
  · cases hk
theorem qs_raiseA {a : Expr} {f : EF} {p pos pos2 : Pos} {k : Nat} (T : ErrTxt X.prog X.K X.mg "BadArgument" "name" W.CA fI) (hs : X.mg "super" = none) (hc : X.calm = true) (hr : Room k X.A) (tk : Takes X (fun cls d _ H => E cls d H)) (ha : PE X a (tOf X.K W E f)) (hg : Gl X "BadArgument" := by rfl)
    (he : starEach (a :: []) X.env = (false, eval a X.env) :: starEach [] X.env := by rfl) (hpl : (backTo pos (starEach [] X.env)).any (·.1) = false := by rfl) :
    PS X (.Raise (some (.Call (.Name "BadArgument" p) [a] [] pos)) none pos2) (sOf X.K W E (sRaise Ex.arg f)) := qs_raise T (fun _ => rfl) (fun _ => rfl) (fun _ => rfl) hs hc hr tk ha hg (by decide) he hpl
theorem qs_raiseT {a : Expr} {f : EF} {p pos pos2 : Pos} {k : Nat} (T : ErrTxt X.prog X.K X.mg "BadText" "place" W.CT fI) (hs : X.mg "super" = none) (hc : X.calm = true) (hr : Room k X.A) (tk : Takes X (fun cls d _ H => E cls d H)) (ha : PE X a (tOf X.K W E f)) (hg : Gl X "BadText" := by rfl)
    (he : starEach (a :: []) X.env = (false, eval a X.env) :: starEach [] X.env := by rfl) (hpl : (backTo pos (starEach [] X.env)).any (·.1) = false := by rfl) :
    PS X (.Raise (some (.Call (.Name "BadText" p) [a] [] pos)) none pos2) (sOf X.K W E (sRaise Ex.txt f)) := qs_raise T (fun _ => rfl) (fun _ => rfl) (fun _ => rfl) hs hc hr tk ha hg (by decide) he hpl
end
end DL
end

section
set_option Elab.async false
set_option linter.all false
set_option maxRecDepth 100000
set_option maxHeartbeats 4000000
/-! DLlam: lambdas handed to a def that catches the error. -/
namespace DL
open PySem PySem.Spec PyProof.Rows L2
theorem takesLen {X : Cx} {Wx : WX} (t : Takes X Wx) : Takes X (fun c d σ H => σ.length = X.N.length → Wx c d σ H) := fun u s' ⟨a, B, sI, pins, σ, H, cls, d, e, I, nb, up, sky, na, os, ag, w⟩ =>
  t u s' ⟨a, B, sI, pins, σ, H, cls, d, e, I, nb, up, sky, na, os, ag, w I.len⟩
/-- try: call() / except C as e: return e.fld / return '' -/
def TRef (C : Addr) (fld : Str) : (XK → Hp → VK → Prop) → Hp → VK → Prop := fun tl H Q =>
  tl (fun cls d H' => cls = .ref C ∧ ∃ dd v, d = some dd ∧ H' dd = some (.xd [(fld, v)]) ∧ Q v H') H fun _ H' => Q (.str "") H'
theorem ref_gives {X : Cx} {Ng : List Str} {x a e cn q fld : Str} {sg : Scope} {g C fI : Addr} {cdg : Value} {j : Nat} {p1 p2 p3 p4 p5 p6 p7 p8 p9 p10 p11 : Pos} (T : ErrTxt X.prog X.K X.mg cn fld C fI) (hN : Ng = [a, e]) (hne : a ≠ e)
    (hgl : sg.names.lookup cn = some .globalImplicit) (hcd : (cn == ("__debug__" : Str)) = false) (hel : sg.names.lookup e = some .local) (hed : (e == ("__debug__" : Str)) = false) (hec : (e == ("__classdict__" : Str)) = false)
    (hsw : ∀ env : Env, swapsWith (.Call (.Name a p1) [] [] p2) none p3.line env = pure false := by intro _; rfl) :
    LamX.GivesTo X Ng x sg g cdg [.Try [.Expr (.Call (.Name a p1) [] [] p2) p3] [.ExceptHandler (some (.Name cn p4)) (some e) [.Return (some (.Attribute (.Name e p5) fld p6)) p7] p8] [] [] p9, .Return (some (.Constant (.str "") j p10)) p11] a q (TRef C fld) := by
  intro f c' s H Q tl act hc h
  subst hN
  have nd : [a, e].Nodup := by simp [hne]
  have hgl' : Gl (cxOf C8.CX0 X.prog X.w X.K X.mg X.base [a, e] x sg g cdg X.A X.stack s H C8.E0).nox cn := hgl
  have st0 : (L2.start [a, e] [V.ref f])[0]? = some (some (V.ref f)) := rfl
  refine ⟨_, pss_cons (ps_try_as (X := (cxOf C8.CX0 X.prog X.w X.K X.mg X.base [a, e] x sg g cdg X.A X.stack s H C8.E0).nox) (c := .ref C) (i := 1) (Wout := fun _ _ _ _ => False)
      (ts := fun a' cls d => tRet (tXf a' cls d C fld (tVar 1)))
      (tb := fun W D σ H => ∃ Ech : XK, (∀ cls d σ' H', σ'.length = 2 → Ech cls d H' → W cls d σ' H') ∧ σ[0]? = some (some (.ref f)) ∧ H c' = some (LamX.CodeO c' q) ∧ tl Ech H (fun _ H' => D.nx σ H'))
      rfl rfl nd rfl (show _ = _ from hel) ⟨hgl', hcd, .inl T.gC⟩ LamX.takes0 (fun W pn xe tk _ => ?_) (fun a' oe cls d pn hz hf => pss_one (ps_ret (pe_xf ⟨T.ga, T.gg, T.exC, T.hdC⟩ T.noN hz hf (pe_var rfl (.inl hel) hed hec) ?_)))) (pss_one (ps_ret pe_str)), ?_⟩
  · refine ⟨fun pins s' σ H' D I h' => ?_⟩
    obtain ⟨Ech, hW, h1, h2, h3⟩ := h'
    have hp := act (fun c d σ H => σ.length = 2 → W c d σ H) pn xe Ech p1 p2 (takesLen tk) (fun cls d σ' H' e1 e2 => hW cls d σ' H' e2 e1)
    exact (pss_one (ps_expr (pos := p3) hp (hsw _))).run pins s' σ H' D I ⟨h1, h2, h3⟩
  · rfl
  · refine ⟨fun cls d H' => cls = .ref C ∧ ∃ dd v, d = some dd ∧ H' dd = some (.xd [(fld, v)]) ∧ Q v H', fun cls d σ' H' hl ⟨e1, dd, v, e2, e3, e4⟩ => ?_, st0, hc, ?_⟩
    · subst e1
      refine ⟨true, T.te, fun _ a' na => ?_, fun z => by cases z⟩
      refine ⟨.ref a', ?_, rfl, rfl, dd, _, v, e2, e3, ?_, e4⟩
      · rw [List.getElem?_set_self (by omega)]
      · simp [List.lookup]
    · exact h
section
variable {K : PySem.W.Frag} {W : Wd} {F H H1 : Hp} {L : List Addr} {μ : List MO}
theorem Rep.extN (R : Rep K W F L μ H) (e : LamX.ExtN H H1) (t : LamX.Tabs W.T H1) : Rep K W F L μ H1 where
  sub := fun a o h => e a o (R.sub a o h) fun ps z => R.ft a ps (by rw [h, z])
  ft := R.ft
  tabs := t
  nd := R.nd
  len := R.len
  nf := R.nf
  obj := fun i a o e1 e2 => by
    have q := R.obj i a o e1 e2
    cases o with
    | ml ds => obtain ⟨xs, h1, h2⟩ := q; exact ⟨xs, e a _ h1 lst_nt, h2⟩
    | md ks => exact e a _ (show H a = _ from q) dT_nt
theorem ext_extN (e : LamX.ExtN H H1) : Ext F H L F H1 L :=
  ⟨fun _ _ h => h, fun b o h _ n => e b o h n, fun b ⟨o, h, n⟩ => ⟨o, e b o h n, n⟩, fun _ _ h => h, ⟨[], by simp, by simp⟩⟩
end
/-- what a def that makes lambdas has: its code object at c, the table at P -/
structure LamT (base : Heap) (mg : Str → Option Value) (W : Wd) (x : Str) (c P : Addr) : Prop where
  tb : LamX.TabB base mg c P
  mem : (P, (x ++ ".<locals>.") ++ "<lambda>") ∈ W.T
  un : ∀ p ∈ W.T, p.1 = P → p.2 = (x ++ ".<locals>.") ++ "<lambda>"
def eRefused (f : EF) : EF := fun ρ μ => match f ρ μ with
  | some (.ok _ μ1) => some (.ok (.d (.str "")) μ1)
  | some (.ex (.arg d) μ1) => some (.ok (.d d) μ1)
  | _ => none
section
variable {X : Cx} {W : Wd} {E : XK}
theorem q_refused {st : Stmt} {c P fI : Addr} {k : Nat} {params : Arguments} {body : Expr} {scope : Scope} {f : EF} {p lpos pos : Pos} {x : Str} {j : Nat} {p1 p2 p3 p4 p5 p6 p7 p8 p9 p10 p11 : Pos}
    (T : ErrTxt X.prog X.K X.mg "BadArgument" "name" W.CA fI) (R : St0 X.K X.mg "_law_refused" st) (LT : LamT X.base X.mg W x c P) (hcode : X.env.code = .ref c) (hq : X.env.qual = x ++ ".<locals>.") (hr : Room (k + 2) X.A)
    (hbody : ∀ (A : Around) (outer : List Env) (s : Shared) (H : Hp) (E : XK) (f' c' : Addr), Room k (A.deeper (LamX.lamEnv X scope s.heap.objs.size f' c')) → PE (LamX.lamCx X A outer s H E scope f' c') body (tOf X.K W E f))
    (hb : defBody st = [.Try [.Expr (.Call (.Name "call" p1) [] [] p2) p3] [.ExceptHandler (some (.Name "BadArgument" p4)) (some "e") [.Return (some (.Attribute (.Name "e" p5) "name" p6)) p7] p8] [] [] p9, .Return (some (.Constant (.str "") j p10)) p11] := by rfl)
    (bi : ∀ (kV doc pm : Value) (an : Option Addr) (cdv ct : Value) (us : List Value), us.length = (["call"] : List Str).length → bindArgs (PySem.W.fnOf "_law_refused" "_law_refused" (defArgs st) (defBody st) (defScope st) .none kV doc pm an cdv ct) ⟨us, []⟩ = pure ((["call"] : List Str).zip us) := by exact fun _ _ _ _ _ _ us hl => match us, hl with | [_], _ => rfl)
    (sc : FnScope ["call", "e"] ["call"] (defScope st) := by exact ⟨rfl, rfl, rfl, by decide +kernel, rfl, by decide +kernel, by decide +kernel⟩)
    (h1 : (defScope st).names.lookup ("BadArgument" : Str) = some .globalImplicit := by rfl) (h2 : (defScope st).names.lookup ("e" : Str) = some .local := by rfl) (h3 : (defScope st).names.lookup ("call" : Str) = some .local := by rfl)
    (hg : Gl X "_law_refused" := by rfl) (hL : LamX.lamSB X.env.scope scope = true := by rfl) (hdef : defaultsOf params X.env = ([], []) := by rfl)
    (hbind : ∀ (q : Str) (cl : List (Str × Addr)) (pm cv ctv : Value), bindArgs (PySem.W.kla_fn "<lambda>" q params body scope cl pm cv ctv) ⟨[], []⟩ = pure [] := by intros; rfl) :
    PE X (.Call (.Name "_law_refused" p) [.Lambda params body scope lpos] [] pos) (tOf X.K W E (eRefused f)) := by
  obtain ⟨g, gd, hm, hF⟩ := R.ex
  have hkp := hF.kp
  have hbs := Fun.binds (ps := (["call"] : List Str)) hF bi
  obtain ⟨oc, od, kV, doc, pm, an, cdv, ct, osl, rfl, lk, hcd⟩ := hF.ex
  have hG := ref_gives (X := X) (Ng := ["call", "e"]) (x := "_law_refused") (a := "call") (e := "e") (sg := defScope st) (g := g) (cdg := cdv) (q := X.env.qual ++ "<lambda>") (j := j) (p1 := p1) (p2 := p2) (p3 := p3) (p4 := p4) (p5 := p5) (p6 := p6) (p7 := p7) (p8 := p8) (p9 := p9) (p10 := p10) (p11 := p11) T rfl (by decide) h1 (by decide) h2 (by decide) (by decide)
  rw [← hb] at hG
  refine PE.weak (LamX.pe_lamcall (T := W.T) (t := fun E => tOf X.K W E f) (c := c) (P := P) hg hm hkp lk hcd hbs sc rfl (.inl h3) hG LT.tb hcode (by rw [hq]; exact LT.mem) (by rw [hq]; exact LT.un) hr (LamX.lamS_by hL) hdef hbind hbody) fun σ H Q h => ?_
  obtain ⟨F, L, μ, ρ, res, hr, hs, hf, hp⟩ := h
  refine ⟨hr.tabs, fun H1 eN T1 => ?_⟩
  have r1 := hr.extN eN T1
  have e1 : Ext F H L F H1 L := ext_extN eN
  unfold eRefused at hf
  show tOf X.K W _ f σ H1 _
  cases ea : f ρ μ with
  | none => rw [ea] at hf; cases hf
  | some ra =>
    rw [ea] at hf
    refine ⟨F, L, μ, ρ, ra, r1, hs, ea, ?_⟩
    cases ra with
    | ok s μ1 =>
      cases hf
      exact fun v F2 H2 L2 e2 r2 _ _ => hp _ F2 H2 L2 (e1.trans e2) r2 (.str "") (by simp)
    | ex z μ1 =>
      cases z with
      | arg d =>
        cases hf
        exact fun v dd F2 H2 L2 e2 r2 h2 d2 => ⟨rfl, dd, v, rfl, h2, hp v F2 H2 L2 (e1.trans e2) r2 (show Den X.K F2 v d from d2) (by simp)⟩
      | txt d => cases hf
end
end DL
end

section
set_option Elab.async false
set_option linter.all false
set_option maxRecDepth 100000
set_option maxHeartbeats 4000000
/-! DLend: orders of keywords; defs with lambdas. -/
namespace DL
open PySem PySem.Spec PyProof.Rows L2
def pmF {α : Type} (p q : Nat) (ix : List (Bool × Nat)) (us ws : List α) : List α := if us.length = p ∧ ws.length = q then ix.filterMap fun z => if z.1 then ws[z.2]? else us[z.2]? else []
theorem pmF_some {α : Type} {p q : Nat} {ix : List (Bool × Nat)} {us ws : List α} (h : (pmF p q ix us ws).length ≠ 0) : us.length = p ∧ ws.length = q := by
  unfold pmF at h
  split at h
  · assumption
  · exact absurd rfl h
theorem pmF_vals {p q : Nat} {ix : List (Bool × Nat)} {vs zs : List V} {us ws : List Value} (h1 : Vals vs us) (h2 : Vals zs ws) : Vals (pmF p q ix vs zs) (pmF p q ix us ws) := by
  unfold pmF
  rw [h1.length, h2.length]
  split
  · induction ix with
    | nil => exact .nil
    | cons z ix ih =>
      have key : (∃ v u, (if z.1 then zs[z.2]? else vs[z.2]?) = some v ∧ (if z.1 then ws[z.2]? else us[z.2]?) = some u ∧ RelV v u) ∨ ((if z.1 then zs[z.2]? else vs[z.2]?) = none ∧ (if z.1 then ws[z.2]? else us[z.2]?) = none) := by
        have one : ∀ {as : List V} {bs : List Value}, Vals as bs → (∃ v u, as[z.2]? = some v ∧ bs[z.2]? = some u ∧ RelV v u) ∨ (as[z.2]? = none ∧ bs[z.2]? = none) := fun {as bs} h => by
          cases e : as[z.2]? with
          | none => exact .inr ⟨rfl, by rw [List.getElem?_eq_none_iff] at e ⊢; rw [← h.length]; exact e⟩
          | some v =>
            obtain ⟨u, h1, h2⟩ := h.get e
            exact .inl ⟨v, u, rfl, h1, h2⟩
        cases z.1 with
        | true => exact one h2
        | false => exact one h1
      rw [List.filterMap_cons, List.filterMap_cons]
      rcases key with ⟨v, u, e1, e2, r⟩ | ⟨e1, e2⟩
      · rw [e1, e2]; exact .cons r ih
      · rw [e1, e2]; exact ih
  · exact .nil
theorem DenSs.get {K : PySem.W.Frag} {F : Hp} {L : List Addr} : ∀ {vs : List V} {ss : List S} {i : Nat} {v : V}, DenSs K F L vs ss → vs[i]? = some v → ∃ s, ss[i]? = some s ∧ DenS K F L v s
  | _, _, _, _, .nil, e => by simp at e
  | _, _, 0, _, .cons h _, e => by simp at e; subst e; exact ⟨_, rfl, h⟩
  | _, _, i + 1, v, .cons _ l, e => by
    obtain ⟨s, h1, h2⟩ := DenSs.get (i := i) (v := v) l (by simpa using e)
    exact ⟨s, by simpa using h1, h2⟩
theorem pmF_den {K : PySem.W.Frag} {F : Hp} {L : List Addr} {p q : Nat} {ix : List (Bool × Nat)} {vs zs : List V} {ss us : List S} (h1 : DenSs K F L vs ss) (h2 : DenSs K F L zs us) : DenSs K F L (pmF p q ix vs zs) (pmF p q ix ss us) := by
  unfold pmF
  rw [h1.length, h2.length]
  split
  · induction ix with
    | nil => exact .nil
    | cons z ix ih =>
      have key : (∃ v u, (if z.1 then zs[z.2]? else vs[z.2]?) = some v ∧ (if z.1 then us[z.2]? else ss[z.2]?) = some u ∧ DenS K F L v u) ∨ ((if z.1 then zs[z.2]? else vs[z.2]?) = none ∧ (if z.1 then us[z.2]? else ss[z.2]?) = none) := by
        have one : ∀ {as : List V} {bs : List S}, DenSs K F L as bs → (∃ v u, as[z.2]? = some v ∧ bs[z.2]? = some u ∧ DenS K F L v u) ∨ (as[z.2]? = none ∧ bs[z.2]? = none) := fun {as bs} h => by
          cases e : as[z.2]? with
          | none => exact .inr ⟨rfl, by rw [List.getElem?_eq_none_iff] at e ⊢; rw [← h.length]; exact e⟩
          | some v =>
            obtain ⟨u, h1, h2⟩ := h.get e
            exact .inl ⟨v, u, rfl, h1, h2⟩
        cases z.1 with
        | true => exact one h2
        | false => exact one h1
      rw [List.filterMap_cons, List.filterMap_cons]
      rcases key with ⟨v, u, e1, e2, r⟩ | ⟨e1, e2⟩
      · rw [e1, e2]; exact .cons r ih
      · rw [e1, e2]; exact ih
  · exact .nil
/-- where a def stands whose code object is at c -/
structure St0C (K : PySem.W.Frag) (mg : Str → Option Value) (x : Str) (st : Stmt) (c : Addr) : Prop where
  ex : ∃ f fd, mg x = some (.ref f) ∧ Fun K x x st f fd ∧ fd.code = .ref c
section
variable {P : Program} {w : World} {K : PySem.W.Frag} {mg : Str → Option Value} {base : Heap} {W : Wd}
theorem fn_keepsC {x qual : Str} {st : Stmt} {f c : Addr} {fd : FuncData} {N ps : List Str} {k : Nat} {g : GF} {fb : SF} (Fn : Fun K x qual st f fd) (hc : fd.code = .ref c) (Sc : FnScope N ps (defScope st))
    (hbody : ∀ (A : Around) (outer : List Env) (s : Shared) (H : Hp) (E : XK), Room k (A.deeper (envOfC qual (defScope st) s.heap.objs.size f (.ref c))) → PSs (bodyCx P w K mg base N qual (defScope st) f (.ref c) A outer s H E) (defBody st) (sOf K W E fb))
    (hsem : ∀ (ss : List S) (μ : List MO) (r : ER), ss.length = ps.length → g ss μ = some r → fin μ.length (fb (startS N.length ss) μ) = some r) : FnOk P w K mg base (L2.CX P w) (k + 1) f fd ps (spG K W ps.length g) := by
  obtain ⟨oc, od, kV, doc, pm, an, cdv, ct, osl, rfl, lk, hcd⟩ := Fn.ex
  have hc : cdv = .ref c := hc
  subst hc
  refine fn_of lk hcd Sc (fun vs H Q E h => h.1) fun A outer s H vs Q E hr h => ⟨sOf K W E fb, hbody A outer s H E hr, ?_⟩
  obtain ⟨hl, F, L, μ, ss, r, hr, hs, hg, hp⟩ := h
  have hse := hsem ss μ r (by rw [← hs.length]; exact hl) hg
  cases eb : fb (startS N.length ss) μ with
  | none => rw [eb] at hse; cases hse
  | some rs =>
    rw [eb] at hse
    exact ⟨F, L, μ, _, rs, hr, .start hs, eb, fin_post hr.len.symm hse hp⟩
end
end DL
end

section
set_option Elab.async false
set_option linter.all false
set_option maxRecDepth 100000
set_option maxHeartbeats 4000000
/-! DLtxt: texts. -/
namespace DL
open PySem PySem.Spec PyProof.Rows L2
/-! ### the signs of a text -/
def charsD (z : Str) : List D := z.cps.toList.map fun c => .str ⟨#[c]⟩
theorem walkD_str {K : PySem.W.Frag} {F : Hp} (z : Str) : WalkD K F (Its z) (charsD z) := fun H _ => by
  have hl : (charsD z).length = z.cps.size := by simp [charsD]
  refine ⟨fun i hi => by rw [hl] at hi; exact hi, by rw [hl]; exact Nat.le_refl _, fun i x H' d hd y => ?_⟩
  obtain ⟨e1, c, hc, e2⟩ := y
  subst e1 e2
  have : d = .str ⟨#[c]⟩ := by
    unfold charsD at hd
    rw [List.getElem?_map, ← Array.getElem?_toList] at *
    rw [show z.cps.toList[i]? = some c from by simpa using hc] at hd
    simpa using hd.symm
  subst this
  exact .inl ⟨rfl, .str _⟩
def iChars (f : EF) : IF := fun ρ μ => match f ρ μ with
  | some (.ok (.d (.str z)) μ1) => some (.ok (charsD z) μ1)
  | some (.ex x μ1) => some (.ex x μ1)
  | _ => none
section
variable {X : Cx} {W : Wd} {E : XK}
theorem q_ichars {tg e : Expr} {f : EF} (he : PE X e (tOf X.K W E f)) : PI X tg e (iOf X.K W E (iChars f)) := by
  refine PI.weak (pi_str he) fun σ H R h => ?_
  obtain ⟨F, L, μ, ρ, res, hr, hs, hf, hp⟩ := h
  unfold iChars at hf
  cases ea : f ρ μ with
  | none => rw [ea] at hf; cases hf
  | some ra =>
    rw [ea] at hf
    cases ra with
    | ex x μ1 => cases hf; exact ⟨F, L, μ, ρ, _, hr, hs, ea, hp⟩
    | ok s μ1 =>
      cases s with
      | un => cases hf
      | m i => cases hf
      | d d =>
        cases d with
        | str z =>
          cases hf
          refine ⟨F, L, μ, ρ, _, hr, hs, ea, fun v F1 H1 L1 e1 r1 d1 n1 => ?_⟩
          cases d1
          exact ⟨z, rfl, hp _ F1 H1 L1 e1 r1 (walkD_str z)⟩
        | _ => cases hf
/-! ### one sign in a text -/
def gInS (neg : Bool) : G2 := fun s u μ => match s, u with
  | .d (.str a), .d (.str z) => (match a.cps.toList with
    | [c] => some (.ok (.d (.bl (if neg then !decide (c ∈ z.cps.toList) else decide (c ∈ z.cps.toList)))) μ)
    | _ => none)
  | _, _ => none
theorem o2_inS {K : PySem.W.Frag} : Op2 K W E (fun x y H Q => ∃ (c : Nat) (z : Str), x = .str ⟨#[c]⟩ ∧ y = .str z ∧ Q (.bl (decide (c ∈ z.cps.toList))) H) (gInS false) := fun F L μ H x y s u res Q hr h1 h2 hg hp => by
  unfold gInS at hg
  split at hg
  · rename_i a z
    split at hg
    · rename_i c e
      cases hg; cases h1; cases h2
      have ea : a = ⟨#[c]⟩ := by
        cases a with | mk cps => simp at e; congr 1; exact Array.toList_inj.mp (by simpa using e)
      exact ⟨c, z, by rw [ea], rfl, post_d hr hp (.bl _)⟩
    · cases hg
  · cases hg
theorem o2_ninS {K : PySem.W.Frag} : Op2 K W E (fun x y H Q => ∃ (c : Nat) (z : Str), x = .str ⟨#[c]⟩ ∧ y = .str z ∧ Q (.bl (!decide (c ∈ z.cps.toList))) H) (gInS true) := fun F L μ H x y s u res Q hr h1 h2 hg hp => by
  unfold gInS at hg
  split at hg
  · rename_i a z
    split at hg
    · rename_i c e
      cases hg; cases h1; cases h2
      have ea : a = ⟨#[c]⟩ := by
        cases a with | mk cps => simp at e; congr 1; exact Array.toList_inj.mp (by simpa using e)
      exact ⟨c, z, by rw [ea], rfl, post_d hr hp (.bl _)⟩
    · cases hg
  · cases hg
/-! ### methods of a text with one argument -/
def eM1 (g : Str → S → List MO → Option ER) (fo fa : EF) : EF := fun ρ μ => bE (fo ρ μ) fun s μ1 => match s with
  | .d (.str a) => bE (fa ρ μ1) fun u μ2 => g a u μ2
  | _ => none
def M1Ok (K : PySem.W.Frag) (W : Wd) (E : XK) (r : V → List V → Hp → VK → Prop) (g : Str → S → List MO → Option ER) : Prop :=
  ∀ F L μ H a y u res Q, Rep K W F L μ H → DenS K F L y u → g a u μ = some res → PostE K W E F L H res Q → r (.str a) [y] H Q
theorem q_m1 {id : String} {name : Str} {o e : Expr} {fo fa : EF} {apos pos : Pos} {r : V → List V → Hp → VK → Prop} {g : Str → S → List MO → Option ER} (slot : Slot "str" name id) (ty : typeOf (.builtin id) = pure (.type "method_descriptor")) (rule : MtR X id r) (hg : M1Ok X.K W E r g) (ho : PE X o (tOf X.K W E fo)) (he : PE X e (tOf X.K W E fa))
    (hs : starEach [e] X.env = [(false, eval e X.env)] := by rfl) (hbase : attributeBase o name X.env (eval o X.env) = eval o X.env := by rfl) (hline : (apos.endLine == pos.line) = true := by rfl) : PE X (.Call (.Attribute o name apos) [e] [] pos) (tOf X.K W E (eM1 g fo fa)) := by
  refine PE.weak (pe_m1 slot ty rule ho he hs hbase hline) fun σ H Q h => ?_
  obtain ⟨F, L, μ, ρ, res, hr, hs, hf, hp⟩ := h
  show tOf X.K W E fo σ H _
  refine tOf_ok hr hs hf hp fun s v μ1 F1 H1 L1 hk e1 r1 d1 p1 => ?_
  cases s with
  | un => cases hk
  | m i => cases hk
  | d d =>
    cases d with
    | str a =>
      cases d1
      refine ⟨⟨a, rfl⟩, ?_⟩
      show tOf X.K W E fa σ H1 _
      exact tOf_ok r1 (hs.mono e1) hk p1 fun u y μ2 F2 H2 L2 hk2 e2 r2 d2 p2 => hg F2 L2 μ2 H2 a y u res Q r2 d2 hk2 p2
    | _ => cases hk
/-! ### split, join, find, index -/
def gSplit (mk : Bool) (a : Str) : S → List MO → Option ER := fun u μ => match u with
  | .d (.str b) => if (b.length == 0) = false ∧ a.length ≤ small24 then newL mk ((Txt.split a b).map .str) μ else none
  | _ => none
theorem m1_split {mk : Bool} {K : PySem.W.Frag} : M1Ok K W E (fun x xs H Q => ∃ a b, x = .str a ∧ xs = [.str b] ∧ (b.length == 0) = false ∧ a.length + 2 ≤ sizeLine ∧ rNewStrs (Txt.split a b) H Q) (gSplit mk) := fun F L μ H a y u res Q hr h2 hg hp => by
  unfold gSplit at hg
  split at hg
  · rename_i b
    by_cases hc : (b.length == 0) = false ∧ a.length ≤ small24
    · rw [if_pos hc] at hg
      cases h2
      refine ⟨a, b, rfl, rfl, hc.1, ?_, fun p np => post_newL hr hg hp np (DenL.of_strs _)⟩
      have : (200002 : Nat) ≤ sizeLine := by decide
      have h2 := hc.2
      unfold small24 at h2
      omega
    · rw [if_neg hc] at hg; cases hg
  · cases hg
def allStrs : List D → Option (List Str)
  | [] => some []
  | .str x :: r => (allStrs r).map (x :: ·)
  | _ :: _ => none
theorem allStrs_ok : ∀ {ds : List D} {ys : List Str}, allStrs ds = some ys → ds = ys.map D.str
  | [], ys, h => by cases h; rfl
  | d :: r, ys, h => by
    cases d with
    | str x =>
      unfold allStrs at h
      cases e : allStrs r with
      | none => rw [e] at h; cases h
      | some ms => rw [e] at h; cases h; rw [allStrs_ok e]; rfl
    | _ => cases h
theorem allStrs_map : ∀ ys : List Str, allStrs (ys.map D.str) = some ys
  | [] => rfl
  | y :: ys => by simp [allStrs, allStrs_map ys]
def gJoin (a : Str) : S → List MO → Option ER := fun u μ => match (viewS μ u).bind allStrs with
  | some ys => if (ys.map (·.length)).sum + ys.length * a.length ≤ small24 then some (.ok (.d (.str (Txt.join a ys))) μ) else none
  | none => none
theorem m1_join {K : PySem.W.Frag} : M1Ok K W E (fun x xs H Q => ∃ a p, ∃ ys : List Str, x = .str a ∧ xs = [.ref p] ∧ (SqL K H p (ys.map V.str) ∨ SqT K H p (ys.map V.str)) ∧ (ys.map (·.length)).sum + ys.length * a.length ≤ 16777216 ∧ Q (.str (Txt.join a ys)) H) gJoin := fun F L μ H a y u res Q hr h2 hg hp => by
  unfold gJoin at hg
  cases ev : viewS μ u with
  | none => rw [ev] at hg; cases hg
  | some ds =>
    rw [ev, Option.bind_some] at hg
    cases ea : allStrs ds with
    | none => rw [ea] at hg; cases hg
    | some ys =>
      rw [ea] at hg
      simp only at hg
      by_cases hc : (ys.map (·.length)).sum + ys.length * a.length ≤ small24
      · rw [if_pos hc] at hg; cases hg
        obtain ⟨p, xs, rfl, ha, da⟩ := viewS_ok hr h2 ev
        have hd := allStrs_ok ea
        subst hd
        rw [da.strs] at ha
        refine ⟨a, p, ys, rfl, rfl, ha, ?_, post_d hr hp (.str _)⟩
        unfold small24 at hc; omega
      · rw [if_neg hc] at hg; cases hg
def gFind (a : Str) : S → List MO → Option ER := fun u μ => match u with
  | .d (.str b) => some (.ok (.d (.int (Txt.find a b))) μ)
  | _ => none
theorem m1_find {K : PySem.W.Frag} : M1Ok K W E (fun x xs H Q => ∃ a b, x = .str a ∧ xs = [.str b] ∧ Q (.int (Txt.find a b)) H) gFind := fun F L μ H a y u res Q hr h2 hg hp => by
  unfold gFind at hg
  split at hg
  · rename_i b
    cases hg; cases h2
    exact ⟨a, b, rfl, rfl, post_d hr hp (.int _)⟩
  · cases hg
def gIndex (a : Str) : S → List MO → Option ER := fun u μ => match u with
  | .d (.str b) => (match Builtin.Str.occurrences a b 0 a.length 1 with
    | i :: _ => some (.ok (.d (.int (i : Nat))) μ)
    | [] => none)
  | _ => none
theorem m1_index {K : PySem.W.Frag} : M1Ok K W E (fun x xs H Q => ∃ a b i rest, x = .str a ∧ xs = [.str b] ∧ Builtin.Str.occurrences a b 0 a.length 1 = i :: rest ∧ Q (.int (i : Nat)) H) gIndex := fun F L μ H a y u res Q hr h2 hg hp => by
  unfold gIndex at hg
  split at hg
  · rename_i b
    split at hg
    · rename_i i rest e
      cases hg; cases h2
      exact ⟨a, b, i, rest, rfl, rfl, e, post_d hr hp (.int _)⟩
    · cases hg
  · cases hg
/-! ### str(int), int(text) -/
def gStr : GF := fun ss μ => match ss with
  | [.d (.int i)] => if i.natAbs.log2 < 1920 then some (.ok (.d (.str (Str.ofString (toString i)))) μ) else none
  | _ => none
theorem k_strI {K : PySem.W.Frag} : COk K W E (fun xs H Q => ∃ i : Int, xs = [.int i] ∧ i.natAbs.log2 < 1920 ∧ Q (.str (toString i)) H) gStr := fun F L μ H vs ss res Q hr hd hg hp => by
  unfold gStr at hg
  split at hg
  · rename_i i
    by_cases hc : i.natAbs.log2 < 1920
    · rw [if_pos hc] at hg; cases hg
      obtain ⟨v, rfl, h⟩ := hd.one
      cases h
      exact ⟨i, rfl, hc, post_d hr hp (.str _)⟩
    · rw [if_neg hc] at hg; cases hg
  · cases hg
def gIntS : GF := fun ss μ => match ss with
  | [.d (.str a)] => (match PySem.intText? a with
    | some n => if a.length ≤ 640 then some (.ok (.d (.int n)) μ) else none
    | none => none)
  | _ => none
theorem k_intS {K : PySem.W.Frag} : COk K W E (fun xs H Q => ∃ a n, xs = [.str a] ∧ PySem.intText? a = some n ∧ a.length ≤ 640 ∧ Q (.int n) H) gIntS := fun F L μ H vs ss res Q hr hd hg hp => by
  unfold gIntS at hg
  split at hg
  · rename_i a
    split at hg
    · rename_i n e
      by_cases hc : a.length ≤ 640
      · rw [if_pos hc] at hg; cases hg
        obtain ⟨v, rfl, h⟩ := hd.one
        cases h
        exact ⟨a, n, rfl, e, hc, post_d hr hp (.int _)⟩
      · rw [if_neg hc] at hg; cases hg
    · cases hg
  · cases hg
/-! ### a written text of parts -/
def eFmt (f : EF) : EF := fun ρ μ => bE (f ρ μ) fun s μ1 => match s with
  | .d (.int i) => if i.natAbs.log2 < 1920 then some (.ok (.d (.str (Str.ofString (toString i)))) μ1) else none
  | .d (.str y) => if y.length ≤ small24 then some (.ok (.d (.str y)) μ1) else none
  | _ => none
theorem q_fmt {e : Expr} {f : EF} {pos : Pos} (he : PE X e (tOf X.K W E f)) : PE X (.FormattedValue e (-1) none pos) (tOf X.K W E (eFmt f)) := by
  refine PE.weak (pe_fmt he) fun σ H Q h => ?_
  obtain ⟨F, L, μ, ρ, res, hr, hs, hf, hp⟩ := h
  show tOf X.K W E f σ H _
  refine tOf_ok hr hs hf hp fun s v μ1 F1 H1 L1 hk e1 r1 d1 p1 => ?_
  split at hk
  · rename_i i
    by_cases hc : i.natAbs.log2 < 1920
    · rw [if_pos hc] at hk; cases hk; cases d1
      exact .inr ⟨i, rfl, hc, post_d r1 p1 (.str _)⟩
    · rw [if_neg hc] at hk; cases hk
  · rename_i y
    by_cases hc : y.length ≤ small24
    · rw [if_pos hc] at hk; cases hk; cases d1
      exact .inl ⟨y, rfl, small24_line hc, post_d r1 p1 (.str _)⟩
    · rw [if_neg hc] at hk; cases hk
  · cases hk
def eJs : List EF → Str → EF
  | [], acc => fun _ μ => some (.ok (.d (.str acc)) μ)
  | f :: fs, acc => fun ρ μ => bE (f ρ μ) fun s μ1 => match s with
    | .d (.str y) => if (acc ++ y).length ≤ small24 then eJs fs (acc ++ y) ρ μ1 else none
    | _ => none
theorem tJs_of : ∀ (fs : List EF) (acc : Str) (σ : Sl) (H : Hp) (Q : VK), tOf X.K W E (eJs fs acc) σ H Q → tJs (fs.map (tOf X.K W E)) acc σ H fun out H1 => Q (.str out) H1
  | [], acc, σ, H, Q, h => by
    obtain ⟨F, L, μ, ρ, res, hr, hs, hf, hp⟩ := h
    cases hf
    exact post_d hr hp (.str acc)
  | f :: fs, acc, σ, H, Q, h => by
    obtain ⟨F, L, μ, ρ, res, hr, hs, hf, hp⟩ := h
    show tOf X.K W E f σ H _
    refine tOf_ok hr hs hf hp fun s v μ1 F1 H1 L1 hk e1 r1 d1 p1 => ?_
    cases s with
    | un => cases hk
    | m i => cases hk
    | d d =>
      cases d with
      | str y =>
        cases d1
        simp only at hk
        by_cases hc : (acc ++ y).length ≤ small24
        · rw [if_pos hc] at hk
          exact ⟨y, rfl, small24_line hc, tJs_of fs (acc ++ y) σ H1 Q ⟨F1, L1, μ1, ρ, res, r1, hs.mono e1, hk, p1⟩⟩
        · rw [if_neg hc] at hk; cases hk
      | _ => cases hk
inductive PJs (X : Cx) (W : Wd) (E : XK) : List Expr → List EF → Prop
  | nil : PJs X W E [] []
  | cons {e : Expr} {f : EF} {es : List Expr} {fs : List EF} : PE X e (tOf X.K W E f) → PJs X W E es fs → PJs X W E (e :: es) (f :: fs)
theorem PJs.pj : ∀ {es : List Expr} {fs : List EF}, PJs X W E es fs → PJ X es (fs.map (tOf X.K W E))
  | _, _, .nil => .nil
  | _, _, .cons h r => .cons h r.pj
theorem q_joined {v1 v2 : Expr} {rest : List Expr} {fs : List EF} {pos : Pos} (h : PJs X W E (v1 :: v2 :: rest) fs) : PE X (.JoinedStr (v1 :: v2 :: rest) pos) (tOf X.K W E (eJs fs Str.empty)) :=
  PE.weak (pe_joined h.pj) fun σ H Q h => tJs_of fs Str.empty σ H Q h
end
end DL
end

section
set_option Elab.async false
set_option linter.all false
set_option maxRecDepth 100000
set_option maxHeartbeats 4000000
/-! DLguard: defs that are run where no repr is under way (guards = some []). -/
namespace DL
open PySem PySem.Spec PyProof.Rows L2
theorem deeper_guards {A : Around} {env : Env} (h : A.guards = some []) : (A.deeper env).guards = some [] := by
  first
    | exact h
    | simp [Around.deeper, Around.under, h]
    | (unfold Around.deeper; simp [Around.under, Code.guards, Code.isGuard, pushGuards, h])
structure FnOkG (P : Program) (w : World) (K : PySem.W.Frag) (mg : Str → Option Value) (base : Heap) (CX : CXT) (k : Nat) (f : Addr) (fd : FuncData) (ps : List Str) (sp : Sp) : Prop where
  len : ∀ vs H Q E, sp vs H Q E → vs.length = ps.length
  run : ∀ (A : Around) (outer : List Env) (s : Shared) (H : Hp) (args : Args) (us : List Value) (vs : List V) (Q : VK) (E : XK), A.guards = some [] → Room k A → Env0 P w K mg base A outer s H → BindsTo s fd args (ps.zip us) → Vals vs us → sp vs H Q E →
    codeAny (model P w) A (.call (.ref f) args) (CR CX outer P w H s Q E) s
section
variable {P : Program} {w : World} {K : PySem.W.Frag} {mg : Str → Option Value} {base : Heap} {W : Wd}
theorem fnG_of {x qual : Str} {st : Stmt} {f : Addr} {fd : FuncData} {N ps : List Str} {k : Nat} {sp : Sp} (Fn : Fun K x qual st f fd) (Sc : FnScope N ps (defScope st)) (len : ∀ vs H Q E, sp vs H Q E → vs.length = ps.length)
    (hbody : ∀ (cdv : Value) (A : Around) (outer : List Env) (s : Shared) (H : Hp) (vs : List V) (Q : VK) (E : XK), fd.code = cdv → A.guards = some [] → Room k (A.deeper (envOfC qual (defScope st) s.heap.objs.size f cdv)) → sp vs H Q E →
      ∃ t, PSs (cxOf (L2.CX P w) P w K mg base N qual (defScope st) f cdv A outer s H E) (defBody st) t ∧ t { nx := fun _ H' => Q .non H', rt := Q } (start N vs) H) : FnOkG P w K mg base (L2.CX P w) (k + 1) f fd ps sp := by
  obtain ⟨oc, od, kV, doc, pm, an, cdv, ct, osl, rfl, lk, hcd⟩ := Fn.ex
  constructor
  · exact len
  intro A outer s0 H args us vs Q E hgd room env bnd vals pre
  have inK : K.In s0.heap := env.mod.kin.keeps fun b o e => (env.bs b o e).1
  have noLim : s0.heap.NoLimit := env.mod.nolimit.keeps fun b o e => (env.bs b o e).1
  have kinds : ∀ y ∈ ps.zip us, (defScope st).names.lookup y.1 = some .local ∨ ((defScope st).names.lookup y.1 = some .cell ∧ ((cellsFrom (s0.heap.objs.size + 1) (defScope st).names []).lookup y.1).isSome = true) := by
    rintro ⟨nm, val⟩ hmem
    exact (Sc.par nm (List.of_mem_zip hmem).1).imp (fun q => q) fun q => ⟨q, PySem.W.cellsFrom_some _ _ _ (.inl q)⟩
  refine codeAny_call_function room.depth (inK _ _ lk) rfl Sc.co Sc.gen rfl (PySem.W.codeRec_of inK hcd) (bnd _ _ _ _ (wpAny_newFunctionEnv_cells Sc.kind kinds fun env1 he s1 ent => ?_))
  subst he
  refine ⟨noLim.keeps ent.toInCall.keep, codeAny_func ?_⟩
  obtain ⟨t, walk, start0⟩ := hbody cdv A outer s0 H vs Q E rfl hgd (room.deeper _) pre
  have I0 : Inv (cxOf (L2.CX P w) P w K mg base N qual (defScope st) f cdv A outer s0 H E) [] (start N vs) H s1 := inv_start Sc room.hd env (len _ _ _ _ pre) vals ent
  refine wpAny_mono (walk.run [] s1 (start N vs) H _ I0 start0) (fun out s2 post => ?_) fun _ _ z => z
  match out, post with
  | .ret u, ⟨v, σ2, H2, J, rv, q⟩ => exact ⟨v, H2, J.os, J.bare, J.base, J.hok, rv, q⟩
  | .next, ⟨σ2, H2, J, q⟩ => exact ⟨V.non, H2, J.os, J.bare, J.base, J.hok, rfl, q⟩
  | .brk, ⟨_, _, _, q⟩ => exact q.elim
  | .cont, ⟨_, _, _, q⟩ => exact q.elim
end
section
variable {X : Cx} {W : Wd} {E : XK} {k : Nat} {x : Str} {st : Stmt} {ps : List Str} {g : GF}
/-- a def that keeps its contract where no repr is under way -/
structure CalG (P : Program) (w : World) (K : PySem.W.Frag) (mg : Str → Option Value) (base : Heap) (W : Wd) (k : Nat) (x : Str) (st : Stmt) (ps : List Str) (g : GF) : Prop where
  ex : ∃ f fd, mg x = some (.ref f) ∧ Fun K x x st f fd ∧ FnOkG P w K mg base (L2.CX P w) k f fd ps (spG K W ps.length g)
theorem q_callG {e : Expr} {es : List Expr} {fa : AF} {p pos : Pos} (C : CalG X.prog X.w X.K X.mg X.base W k x st ps g) (hgd : X.A.guards = some []) (hr : Room k X.A) (hx : Passes (L2.CX X.prog X.w) X E) (ha : PA X (e :: es) (aOf X.K W E fa))
    (hb : ∀ (kV doc pm : Value) (an : Option Addr) (cdv ct : Value) (us : List Value), us.length = ps.length → bindArgs (PySem.W.fnOf x x (defArgs st) (defBody st) (defScope st) .none kV doc pm an cdv ct) ⟨us, []⟩ = pure (ps.zip us))
    (hg : Gl X x := by rfl) (hdb : (x == ("__debug__" : Str)) = false := by decide) (he : starEach (e :: es) X.env = (false, eval e X.env) :: starEach es X.env := by rfl) (hpl : (backTo pos (starEach es X.env)).any (·.1) = false := by rfl) :
    PE X (.Call (.Name x p) (e :: es) [] pos) (tOf X.K W E (eCall ps.length g fa)) := by
  obtain ⟨f, fd, hm, hF, hok⟩ := C.ex
  have bnd := hF.binds hb
  constructor
  intro pins s σ H Q I h
  refine wpAny_Call_Name_kw (ld_glob I hg hm ?_ hdb)
  refine PySem.W.callWith_K (h₀ := X.base) I.ok.mod.kin hF.kp (thn (ha.run pos pins s σ H (fun vs H1 => spG X.K W ps.length g vs H1 Q E) I ?_) fun us s1 ⟨vs, H1, I1, vals, pre⟩ => ⟨I1.kIn, ?_⟩) he hpl
  · obtain ⟨F, L, μ, ρ, res, hr, hs, hf, hp⟩ := h
    refine aOf_ok hr hs hf hp fun ss vs μ1 F1 H1 L1 hk e1 r1 d1 p1 => ?_
    by_cases hl : ss.length = ps.length
    · rw [if_pos hl] at hk
      exact spG_of r1 d1 hl hk p1
    · rw [if_neg hl] at hk; cases hk
  · have hlen : us.length = ps.length := by rw [← vals.length]; exact hok.len _ _ _ _ pre
    have b1 := bnd s1 us I1.kIn (by simpa using hlen)
    rw [List.append_nil] at b1
    refine wpAny_call (codeAny_mono (hok.run X.A X.stack s1 H1 ⟨us, []⟩ us vs Q E hgd hr I1.env0 b1 vals pre) fun r s2 post => ?_)
    match r, post with
    | .error e, post => exact hx pins σ H1 s1 e s2 I1 post
    | .ok (.ret u), post => exact I1.after post
    | .ok .next, post => exact post.elim
    | .ok .brk, post => exact post.elim
    | .ok .cont, post => exact post.elim
/-! ### repr of tuples and lists -/
def rRepr (K : PySem.W.Frag) : List V → Hp → VK → Prop := fun xs H Q => ∃ v d, xs = [v] ∧ Dp K H v d ∧ d.showable = true ∧ isDisplay d = true ∧ d.hasDict = false ∧ d.depth ≤ 60 ∧ d.shown.length ≤ sizeLine ∧ Q (.str d.shown) H
theorem call_reprD {X : Cx} (hgd : X.A.guards = some []) (hu : X.A.units + 65 < cLine) : CallR X (.builtin "repr") (rRepr X.K) := by
  intro pins s σ H xs us Q I r h
  obtain ⟨v, d, rfl, hd, h1, h2, h3, h4, h5, q⟩ := h
  obtain ⟨u, rfl, ru⟩ := vals1 r
  obtain ⟨as, rd⟩ := Dp.reads I d v u hd ru
  obtain ⟨a, rfl⟩ := isRef_of_reads rd h2
  exact PySem.repr_of_reads' rd h1 (PyData.noDict_hsm h3) hgd (by omega) (fun _ _ e => e) (fun h' t k keep => ⟨.str d.shown, H, I.kept keep, ⟨t, rfl⟩, q⟩) h5
def gRepr : GF := fun ss μ => match ss with
  | [.d x] => if okD 20 x = true ∧ x.py.showable = true ∧ isDisplay x.py = true ∧ x.py.hasDict = false ∧ x.py.shown.length ≤ small24 then some (.ok (.d (.str x.py.shown)) μ) else none
  | _ => none
theorem k_repr {K : PySem.W.Frag} : COk K W E (rRepr K) gRepr := fun F L μ H vs ss res Q hr hd hg hp => by
  unfold gRepr at hg
  split at hg
  · rename_i x
    split at hg
    · rename_i hc
      obtain ⟨c1, c2, c3, c4, c5⟩ := hc
      cases hg
      obtain ⟨v, rfl, h⟩ := hd.one
      exact ⟨v, x.py, rfl, Den.dp hr.sub h c1, c2, c3, c4, by have := (okD_lay 20 x c1).2; omega, small24_line c5, post_d hr hp (.str _)⟩
    · cases hg
  · cases hg
end
section
variable {P : Program} {w : World} {K : PySem.W.Frag} {mg : Str → Option Value} {base : Heap} {W : Wd}
theorem fn_keepsCG {x qual : Str} {st : Stmt} {f c : Addr} {fd : FuncData} {N ps : List Str} {k : Nat} {g : GF} {fb : SF} (Fn : Fun K x qual st f fd) (hc : fd.code = .ref c) (Sc : FnScope N ps (defScope st))
    (hbody : ∀ (A : Around) (outer : List Env) (s : Shared) (H : Hp) (E : XK), (A.deeper (envOfC qual (defScope st) s.heap.objs.size f (.ref c))).guards = some [] → Room k (A.deeper (envOfC qual (defScope st) s.heap.objs.size f (.ref c))) → PSs (bodyCx P w K mg base N qual (defScope st) f (.ref c) A outer s H E) (defBody st) (sOf K W E fb))
    (hsem : ∀ (ss : List S) (μ : List MO) (r : ER), ss.length = ps.length → g ss μ = some r → fin μ.length (fb (startS N.length ss) μ) = some r) : FnOkG P w K mg base (L2.CX P w) (k + 1) f fd ps (spG K W ps.length g) := by
  refine fnG_of Fn Sc (fun vs H Q E h => h.1) fun cdv A outer s H vs Q E ec hgd hr h => ?_
  obtain rfl : Value.ref c = cdv := hc.symm.trans ec
  refine ⟨sOf K W E fb, hbody A outer s H E (deeper_guards hgd) hr, ?_⟩
  obtain ⟨hl, F, L, μ, ss, r, hr, hs, hg, hp⟩ := h
  have hse := hsem ss μ r (by rw [← hs.length]; exact hl) hg
  cases eb : fb (startS N.length ss) μ with
  | none => rw [eb] at hse; cases hse
  | some rs =>
    rw [eb] at hse
    exact ⟨F, L, μ, _, rs, hr, .start hs, eb, fin_post hr.len.symm hse hp⟩
end
end DL
end

section
set_option Elab.async false
set_option linter.all false
set_option maxRecDepth 100000
set_option maxHeartbeats 4000000
/-! DLmet: a def that hands back what its call gives, or the error's place. -/
namespace DL
open PySem PySem.Spec PyProof.Rows L2
/-- try: return (r, call()) / except C as e: return (b, e.fld) -/
def TMet (C : Addr) (fld r b : Str) : (XK → Hp → VK → Prop) → Hp → VK → Prop := fun tl H Q =>
  tl (fun cls d H' => cls = .ref C ∧ ∃ dd v, d = some dd ∧ H' dd = some (.xd [(fld, v)]) ∧ ∀ p, H' p = none → Q (.ref p) (upd H' p (.tup [.str b, v]))) H
    fun v H' => [V.str r, v].length ≤ sizeLine ∧ ∀ p, H' p = none → Q (.ref p) (upd H' p (.tup [.str r, v]))
theorem met_gives {X : Cx} {Ng : List Str} {x a e cn q fld rd bd : Str} {sg : Scope} {g C fI : Addr} {cdg : Value} {j1 j2 k1 k2 : Nat} {p1 p2 p3 p4 p5 p6 p7 p8 p9 p10 p11 p12 p13 : Pos} (T : ErrTxt X.prog X.K X.mg cn fld C fI) (hN : Ng = [a, e]) (hne : a ≠ e)
    (hgl : sg.names.lookup cn = some .globalImplicit) (hcd : (cn == ("__debug__" : Str)) = false) (hel : sg.names.lookup e = some .local) (hed : (e == ("__debug__" : Str)) = false) (hec : (e == ("__classdict__" : Str)) = false) :
    LamX.GivesTo X Ng x sg g cdg [.Try [.Return (some (.Tuple [.Constant (.str rd) j1 p1, .Call (.Name a p2) [] [] p3] k1 p4)) p5] [.ExceptHandler (some (.Name cn p6)) (some e) [.Return (some (.Tuple [.Constant (.str bd) j2 p7, .Attribute (.Name e p8) fld p9] k2 p10)) p11] p12] [] [] p13] a q (TMet C fld rd bd) := by
  intro f c' s H Q tl act hc h
  subst hN
  have nd : [a, e].Nodup := by simp [hne]
  have hgl' : Gl (cxOf C8.CX0 X.prog X.w X.K X.mg X.base [a, e] x sg g cdg X.A X.stack s H C8.E0).nox cn := hgl
  have st0 : (L2.start [a, e] [V.ref f])[0]? = some (some (V.ref f)) := rfl
  refine ⟨_, pss_one (ps_try_as (X := (cxOf C8.CX0 X.prog X.w X.K X.mg X.base [a, e] x sg g cdg X.A X.stack s H C8.E0).nox) (c := .ref C) (i := 1) (Wout := fun _ _ _ _ => False)
      (ts := fun a' cls d => tRet (tTup (tCons (fun σ H Q => Q (.str bd) H) (tCons (tXf a' cls d C fld (tVar 1)) tNil))))
      (tb := fun W D σ H => ∃ Ech : XK, (∀ cls d σ' H', σ'.length = 2 → Ech cls d H' → W cls d σ' H') ∧ σ[0]? = some (some (.ref f)) ∧ H c' = some (LamX.CodeO c' q) ∧ tl Ech H (fun v H' => [V.str rd, v].length ≤ sizeLine ∧ ∀ p, H' p = none → D.rt (.ref p) (upd H' p (.tup [.str rd, v]))))
      rfl rfl nd rfl (show _ = _ from hel) ⟨hgl', hcd, .inl T.gC⟩ LamX.takes0 (fun W pn xe tk _ => ?_) (fun a' oe cls d pn hz hf => pss_one (ps_ret (pe_tup (pa_cons pe_str (pa_cons (pe_xf ⟨T.ga, T.gg, T.exC, T.hdC⟩ T.noN hz hf (pe_var rfl (.inl hel) hed hec) ?_) pa_nil)))))), ?_⟩
  · refine ⟨fun pins s' σ H' D I h' => ?_⟩
    obtain ⟨Ech, hW, h1, h2, h3⟩ := h'
    have hp := act (fun c d σ H => σ.length = 2 → W c d σ H) pn xe Ech p2 p3 (takesLen tk) (fun cls d σ' H' e1 e2 => hW cls d σ' H' e2 e1)
    exact (pss_one (ps_ret (pos := p5) (pe_tup (pos := p4) (x1 := k1) (pa_cons (pe_str (pos := p1) (x := rd)) (pa_cons hp pa_nil))))).run pins s' σ H' D I ⟨h1, h2, h3⟩
  · rfl
  · refine ⟨fun cls d H' => cls = .ref C ∧ ∃ dd v, d = some dd ∧ H' dd = some (.xd [(fld, v)]) ∧ ∀ p, H' p = none → Q (.ref p) (upd H' p (.tup [.str bd, v])), fun cls d σ' H' hl ⟨e1, dd, v, e2, e3, e4⟩ => ?_, st0, hc, ?_⟩
    · subst e1
      refine ⟨true, T.te, fun _ a' na => ?_, fun z => by cases z⟩
      refine ⟨.ref a', ?_, rfl, rfl, dd, _, v, e2, e3, ?_, ?_⟩
      · rw [List.getElem?_set_self (by omega)]
      · simp [List.lookup]
      · exact ⟨show 2 ≤ sizeLine by decide, e4⟩
    · exact h
def eMet (f : EF) : EF := fun ρ μ => match f ρ μ with
  | some (.ok (.d d) μ1) => some (.ok (.d (.tup [.str "read", d])) μ1)
  | some (.ex (.txt d) μ1) => some (.ok (.d (.tup [.str "bad", d])) μ1)
  | _ => none
section
variable {X : Cx} {W : Wd} {E : XK}
theorem q_met {st : Stmt} {c P fI : Addr} {k : Nat} {params : Arguments} {body : Expr} {scope : Scope} {f : EF} {p lpos pos : Pos} {x : Str} {j1 j2 k1 k2 : Nat} {p1 p2 p3 p4 p5 p6 p7 p8 p9 p10 p11 p12 p13 : Pos}
    (T : ErrTxt X.prog X.K X.mg "BadText" "place" W.CT fI) (R : St0 X.K X.mg "_law_met" st) (LT : LamT X.base X.mg W x c P) (hcode : X.env.code = .ref c) (hq : X.env.qual = x ++ ".<locals>.") (hr : Room (k + 2) X.A)
    (hbody : ∀ (A : Around) (outer : List Env) (s : Shared) (H : Hp) (E : XK) (f' c' : Addr), Room k (A.deeper (LamX.lamEnv X scope s.heap.objs.size f' c')) → PE (LamX.lamCx X A outer s H E scope f' c') body (tOf X.K W E f))
    (hb : defBody st = [.Try [.Return (some (.Tuple [.Constant (.str "read") j1 p1, .Call (.Name "call" p2) [] [] p3] k1 p4)) p5] [.ExceptHandler (some (.Name "BadText" p6)) (some "e") [.Return (some (.Tuple [.Constant (.str "bad") j2 p7, .Attribute (.Name "e" p8) "place" p9] k2 p10)) p11] p12] [] [] p13] := by rfl)
    (bi : ∀ (kV doc pm : Value) (an : Option Addr) (cdv ct : Value) (us : List Value), us.length = (["call"] : List Str).length → bindArgs (PySem.W.fnOf "_law_met" "_law_met" (defArgs st) (defBody st) (defScope st) .none kV doc pm an cdv ct) ⟨us, []⟩ = pure ((["call"] : List Str).zip us) := by exact fun _ _ _ _ _ _ us hl => match us, hl with | [_], _ => rfl)
    (sc : FnScope ["call", "e"] ["call"] (defScope st) := by exact ⟨rfl, rfl, rfl, by decide +kernel, rfl, by decide +kernel, by decide +kernel⟩)
    (h1 : (defScope st).names.lookup ("BadText" : Str) = some .globalImplicit := by rfl) (h2 : (defScope st).names.lookup ("e" : Str) = some .local := by rfl) (h3 : (defScope st).names.lookup ("call" : Str) = some .local := by rfl)
    (hg : Gl X "_law_met" := by rfl) (hL : LamX.lamSB X.env.scope scope = true := by rfl) (hdef : defaultsOf params X.env = ([], []) := by rfl)
    (hbind : ∀ (q : Str) (cl : List (Str × Addr)) (pm cv ctv : Value), bindArgs (PySem.W.kla_fn "<lambda>" q params body scope cl pm cv ctv) ⟨[], []⟩ = pure [] := by intros; rfl) :
    PE X (.Call (.Name "_law_met" p) [.Lambda params body scope lpos] [] pos) (tOf X.K W E (eMet f)) := by
  obtain ⟨g, gd, hm, hF⟩ := R.ex
  have hkp := hF.kp
  have hbs := Fun.binds (ps := (["call"] : List Str)) hF bi
  obtain ⟨oc, od, kV, doc, pm, an, cdv, ct, osl, rfl, lk, hcd⟩ := hF.ex
  have hG := met_gives (X := X) (Ng := ["call", "e"]) (x := "_law_met") (a := "call") (e := "e") (sg := defScope st) (g := g) (cdg := cdv) (q := X.env.qual ++ "<lambda>") (rd := "read") (bd := "bad") (j1 := j1) (j2 := j2) (k1 := k1) (k2 := k2) (p1 := p1) (p2 := p2) (p3 := p3) (p4 := p4) (p5 := p5) (p6 := p6) (p7 := p7) (p8 := p8) (p9 := p9) (p10 := p10) (p11 := p11) (p12 := p12) (p13 := p13) T rfl (by decide) h1 (by decide) h2 (by decide) (by decide)
  rw [← hb] at hG
  refine PE.weak (LamX.pe_lamcall (T := W.T) (t := fun E => tOf X.K W E f) (c := c) (P := P) hg hm hkp lk hcd hbs sc rfl (.inl h3) hG LT.tb hcode (by rw [hq]; exact LT.mem) (by rw [hq]; exact LT.un) hr (LamX.lamS_by hL) hdef hbind hbody) fun σ H Q h => ?_
  obtain ⟨F, L, μ, ρ, res, hr, hs, hf, hp⟩ := h
  refine ⟨hr.tabs, fun H1 eN T1 => ?_⟩
  have r1 := hr.extN eN T1
  have e1 : Ext F H L F H1 L := ext_extN eN
  unfold eMet at hf
  show tOf X.K W _ f σ H1 _
  cases ea : f ρ μ with
  | none => rw [ea] at hf; cases hf
  | some ra =>
    rw [ea] at hf
    refine ⟨F, L, μ, ρ, ra, r1, hs, ea, ?_⟩
    cases ra with
    | ok s μ1 =>
      cases s with
      | un => cases hf
      | m i => cases hf
      | d d =>
        cases hf
        intro v F2 H2 L2 e2 r2 d2 _
        refine ⟨show 2 ≤ sizeLine by decide, fun p np => ?_⟩
        exact post_newT (E := E) r2 (fun v' F3 H3 L3 e3 r3 d3 n3 => hp v' F3 H3 L3 (e1.trans (e2.trans e3)) r3 d3 n3) np (.cons (.str "read") (.cons d2 .nil))
    | ex z μ1 =>
      cases z with
      | arg d => cases hf
      | txt d =>
        cases hf
        exact fun v dd F2 H2 L2 e2 r2 h2 d2 => ⟨rfl, dd, v, rfl, h2, fun p np => post_newT (E := E) r2 (fun v' F3 H3 L3 e3 r3 d3 n3 => hp v' F3 H3 L3 (e1.trans (e2.trans e3)) r3 d3 n3) np (.cons (.str "bad") (.cons (show Den X.K F2 v d from d2) .nil))⟩
end
end DL
end

section
set_option Elab.async false
set_option linter.all false
set_option maxRecDepth 100000
set_option maxHeartbeats 4000000
/-! DLlawG: the law's def is called by the harness, where no repr is under way. -/
namespace DL
open PySem PySem.Spec PyProof.Rows L2
section
variable {P : Program} {w : World} {K : PySem.W.Frag}
/-- what the abstract heap shows: the lambda tables T, and the script at a (where the fragment has it not) -/
def seen (K : PySem.W.Frag) (T : List Addr) (a : Addr) (vs : List Value) (ns : List Int) : Hp := fun b =>
  if b ∈ T then some (.tbl #[]) else if b = a ∧ K.lookup a = none then some (.frz { cls := .type "list", data := .seq vs.toArray } (.lst (ns.map V.int))) else none
structure Setup (K : PySem.W.Frag) (h : Heap) (T : List Addr) (a : Addr) (vs : List Value) (ns : List Int) : Prop where
  kin : K.In h
  tbl : ∀ b ∈ T, h.get? b = some { cls := .none, data := .fields #[] }
  free : ∀ b ∈ T, K.lookup b = none
  scr : h.get? a = some { cls := .type "list", data := .seq vs.toArray }
  nums : IntsAre vs ns
  small : ns.length ≤ sizeLine
section
variable {h : Heap} {T : List Addr} {a : Addr} {vs : List Value} {ns : List Int} (S : Setup K h T a vs ns)
include S
theorem Setup.aT : a ∉ T := fun m => by
  have e := S.tbl a m
  rw [S.scr] at e
  exact nomatch congrArg Obj.data (Option.some.inj e)
theorem Setup.cases {b : Addr} {u : HO} (e : seen K T a vs ns b = some u) : (b ∈ T ∧ u = .tbl #[]) ∨ (b = a ∧ K.lookup a = none ∧ u = .frz { cls := .type "list", data := .seq vs.toArray } (.lst (ns.map V.int))) := by
  unfold seen at e
  split at e
  · rename_i m; exact .inl ⟨m, (Option.some.inj e).symm⟩
  · split at e
    · rename_i q; exact .inr ⟨q.1, q.2, (Option.some.inj e).symm⟩
    · cases e
theorem Setup.at_tbl {b : Addr} (m : b ∈ T) : seen K T a vs ns b = some (.tbl #[]) := if_pos m
/-- an object that is no list and no empty table is not seen -/
theorem Setup.dark {b : Addr} {o : Obj} (e : h.get? b = some o) (n1 : ∀ xs n, o.data ≠ .seq xs n) (n2 : o.data ≠ .fields #[]) : seen K T a vs ns b = none := by
  cases q : seen K T a vs ns b with
  | none => rfl
  | some u =>
    rcases S.cases q with ⟨m, _⟩ | ⟨rfl, _, _⟩
    · rw [S.tbl b m] at e; cases e; exact absurd rfl n2
    · rw [S.scr] at e; cases e; exact absurd rfl (n1 _ _)
theorem Setup.dark_dict {b : Addr} {o : Obj} {es : Array DictEntry} {ep : Nat} (e : h.get? b = some o) (d : o.data = .dict es ep) : seen K T a vs ns b = none :=
  S.dark e (fun _ _ z => by rw [d] at z; cases z) (fun z => by rw [d] at z; cases z)
theorem Setup.names {b : Addr} {m : Str → Option Value} (n : h.Ns b m) : (hidT h (seen K T a vs ns)).Ns b m := by
  obtain ⟨o, es, ep, e, d, r⟩ := n
  exact ⟨o, es, ep, hidT_get e (S.dark_dict e d), d, r⟩
theorem Setup.frag : K.In (hidT h (seen K T a vs ns)) := fun b o e => by
  refine hidT_get (S.kin b o e) ?_
  cases q : seen K T a vs ns b with
  | none => rfl
  | some u =>
    rcases S.cases q with ⟨m, _⟩ | ⟨rfl, n, _⟩
    · rw [S.free b m] at e; cases e
    · rw [n] at e; cases e
theorem Setup.script : SqL K (seen K T a vs ns) a (ns.map V.int) := by
  have rv := vals_ints S.nums
  cases k : K.lookup a with
  | none =>
    refine .inl (.inr ⟨{ cls := .type "list", data := .seq vs.toArray }, ?_⟩)
    unfold seen
    rw [if_neg S.aT, if_pos ⟨rfl, k⟩]
  | some o =>
    have e := S.kin a o k
    rw [S.scr] at e
    cases e
    exact .inr ⟨_, vs.toArray, _, k, rfl, rfl, rfl, by rw [List.size_toArray, S.nums.length]; exact S.small, by simpa using rv⟩
theorem Setup.hok : HOk P w (seen K T a vs ns) h := fun b u e => by
  rcases S.cases e with ⟨m, rfl⟩ | ⟨rfl, _, rfl⟩
  · exact S.tbl b m
  · exact ⟨S.scr, by rw [List.length_map]; exact S.small, vs, _, vals_ints S.nums, S.scr⟩
end
/-- a lambda table is as the walk wants it -/
theorem Setup.tabB {h : Heap} {T : List Addr} {a : Addr} {vs : List Value} {ns : List Int} (S : Setup K h T a vs ns) {mg : Str → Option Value} {c t : Addr} (ht : t ∈ T) (C : PySem.W.CodeHd h c t) (hns : h.Ns mainGlobals mg)
    (hbm : ∃ (bm : Addr) (ob : Obj), mg "__builtins__" = some (.ref bm) ∧ bm ≠ builtinsNs ∧ h.get? bm = some ob ∧ ob.cls = .type "module" ∧ ob.dict = some builtinsNs ∧ ob.data = .plain) : LamX.TabB (hidT h (seen K T a vs ns)) mg c t where
  code := by
    obtain ⟨o, us, file, tf, flags, tg, inF, text, tt, get, cls, flds, len, rest⟩ := C
    refine ⟨o, us, file, tf, flags, tg, inF, text, tt, hidT_get get (S.dark get (fun xs n z => ?_) fun z => ?_), cls, flds, len, rest⟩
    · exact nomatch flds.symm.trans z
    · have : us = #[] := Data.fields.inj (flds.symm.trans z)
      subst this
      simp at len
  bm := by
    obtain ⟨bm, ob, atN, off, get, cls, dict, plain⟩ := hbm
    have offG : bm ≠ mainGlobals := by
      rintro rfl
      obtain ⟨o, es, ep, g, d, _⟩ := hns
      rw [get] at g
      cases g
      exact nomatch plain.symm.trans d
    have offT : bm ≠ t := by
      rintro rfl
      rw [S.tbl _ ht] at get
      cases get
      exact nomatch plain
    exact ⟨bm, ob, atN, off, offG, offT, hidT_get get (S.dark get (fun xs n z => nomatch plain.symm.trans z) fun z => nomatch plain.symm.trans z), cls, dict, plain⟩
  gP := by
    rintro rfl
    obtain ⟨o, es, ep, g, d, _⟩ := hns
    rw [S.tbl _ ht] at g
    cases g
    exact nomatch d
theorem law_callG {mg mb : Str → Option Value} {CX : CXT} {k : Nat} {fa a : Addr} {cs : List (Addr × Addr)} {fd : FuncData} {x : Str} {sp : Sp} {s₁ : Shared} {vs : List Value} {ns : List Int}
    (S : Setup K s₁.heap (cs.map (·.2)) a vs ns) (C : ∀ p ∈ cs, PySem.W.CodeHd s₁.heap p.1 p.2) (hns : s₁.heap.Ns mainGlobals mg) (hb : s₁.heap.Ns builtinsNs mb) (hbb : ∀ x : Str, x ≠ "__name__" → mb x = bootBuiltins x) (hlim : s₁.heap.NoLimit) (hg : s₁.gens = #[])
    (hbm : ∃ (bm : Addr) (ob : Obj), mg "__builtins__" = some (.ref bm) ∧ bm ≠ builtinsNs ∧ s₁.heap.get? bm = some ob ∧ ob.cls = .type "module" ∧ ob.dict = some builtinsNs ∧ ob.data = .plain) (hr : Room k callerA)
    (F : ∀ base : Heap, K.In base → base.Ns mainGlobals mg → (∀ p ∈ cs, LamX.TabB base mg p.1 p.2) → FnOkG P w K mg base CX k fa fd [x] sp) (hbind : ∀ (s : Shared) (u : Value), BindsTo s fd ⟨[u], []⟩ [(x, u)])
    (hsp : ∀ H : Hp, (∀ p ∈ cs, H p.2 = some (.tbl #[])) → SqL K H a (ns.map V.int) → sp [.ref a] H (fun v _ => v = .bl true) fun _ _ _ => False)
    (hCX : ∀ H e s', CX [] H s₁ (fun _ _ _ => False) e s' → False) :
    codeAny (model P w) callerA (.call (.ref fa) ⟨[.ref a], []⟩) (fun r s' => r = .ok (.ret (.bool true)) ∧ OldK s₁.heap s'.heap ∧ s'.os = s₁.os ∧ AllBare s'.gens) s₁ := by
  have inT : ∀ p ∈ cs, p.2 ∈ cs.map (·.2) := fun p hp => List.mem_map_of_mem hp
  have md : L2.Mod K mg (hidT s₁.heap (seen K (cs.map (·.2)) a vs ns)) := by
    refine ⟨S.frag, S.names hns, ⟨mb, S.names hb, hbb⟩, ?_⟩
    obtain ⟨mc, n, r⟩ := hlim
    exact ⟨mc, S.names n, r⟩
  have env : Env0 P w K mg (hidT s₁.heap (seen K (cs.map (·.2)) a vs ns)) callerA [] s₁ (seen K (cs.map (·.2)) a vs ns) :=
    ⟨rfl, md, fun _ _ e => of_hidT e, by rw [hidT_size]; exact Nat.le_refl _, trivial, (by intro b m; exact nomatch m), S.hok, .of_eq hg⟩
  have fn := F _ S.frag (S.names hns) fun p hp => S.tabB (inT p hp) (C p hp) hns hbm
  have run := fn.run callerA [] s₁ _ ⟨[.ref a], []⟩ [.ref a] [.ref a] (fun v _ => v = .bl true) (fun _ _ _ => False) rfl hr env (hbind s₁ (.ref a)) (.cons rfl .nil) (hsp _ (fun p hp => S.at_tbl (inT p hp)) S.script)
  refine codeAny_mono run fun r s2 post => ?_
  match r, post with
  | .error e, post => exact (hCX _ e s2 post).elim
  | .ok .next, post => exact post.elim
  | .ok .brk, post => exact post.elim
  | .ok .cont, post => exact post.elim
  | .ok (.ret u), ⟨v, H2, os, bare, un, hok2, rel, isT⟩ =>
    have isT : v = .bl true := isT
    subst isT
    have eu : u = Value.bool true := rel
    subst eu
    have tab : ∀ b ∈ cs.map (·.2), ∃ more : Array Value, s2.heap.get? b = some { cls := .none, data := .fields more } := fun b m => by
      obtain ⟨more, z⟩ := un.tbls b #[] (S.at_tbl m)
      exact ⟨_, hok2 b _ z⟩
    have old : ∀ b o, b ∉ cs.map (·.2) → s₁.heap.get? b = some o → s2.heap.get? b = some o := fun b o nb e => by
      cases q : seen K (cs.map (·.2)) a vs ns b with
      | none => exact un.keep b o e q (by intro z; exact nomatch z) (by intro z; exact nomatch z)
      | some y =>
        rcases S.cases q with ⟨m, _⟩ | ⟨rfl, _, rfl⟩
        · exact absurd m nb
        · have z := hok2 b _ (un.frzs b _ _ q)
          obtain ⟨z1, _⟩ := z
          rw [S.scr] at e
          cases e
          exact z1
    refine ⟨rfl, ⟨fun b o e => ?_, fun b o e => ?_⟩, os, bare⟩
    · by_cases m : b ∈ cs.map (·.2)
      · obtain ⟨more, z⟩ := tab b m
        obtain ⟨p, hp, rfl⟩ := List.mem_map.mp m
        have e' := S.tbl _ m
        have eo := Option.some.inj (e.symm.trans e')
        subst eo
        exact .inr (.inl ⟨((C p hp).tab (S.tbl _ m)).isCodeTable, rfl, #[], more, rfl, by rw [Array.empty_append]; exact z⟩)
      · exact .inl (old b o m e)
    · by_cases m : b ∈ cs.map (·.2)
      · obtain ⟨more, z⟩ := tab b m
        exact ⟨_, z⟩
      · exact ⟨o, old b o m e⟩
end
/-- what is known of the law's promise at the head's heap -/
structure LawAtG (l : PySem.W.OpenLaw) (w : World) (K : PySem.W.Frag) (CX : CXT) (k n : Nat) (x : Str) (mg : Str → Option Value) (fa : Addr) (h : Heap) : Prop where
  ex : ∃ (fd : FuncData) (cs : List (Addr × Addr)) (sp : Sp), (∀ p ∈ cs, h.get? p.2 = some { cls := .none, data := .fields #[] }) ∧ (∀ p ∈ cs, K.lookup p.2 = none) ∧ (∀ p ∈ cs, PySem.W.CodeHd h p.1 p.2) ∧ (∀ (s : Shared) (u : Value), BindsTo s fd ⟨[u], []⟩ [(x, u)]) ∧
    (∀ (H : Hp) (a : Addr) (ns : List Int), ns.length ≤ n → (∀ z ∈ ns, Builtin.Int.intBits z ≤ 1048576) → (∀ p ∈ cs, H p.2 = some (.tbl #[])) → SqL K H a (ns.map V.int) → sp [.ref a] H (fun v _ => v = .bl true) fun _ _ _ => False) ∧
    ∀ base : Heap, K.In base → base.Ns mainGlobals mg → (∀ p ∈ cs, LamX.TabB base mg p.1 p.2) → FnOkG l.prog w K mg base CX k fa fd [x] sp
theorem walk_ofTsG {l : PySem.W.OpenLaw} {n k : Nat} {q : Program} {loose : List Str} {XP : (Str → Option Value) → Heap → Prop} {YP : World → Heap → Prop} {d : DefRec} {CX : World → CXT} {x : Str} (hn : l.most = some n) (hn2 : n ≤ sizeLine) (hdf : d.params.defaults = []) (hr : Room k callerA)
    (F : ∀ (w : World) (mg : Str → Option Value) (fa : Addr) (h : Heap), YP w h → h.Ns mainGlobals mg → mg d.name = some (.ref fa) → ∃ K : PySem.W.Frag, K.In h ∧ LawAtG l w K (CX w) k n x mg fa h)
    (hCX : ∀ (w : World) (H : Hp) (s : Shared) (e : Value) (s' : Shared), CX w [] H s (fun _ _ _ => False) e s' → False) : PySem.W.WalkO q loose XP YP l.row.toRowW d [] (fun f vs => PySem.call f vs) :=
  Att.attach_callB hn hdf fun w s₀ s₁ mg mb fa o pm cd doc a vs ns G Y ho hd hcd hmg hobj hints hlen hbits hg => by
    obtain ⟨K, inK, at'⟩ := F w mg fa _ Y G.T.g hmg
    obtain ⟨fd, cs, sp, tbl, free, hds, bnd, pre, fn⟩ := at'.ex
    have S : Setup K s₁.heap (cs.map (·.2)) a vs ns := by
      refine ⟨inK, fun b m => ?_, fun b m => ?_, hobj, hints, Nat.le_trans hlen hn2⟩
      · obtain ⟨p, hp, rfl⟩ := List.mem_map.mp m; exact tbl p hp
      · obtain ⟨p, hp, rfl⟩ := List.mem_map.mp m; exact free p hp
    exact law_callG S hds G.T.g G.T.b G.T.builtins G.T.nolimit hg G.T.bmain hr fn bnd (fun H ht hs => pre H a ns hlen hbits ht hs) fun H e s' => hCX w H s₁ e s'
end DL
end

section
set_option Elab.async false
set_option linter.all false
set_option maxRecDepth 100000
set_option maxHeartbeats 4000000
/-! DLenum: enumerate of a list or a tuple; what may be a text or a sequence. -/
namespace DL
open PySem PySem.Spec PyProof.Rows L2
open PySem.Sem (wp)
/-- enumerate.__new__ over a tuple -/
theorem meets_enumT (l : Addr) (items : Array Value) (n : Nat) (dct : Option Addr) (sl : Array (Option Value)) :
    Meets (Builtin.«enumerate.__new__» ⟨[.type "enumerate", .ref l], []⟩) (fun _ R s => s.heap.get? l = some { cls := .type "tuple", dict := dct, data := .seq items n, slots := sl } ∧
      R (.ok (.ret (.ref (s.heap.push { cls := .type "tuple_iterator", data := .fields #[.ref l, .int 0 0] }).objs.size)))
        { s with heap := (s.heap.push { cls := .type "tuple_iterator", data := .fields #[.ref l, .int 0 0] }).push { cls := .type "enumerate", data := .fields #[.none, .bool false, .ref s.heap.objs.size, rawInt 0, .none, .none] } }) :=
  .of_wp fun prog w A R s h => by
    obtain ⟨hp, g, d, tk, os⟩ := s
    obtain ⟨hl, h⟩ := h
    have f1 := sub_enumerate
    have f2 : Heap.IsTuple (Shared.heap ⟨hp, g, d, tk, os⟩) l items := ⟨_, hl, rfl, n, rfl⟩
    wp_walk using AutoSeq1.wpAny_loadPart' hl
    refine wpAny_stack_any fun st => wpAny_pure ?_
    split
    · rename_i c _ _ _ _ _
      cases (c == Value.type "enumerate") <;>
        (wp_walk using AutoSeq1.wpAny_loadPart' hl, wpAny_pyIter_tuple f2; exact ⟨_, rfl, h⟩)
    · wp_walk using AutoSeq1.wpAny_loadPart' hl, wpAny_pyIter_tuple f2
      exact ⟨_, rfl, h⟩
section
variable {prog : Program} {w : World} {A : Around} {E : Value → Shared → Prop} {s : Shared}
abbrev tIt (l : Addr) : Obj := { cls := .type "tuple_iterator", data := .fields #[.ref l, .int 0 0] }
abbrev eOb (s : Heap) : Obj := { cls := .type "enumerate", data := .fields #[.none, .bool false, .ref s.objs.size, rawInt 0, .none, .none] }
theorem call_enumT {l : Addr} {items : Array Value} {Q : Value → Shared → Prop} (hL : s.heap.IsTuple l items)
    (h : ∀ h', IsEnum h' (s.heap.objs.size + 1) s.heap.objs.size 0 .none → h'.IsTupleIter s.heap.objs.size l 0 → h'.objs.size = s.heap.objs.size + 2 →
      (∀ b o, s.heap.get? b = some o → h'.get? b = some o) → Q (.ref (s.heap.objs.size + 1)) { s with heap := h' }) :
    wpAny (model prog w) A (call (.type "enumerate") [.ref l]) Q E s := by
  obtain ⟨⟨c, dct, dt, sl⟩, hl, hc, n, hd⟩ := hL
  obtain rfl : c = .type "tuple" := hc
  obtain rfl : dt = .seq items n := hd
  have hz : (s.heap.push (tIt l)).objs.size = s.heap.objs.size + 1 := Heap.size_push ..
  have he : IsEnum ((s.heap.push (tIt l)).push (eOb s.heap)) (s.heap.objs.size + 1) s.heap.objs.size 0 .none := by
    rw [← hz]
    exact Heap.get?_push_size (s.heap.push (tIt l)) (o := eOb s.heap) rfl
  refine callType_new F.called_enumerate (by decide) (F.typeCall_enumerate_1 _) (F.newCall_enumerate_1 _) (fun obj => F.args_object_init_2 obj _) F.entry_enumerate_new
    (meets_enumT l items n dct sl) ⟨hl, ?_⟩
  show _ ∧ _
  rw [hz]
  refine ⟨⟨_, he, rfl⟩, h _ he ⟨_, Heap.get?_push_of_some _ (Heap.get?_push_size _ rfl), rfl, rfl⟩ (by rw [Heap.size_push, hz]) fun b o x => ?_⟩
  exact Heap.get?_push_of_some _ (Heap.get?_push_of_some _ x)
end
/-- the tuple at a, each item in a new pair -/
def IteT (K : PySem.W.Frag) (a : Addr) : It :=
  ⟨fun i H => ∃ (xs : List V) (x : V), SqT K H a xs ∧ xs[i]? = some x, fun i H v H' => ∃ T x, v = .ref T ∧ H T = none ∧ H' = upd H T (.tup [.int (i : Nat), x]) ∧ ∀ xs, SqT K H a xs → xs[i]? = some x, fun i H => ∃ xs : List V, SqT K H a xs ∧ xs.length = i⟩
theorem turn_enumT {P : Program} {w : World} {K : PySem.W.Frag} {elts : List Expr} {kk : Nat} {tpos : Pos} (a e it : Addr) :
    Turn P w K (.Tuple elts kk tpos) (IteT K a) [e, it] e (fun i h => (∃ old, IsEnum h e it ((i : Nat) : Int) old) ∧ h.IsTupleIter it a i ∧ e ≠ it) where
  mem := by simp
  obj := fun i h ⟨⟨old, he⟩, ⟨o, ho, hc, hd⟩, _⟩ b hb => by
    rcases List.mem_cons.mp hb with z | z
    · rw [z]; exact ⟨_, he, fun v q => nomatch q⟩
    · rw [List.mem_singleton.mp z]; exact ⟨o, ho, fun v q => by rw [hd] at q; cases q⟩
  keep := fun i h h' ⟨⟨old, he⟩, hi, hne⟩ k => ⟨⟨old, k e (by simp) _ he⟩, hi.at fun o q => k it (by simp) o q, hne⟩
  item := by
    intro X hP hw hK hc i pins s σ H E I hf ⟨⟨old, he⟩, hit, hne⟩ ⟨xs, x, hq, hx⟩
    subst hP hw hK
    obtain ⟨its, rv, p, hz⟩ := I.tuple hq
    obtain ⟨u, hu, ru⟩ := rv.get hx
    have hel : e < s.heap.objs.size := Heap.lt_size he
    have hil : it < s.heap.objs.size := let ⟨_, q, _⟩ := hit; Heap.lt_size q
    have hia : a ≠ it := fun z => by
      obtain ⟨o1, q1, c1, _⟩ := hit
      obtain ⟨o2, q2, c2, _⟩ := p
      rw [z, q1] at q2
      cases q2
      rw [c1] at c2
      exact absurd c2 (by decide)
    have hea : e ∉ [it, a] := fun z => by
      rcases List.mem_cons.mp z with z | z
      · exact hne z
      · obtain ⟨o2, q2, c2, _⟩ := p
        rw [List.mem_singleton.mp z] at he
        rw [he] at q2
        cases q2
        exact absurd c2 (show ¬ (Value.type "enumerate" = Value.type "tuple") by decide)
    have ilt : i < its.toArray.size := by
      rw [List.size_toArray]; exact (List.getElem?_eq_some_iff.mp hu).1
    refine wpAny_pyNext_enum_itemD (Draws.tuple (show X.A.in1.handled = none from I.ok.hd hc) it a hia its.toArray) he ⟨hit, p⟩ ilt hne hea fun y h' tk hy ho hst hT hsz hk => ?_
    have ey : y = u := by
      have : its[i]? = some y := by simpa using hy
      rw [hu] at this; exact (Option.some.inj this).symm
    subst ey
    refine ⟨_, rfl, wpAny_letOwnedTupleGo_enum (s := { s with heap := h', toks := tk + 1 }) ho fun h'' he' sb => ?_⟩
    have hT2 : h''.get? s.heap.objs.size = some { cls := .type "tuple", data := .seq #[.int i tk, y] } := (sb.2 _ (Nat.ne_of_gt hel)).trans hT
    have new : ObjOk X.prog X.w (upd H s.heap.objs.size (.tup [.int (i : Nat), x])) h'' s.heap.objs.size (.tup [.int (i : Nat), x]) :=
      ⟨show 2 ≤ sizeLine by decide, [.int i tk, y], .cons ⟨_, rfl⟩ (.cons ru .nil), _, hT2, rfl, _, rfl⟩
    have I1 : Inv X pins σ (upd H s.heap.objs.size (.tup [.int (i : Nat), x])) { s with heap := h'', toks := tk + 1 } :=
      I.turnedNew (ch := [e, it]) (fun b ob hb q => (sb.2 b (fun z => hb (by simp [z]))).trans (hk b ob (fun z => hb (by simp [z])) (fun z => hb (by simp [z])) q)) hf (Nat.le_refl _) new
    refine ⟨.ref s.heap.objs.size, _, I1, rfl, ⟨_, x, rfl, I.hok.fresh (Nat.le_refl _), rfl, fun ys hy => by rw [I.tuple_inj hy hq]; exact hx⟩, ⟨⟨y, ?_⟩, hst.1.at fun o q => (sb.2 it (Ne.symm hne)).trans q, hne⟩, fun b hb => ?_⟩
    · rw [Int.natCast_succ]; exact he'
    · have hb' : b < s.heap.objs.size := by
        rcases List.mem_cons.mp hb with z | z
        · rw [z]; exact hel
        · rw [List.mem_singleton.mp z]; exact hil
      rw [upd_ne (Nat.ne_of_lt hb')]
      exact (hf b hb).1
  done := by
    intro X hP hw hK hc i pins s σ H E I hf ⟨⟨old, he⟩, hit, hne⟩ ⟨xs, hq, hx⟩
    subst hP hw hK
    obtain ⟨its, rv, p, hz⟩ := I.tuple hq
    obtain ⟨f0, f1, f2, f3, f4, f5⟩ := hf it (by simp)
    have hl := rv.length
    have hia : a ≠ it := fun z => by
      obtain ⟨o1, q1, c1, _⟩ := hit
      obtain ⟨o2, q2, c2, _⟩ := p
      rw [z, q1] at q2
      cases q2
      rw [c1] at c2
      exact absurd c2 (by decide)
    have hn : i = its.toArray.size := by rw [List.size_toArray, ← hl]; exact hx.symm
    subst hn
    exact wpAny_pyNext_enum_endD (Draws.tuple (show X.A.in1.handled = none from I.ok.hd hc) it a hia its.toArray) he ⟨hit, p⟩ fun h' eb => ⟨rfl, I.turned (t' := s.toks) (fun b o hb q => eb b o hb q) f0 f1 f3 f4 f5⟩
  self := fun A i s Q E ⟨⟨_, he⟩, _⟩ h => wpAny_pyIter_enum he h
def iEnumT (K : PySem.W.Frag) (ta : TA) : TI := fun σ H R => ta σ H fun vs H1 => ∃ a xs, vs = [.ref a] ∧ SqT K H1 a xs ∧ R (IteT K a) H1
theorem pi_enumT {X : Cx} {e : Expr} {ta : TA} {p pos tpos : Pos} {elts : List Expr} {kk : Nat} (hg : Gl X "enumerate") (hm : X.mg "enumerate" = none) (ha : PA X [e] ta) (hs : starEach [e] X.env = [(false, eval e X.env)] := by rfl) :
    PI X (.Tuple elts kk tpos) (.Call (.Name "enumerate" p) [e] [] pos) (iEnumT X.K ta) := ⟨fun pins s σ H R I h => by
  refine Call_ (ld_blt I hg hm boot_enumerate (PyProof.Rows.callWith_type1 (thn (ha.run pos pins s σ H _ I h) fun us s1 ⟨vs, H1, I1, r1, a, xs, ex, hq, q⟩ => ?_) hs rfl))
  subst ex
  obtain ⟨u, rfl, r⟩ := vals1 r1
  cases r
  obtain ⟨its, rv, p', hz⟩ := I1.tuple hq
  refine call_enumT p' fun h' he hit hsz hk => wpAny_pyIter_enum he ?_
  refine ⟨s1.heap.objs.size + 1, [s1.heap.objs.size + 1, s1.heap.objs.size], _, _, H1, rfl, I1.kept (t' := s1.toks) hk, turn_enumT a (s1.heap.objs.size + 1) s1.heap.objs.size, ⟨⟨.none, he⟩, hit, Nat.succ_ne_self _⟩, fun b hb => ?_, q⟩
  have hle : s1.heap.objs.size ≤ b := by
    rcases List.mem_cons.mp hb with z | z
    · rw [z]; exact Nat.le_add_right _ _
    · rw [List.mem_singleton.mp z]; exact Nat.le_refl _
  exact I1.fpOk hle (I1.hok.fresh hle)⟩
/-- the pairs of enumerate -/
def enumD (ds : List D) : List D := (List.range ds.length).zipWith (fun i d => .tup [.int (i : Nat), d]) ds
theorem enumD_get {ds : List D} {i : Nat} {d : D} (h : (enumD ds)[i]? = some d) : ∃ x, ds[i]? = some x ∧ d = .tup [.int (i : Nat), x] := by
  unfold enumD at h
  rw [List.getElem?_zipWith] at h
  cases e : ds[i]? with
  | none =>
    rw [e] at h
    cases e2 : (List.range ds.length)[i]? <;> rw [e2] at h <;> cases h
  | some x =>
    have hi := (List.getElem?_eq_some_iff.mp e).1
    rw [e, List.getElem?_range hi] at h
    exact ⟨x, rfl, (Option.some.inj h).symm⟩
theorem enumD_length (ds : List D) : (enumD ds).length = ds.length := by unfold enumD; simp
section
variable {K : PySem.W.Frag}
theorem walkD_enum {F : Hp} {a : Addr} {xs : List V} {ds : List D} (h1 : SqL K F a xs) (d1 : DenL K F xs ds) : WalkD K F (Ite K a) (enumD ds) := fun H hl => by
  have q1 := Le.seqL hl h1
  have hn := d1.length
  have hz := enumD_length ds
  refine ⟨fun i hi => ?_, ⟨xs, q1, by omega⟩, fun i x H' d hd ⟨T, u, e1, e2, e3, e4⟩ => ?_⟩
  · have i1 : i < xs.length := by omega
    exact ⟨xs, xs[i], q1, List.getElem?_eq_getElem i1⟩
  · obtain ⟨z, f1, rfl⟩ := enumD_get hd
    obtain ⟨v, g1, g2⟩ := d1.get f1
    have := e4 xs q1
    rw [g1] at this; cases this
    exact .inr ⟨T, [.int (i : Nat), u], [.int (i : Nat), z], e1, e2, e3, rfl, .cons (.int _) (.cons g2 .nil)⟩
theorem walkD_enumT {F : Hp} {a : Addr} {xs : List V} {ds : List D} (h1 : SqT K F a xs) (d1 : DenL K F xs ds) : WalkD K F (IteT K a) (enumD ds) := fun H hl => by
  have q1 := Le.seqT hl h1
  have hn := d1.length
  have hz := enumD_length ds
  refine ⟨fun i hi => ?_, ⟨xs, q1, by omega⟩, fun i x H' d hd ⟨T, u, e1, e2, e3, e4⟩ => ?_⟩
  · have i1 : i < xs.length := by omega
    exact ⟨xs, xs[i], q1, List.getElem?_eq_getElem i1⟩
  · obtain ⟨z, f1, rfl⟩ := enumD_get hd
    obtain ⟨v, g1, g2⟩ := d1.get f1
    have := e4 xs q1
    rw [g1] at this; cases this
    exact .inr ⟨T, [.int (i : Nat), u], [.int (i : Nat), z], e1, e2, e3, rfl, .cons (.int _) (.cons g2 .nil)⟩
end
def iEnm (fa : AF) : IF := fun ρ μ => match fa ρ μ with
  | some (.ok [s] μ1) => (match viewT s with
    | some ds => some (.ok (enumD ds) μ1)
    | none => match s with
      | .d (.lst ds) => some (.ok (enumD ds) μ1)
      | _ => none)
  | some (.ex x μ1) => some (.ex x μ1)
  | _ => none
section
variable {X : Cx} {W : Wd} {E : XK}
theorem q_ienum {e : Expr} {fa : AF} {p pos tpos : Pos} {elts : List Expr} {kk : Nat} (hm : X.mg "enumerate" = none) (ha : PA X [e] (aOf X.K W E fa)) (hg : Gl X "enumerate" := by rfl) (hs : starEach [e] X.env = [(false, eval e X.env)] := by rfl) :
    PI X (.Tuple elts kk tpos) (.Call (.Name "enumerate" p) [e] [] pos) (iOf X.K W E (iEnm fa)) := by
  refine PI.weak (PI.or (pi_enum hg hm ha hs) (pi_enumT hg hm ha hs)) fun σ H R h => ?_
  obtain ⟨F, L, μ, ρ, res, hr, hs, hf, hp⟩ := h
  unfold iEnm at hf
  cases ea : fa ρ μ with
  | none => rw [ea] at hf; cases hf
  | some ra =>
    rw [ea] at hf
    cases ra with
    | ex x μ1 => cases hf; exact .inl ⟨F, L, μ, ρ, _, hr, hs, ea, hp⟩
    | ok ss μ1 =>
      match ss, hf, ea with
      | [s], hf, ea =>
        simp only at hf
        cases ev : viewT s with
        | some ds =>
          rw [ev] at hf; cases hf
          refine .inr ⟨F, L, μ, ρ, _, hr, hs, ea, fun vs F1 H1 L1 e1 r1 d1 => ?_⟩
          obtain ⟨v, rfl, d2⟩ := d1.one
          obtain ⟨a, xs, rfl, fa, ha, da⟩ := viewT_ok r1 d2 ev
          exact ⟨a, xs, rfl, ha, hp _ F1 H1 L1 e1 r1 (walkD_enumT fa da)⟩
        | none =>
          rw [ev] at hf
          cases s with
          | un => cases hf
          | m i => cases hf
          | d d =>
            cases d with
            | lst ds =>
              cases hf
              refine .inl ⟨F, L, μ, ρ, _, hr, hs, ea, fun vs F1 H1 L1 e1 r1 d1 => ?_⟩
              obtain ⟨v, rfl, d2⟩ := d1.one
              cases d2 with
              | lst h1 h2 => exact ⟨_, _, rfl, SqL.of (r1.sub _ _ h1), hp _ F1 H1 L1 e1 r1 (walkD_enum (SqL.of h1) h2)⟩
            | _ => cases hf
/-- a text, or a sequence -/
def iAny (f : EF) : IF := fun ρ μ => match f ρ μ with
  | some (.ok s μ1) => (match s with
    | .d (.str z) => some (.ok (charsD z) μ1)
    | .d (.lst ds) => some (.ok ds μ1)
    | .d (.tup ds) => some (.ok ds μ1)
    | .d (.scr ns) => some (.ok (ns.map .int) μ1)
    | _ => none)
  | some (.ex x μ1) => some (.ex x μ1)
  | none => none
theorem q_iany {tg e : Expr} {f : EF} (he : PE X e (tOf X.K W E f)) : PI X tg e (iOf X.K W E (iAny f)) := by
  refine PI.weak (PI.or (q_iseq he) (q_ichars he)) fun σ H R h => ?_
  obtain ⟨F, L, μ, ρ, res, hr, hs, hf, hp⟩ := h
  unfold iAny at hf
  cases ea : f ρ μ with
  | none => rw [ea] at hf; cases hf
  | some ra =>
    rw [ea] at hf
    cases ra with
    | ex x μ1 => cases hf; exact .inl ⟨F, L, μ, ρ, _, hr, hs, by unfold iSeq; rw [ea], hp⟩
    | ok s μ1 =>
      simp only at hf
      split at hf
      · cases hf; exact .inr ⟨F, L, μ, ρ, _, hr, hs, by unfold iChars; rw [ea], hp⟩
      · cases hf; exact .inl ⟨F, L, μ, ρ, _, hr, hs, by unfold iSeq; rw [ea]; rfl, hp⟩
      · cases hf; exact .inl ⟨F, L, μ, ρ, _, hr, hs, by unfold iSeq; rw [ea]; rfl, hp⟩
      · cases hf; exact .inl ⟨F, L, μ, ρ, _, hr, hs, by unfold iSeq; rw [ea]; rfl, hp⟩
      · cases hf
end
end DL
end

section
set_option Elab.async false
set_option linter.all false
set_option maxRecDepth 100000
set_option maxHeartbeats 4000000
/-! DLtx2: operators where one side may be a text. -/
namespace DL
open PySem PySem.Spec PyProof.Rows L2
/-- a text some times -/
def timesS (z : Str) (k : Nat) : Str := ⟨(List.replicate k z.cps).foldl (· ++ ·) #[]⟩
theorem times_size (a : Array Nat) : ∀ (k : Nat) (b : Array Nat), ((List.replicate k a).foldl (· ++ ·) b).size = b.size + k * a.size
  | 0, b => by simp
  | k + 1, b => by
    rw [List.replicate_succ, List.foldl_cons, times_size a k]
    simp [Nat.succ_mul]
    omega
def rTimesS : R2 := fun x y H Q => ∃ (z : Str) (k : Int), x = .str z ∧ y = .int k ∧ 2 ≤ k ∧ k ≤ 2000 ∧ 0 < z.length ∧ z.length ≤ 10 ∧ Q (.str (timesS z k.toNat)) H
theorem op_timesS {X : Cx} : OpR X (binaryOp .Mult) rTimesS := by
  intro pins s σ H x y v u Q I rx ry h
  obtain ⟨z, k, rfl, rfl, h1, h2, h3, h4, q⟩ := h
  obtain ⟨t, rfl⟩ := rx
  obtain ⟨t', rfl⟩ := ry
  have hne : (k == 1 || z.length == 0) = false := by
    simp only [Bool.or_eq_false_iff, beq_eq_false_iff_ne]
    omega
  have hk : k.toNat ≤ 2000 := by omega
  have hm : z.length * k.toNat ≤ 10 * 2000 := Nat.mul_le_mul h4 hk
  refine P.mul_str (by simp only [Bool.or_eq_false_iff, decide_eq_false_iff_not]; omega) (fun _ _ => ?_) (fun _ _ => ?_) ?_
  · have : (2 ^ 63 - 1) / (2000 : Int) ≤ (2 ^ 63 - 1) / k := by
      apply Int.le_ediv_of_mul_le (by omega)
      have e : ((2 ^ 63 - 1) / (2000 : Int)) = 4611686018427387 := by decide
      rw [e]
      have : (4611686018427387 : Int) * k ≤ 4611686018427387 * 2000 := Int.mul_le_mul_of_nonneg_left h2 (by omega)
      omega
    have e : ((2 ^ 63 - 1) / (2000 : Int)) = 4611686018427387 := by decide
    omega
  · unfold Builtin.Str.tooLong
    have : (20000 : Nat) ≤ sizeLine := by decide
    simp
    omega
  · rw [if_neg (by omega), if_neg (by rw [hne]; decide)]
    refine ⟨?_, .str (timesS z k.toNat), H, I.tok _, ⟨_, rfl⟩, q⟩
    show ((List.replicate k.toNat z.cps).foldl (· ++ ·) #[]).size ≤ _
    rw [times_size]
    have e : k.toNat * z.cps.size = z.length * k.toNat := Nat.mul_comm _ _
    have : (20000 : Nat) ≤ sizeLine := by decide
    simp only [Array.size_empty]
    omega
def gMulA (mk : Bool) : G2 := fun s u μ => match s, u with
  | .d (.str z), .d (.int k) => if 2 ≤ k ∧ k ≤ 2000 ∧ 0 < z.length ∧ z.length ≤ 10 then some (.ok (.d (.str (timesS z k.toNat))) μ) else none
  | s, u => gMul mk s u μ
section
variable {K : PySem.W.Frag} {W : Wd} {E : XK}
def rMulT (K : PySem.W.Frag) : R2 := fun x y H Q => ((rI CMul fun i j => .int (i * j)) x y H Q ∨ rRepT K x y H Q ∨ rRepT1 K x y H Q ∨ rRep x y H Q) ∨ rTimesS x y H Q
theorem op_mulT {X : Cx} : OpR X (binaryOp .Mult) (rMulT X.K) := OpR.or op_mulAll op_timesS
theorem o2_mulT {mk : Bool} : Op2 K W E (rMulT K) (gMulA mk) := fun F L μ H x y s u res Q hr h1 h2 hg hp => by
  unfold gMulA at hg
  split at hg
  · rename_i z k
    by_cases hc : 2 ≤ k ∧ k ≤ 2000 ∧ 0 < z.length ∧ z.length ≤ 10
    · rw [if_pos hc] at hg; cases hg
      cases h1; cases h2
      exact .inr ⟨z, k, rfl, rfl, hc.1, hc.2.1, hc.2.2.1, hc.2.2.2, post_d hr hp (.str _)⟩
    · rw [if_neg hc] at hg; cases hg
  · exact .inl (o2_mulI F L μ H x y s u res Q hr h1 h2 hg hp)
/-- one sign in a text, or a thing in a sequence -/
def gInA (neg : Bool) : G2 := fun s u μ => match u with
  | .d (.str _) => gInS neg s u μ
  | _ => gIn neg s u μ
def rInS (neg : Bool) : R2 := fun x y H Q => ∃ (c : Nat) (z : Str), x = .str ⟨#[c]⟩ ∧ y = .str z ∧ Q (.bl (if neg then !decide (c ∈ z.cps.toList) else decide (c ∈ z.cps.toList))) H
theorem op_inA {X : Cx} (hu : X.A.units + 65 < cLine) : OpR X (compareOp .In) (fun x y H Q => rInAll X.K false x y H Q ∨ rInS false x y H Q) := OpR.or (op_inAll hu) op_in_sign
theorem op_ninA {X : Cx} (hu : X.A.units + 65 < cLine) : OpR X (compareOp .NotIn) (fun x y H Q => rInAll X.K true x y H Q ∨ rInS true x y H Q) := OpR.or (op_ninAll hu) op_notIn_sign
theorem o2_inA {neg : Bool} : Op2 K W E (fun x y H Q => rInAll K neg x y H Q ∨ rInS neg x y H Q) (gInA neg) := fun F L μ H x y s u res Q hr h1 h2 hg hp => by
  unfold gInA at hg
  split at hg
  · refine .inr ?_
    cases neg with
    | false => exact o2_inS F L μ H x y s _ res Q hr h1 h2 hg hp
    | true => exact o2_ninS F L μ H x y s _ res Q hr h1 h2 hg hp
  · exact .inl (o2_in F L μ H x y s u res Q hr h1 h2 hg hp)
/-- int(text), int(int), int(bool) -/
def gIntA : GF := fun ss μ => match ss with
  | [.d (.str _)] => gIntS ss μ
  | _ => gInt ss μ
def rIntA : List V → Hp → VK → Prop := fun xs H Q => ((∃ i, xs = [.int i] ∧ Q (.int i) H) ∨ ∃ k, xs = [.bl k] ∧ Q (.int (if k then 1 else 0)) H) ∨ ∃ a n, xs = [.str a] ∧ PySem.intText? a = some n ∧ a.length ≤ 640 ∧ Q (.int n) H
theorem call_intA {X : Cx} : CallR X (.type "int") rIntA := CallR.or call_int1 call_int_str
theorem k_intA : COk K W E rIntA gIntA := fun F L μ H vs ss res Q hr hd hg hp => by
  unfold gIntA at hg
  split at hg
  · exact .inr (k_intS F L μ H vs _ res Q hr hd hg hp)
  · exact .inl (k_int F L μ H vs ss res Q hr hd hg hp)
/-- == and != of two texts, or of data -/
def gEqA : G2 := fun s u μ => match s, u with
  | .d (.str a), .d (.str b) => some (.ok (.d (.bl (a == b))) μ)
  | s, u => gEq s u μ
def gNeA : G2 := fun s u μ => match s, u with
  | .d (.str a), .d (.str b) => some (.ok (.d (.bl (!(a == b)))) μ)
  | s, u => gNe s u μ
theorem o2_eqA : Op2 K W E (fun x y H Q => rEqD K x y H Q ∨ rEq x y H Q) gEqA := fun F L μ H x y s u res Q hr h1 h2 hg hp => by
  unfold gEqA at hg
  split at hg
  · cases hg; cases h1; cases h2
    exact .inr ⟨rfl, by rw [dec_str]; exact post_d hr hp (.bl _)⟩
  · exact .inl (o2_eq F L μ H x y s u res Q hr h1 h2 hg hp)
theorem o2_neA : Op2 K W E (fun x y H Q => rNeD K x y H Q ∨ rNe x y H Q) gNeA := fun F L μ H x y s u res Q hr h1 h2 hg hp => by
  unfold gNeA at hg
  split at hg
  · cases hg; cases h1; cases h2
    exact .inr ⟨rfl, by rw [dec_str]; exact post_d hr hp (.bl _)⟩
  · exact .inl (o2_ne F L μ H x y s u res Q hr h1 h2 hg hp)
end
end DL
end

section
set_option Elab.async false
set_option linter.all false
set_option maxRecDepth 100000
set_option maxHeartbeats 4000000
/-! DLhead: the facts that the head hands over. -/
namespace DL
open PySem PySem.Spec PyProof.Rows L2
/-! ### the error class, checked in K -/
def clsB (K : PySem.W.Frag) (C : Addr) : Bool := match K.lookup C with
  | some ⟨.type "type", _, .cls cd, sl⟩ => (match cd.mro, sl.toList with
    | .ref C' :: bm, [_, _, _, _, some (.builtin n), _] => C' == C && n == "ValueError.__new__" && !cd.hasDel && cd.hasDict && HandSPX.refsVE bm
    | _, _ => false)
  | _ => false
theorem clsB_ok {K : PySem.W.Frag} {C : Addr} (q : clsB K C = true) : ∃ nm q N bs bm sn sub ab col dd k0 k1 k2 k3 k5, K.lookup C = some (excClassObj nm q C N bs bm true sn sub ab col dd k0 k1 k2 k3 k5 "ValueError.__new__") ∧ HandSPX.refsVE bm = true := by
  unfold clsB at q
  split at q
  · rename_i dd cd sl ho
    split at q
    · rename_i C' bm k0 k1 k2 k3 n k5 hm hs
      simp only [Bool.and_eq_true, beq_iff_eq, Bool.not_eq_true'] at q
      obtain ⟨⟨⟨⟨rfl, rfl⟩, hdel⟩, hdict⟩, ht⟩ := q
      obtain ⟨nm, bs, mro, ns, qn, hd, sn, sub, ab, col, del⟩ := cd
      dsimp only at hm hdel hdict
      subst hm hdel hdict
      have hsl : sl = #[k0, k1, k2, k3, some (.builtin "ValueError.__new__"), k5] := by
        rw [← hs]
      subst hsl
      exact ⟨nm, qn, ns, bs, bm, sn, sub, ab, col, dd, k0, k1, k2, k3, k5, ho, ht⟩
    · cases q
  · cases q
/-- the def __init__ of the error class as it must be written -/
def initB (P : Program) (K : PySem.W.Frag) (C fI : Addr) (fld : Str) : Bool := match K.lookup fI with
  | some ⟨_, _, .func fd, _⟩ => (match fd.params, fd.body, fd.closure, fd.defaults, fd.code with
    | { posonlyargs := [], args := [{ arg := a1, annotation := none, pos := _ }, { arg := a2, annotation := none, pos := _ }], vararg := none, kwonlyargs := [], kw_defaults := [], kwarg := none, defaults := [] },
      .stmts [.Expr (.Call (.Attribute (.Call (.Name n1 _) [] [] _) n2 q3) [.Name n3 _] [] q5) _, .Assign [.Attribute (.Name n4 _) n5 _] (.Name n6 _) _], [(cn, cc)], .none, .ref cda =>
      decide (a1 = "self") && decide (a2 = fld) && decide (n1 = "super") && decide (n2 = "__init__") && decide (n3 = fld) && decide (n4 = "self") && decide (n5 = fld) && decide (n6 = fld) && decide (cn = "__class__") && decide (fd.name = "__init__") &&
      decide (fd.globals = mainGlobals) && decide (fd.builtins = builtinsNs) && PySem.W.codeIn K fd.code fd.qualname && (q3.endLine == q5.line) && decide (fd.scope.kind = .function) && !fd.scope.isCoroutine && !fd.scope.isGenerator && (fd.scope.names.all fun y => !decide (y.2 = .cell)) &&
      decide (fd.scope.names.lookup ("self" : Str) = some .local) && decide (fd.scope.names.lookup fld = some .local) && decide (fd.scope.names.lookup ("__class__" : Str) = some .free) && decide (fd.scope.names.lookup ("super" : Str) = some .globalImplicit) &&
      (match K.lookup cda with
        | some ⟨_, _, .fields vs, _⟩ => (match (vs[2]? : Option Value) with
          | some (Value.str file _) => ((P.main.file : Str) == file)
          | _ => false)
        | _ => false) &&
      (match K.lookup cc with
        | some ⟨_, _, .cell (some (.ref D)), _⟩ => D == C
        | _ => false)
    | _, _, _, _, _ => false)
  | _ => false
theorem initB_ok {P : Program} {K : PySem.W.Frag} {C fI : Addr} {fld : Str} (q : initB P K C fI fld = true) : ∃ (oc : Value) (od : Option Addr) (qual : Str) (kV doc pm : Value) (an : Option Addr) (cda cc : Addr) (ct : Value) (osl : Array (Option Value)) (p1 p2 q1 q2 q3 q4 q5 q6 q7 q8 q9 q10 : Pos) (scope : Scope) (ccl cl : Value) (cdd cld : Option Addr) (ccs csl : Array (Option Value)) (vs : Array Value) (file : Str) (tf : Tok),
    K.lookup fI = some ⟨oc, od, .func (PySem.W.ksFn "__init__" qual { posonlyargs := [], args := [{ arg := "self", annotation := none, pos := p1 }, { arg := fld, annotation := none, pos := p2 }], vararg := none, kwonlyargs := [], kw_defaults := [], kwarg := none, defaults := [] }
      [.Expr (.Call (.Attribute (.Call (.Name "super" q1) [] [] q2) "__init__" q3) [.Name fld q4] [] q5) q6, .Assign [.Attribute (.Name "self" q7) fld q8] (.Name fld q9) q10] scope .none kV doc pm an (.ref cda) ct cc), osl⟩ ∧ PySem.W.codeIn K (.ref cda) qual = true ∧
    (q3.endLine == q5.line) = true ∧ (scope.kind = .function ∧ scope.isCoroutine = false ∧ scope.isGenerator = false ∧ (∀ y ∈ scope.names, y.2 ≠ .cell) ∧ scope.names.lookup ("self" : Str) = some .local ∧ scope.names.lookup fld = some .local ∧ scope.names.lookup ("__class__" : Str) = some .free ∧ scope.names.lookup ("super" : Str) = some .globalImplicit) ∧
    K.lookup cda = some ⟨ccl, cdd, .fields vs, ccs⟩ ∧ vs[2]? = some (.str file tf) ∧ ((P.main.file : Str) == file) = true ∧
    K.lookup cc = some ⟨cl, cld, .cell (some (.ref C)), csl⟩ := by
  unfold initB at q
  split at q
  · rename_i oc od fd osl ho
    obtain ⟨nm, qn, params, body, scope, globals, closure, defaults, kwd, doc, pm, an, code, ct, blt⟩ := fd
    dsimp only at q
    split at q
    · rename_i a1 p1 a2 p2 n1 q1 q2 n2 q3 n3 q4 q5 q6 n4 q7 n5 q8 n6 q9 q10 cn cc cda
      simp only [Bool.and_eq_true, decide_eq_true_eq, Bool.not_eq_true', List.all_eq_true, decide_eq_false_iff_not] at q
      obtain ⟨⟨⟨⟨⟨⟨⟨⟨⟨⟨⟨⟨⟨⟨⟨⟨⟨⟨⟨⟨⟨⟨⟨b1, b2⟩, b3⟩, b4⟩, b5⟩, b6⟩, b7⟩, b8⟩, b9⟩, b10⟩, b11⟩, b12⟩, b13⟩, b14⟩, b15⟩, b16⟩, b17⟩, b18⟩, b19⟩, b20⟩, b21⟩, b22⟩, b23⟩, b24⟩ := q
      subst b1 b2 b3 b4 b5 b6 b7 b8 b9 b10 b11 b12
      split at b23
      · rename_i ccl cdd vs ccs hcda
        split at b23
        · rename_i file tf hvs
          split at b24
          · rename_i cl cld D csl hcell
            have hD : D = C := by simpa using b24
            subst hD
            exact ⟨_, _, _, _, _, _, _, _, _, _, _, _, _, _, _, _, _, _, _, _, _, _, _, _, _, _, _, _, _, _, _, _, _, ho, b13, b14, ⟨b15, b16, b17, b18, b19, b20, b21, b22⟩, hcda, hvs, b23, hcell⟩
          · cases b24
        · cases b23
      · cases b23
    · cases q
  · cases q
def errB (P : Program) (K : PySem.W.Frag) (x fld : Str) : Bool :=
  let C := He.ga K x
  let fI := He.ma K C "__init__"
  decide (PySem.W.nsIn K mainGlobals x = some (some (.ref C))) && clsB K C && decide (PySem.W.findIn K (.ref C) "__setattr__" = some (some (.builtin "object.__setattr__"))) && decide (PySem.W.findIn K (.ref C) "__getattribute__" = some (some (.builtin "BaseException.__getattribute__"))) &&
  decide (PySem.W.findIn K (.ref C) "__getattr__" = some none) && decide (PySem.W.findIn K (.ref C) fld = some none) && decide (PySem.W.findIn K (.ref C) "__init__" = some (some (.ref fI))) && decide (PySem.W.typeIn K (.ref fI) = some (.type "function")) && PySem.W.keepIn K (.ref C) &&
  decide (PySem.W.subIn K (.ref C) (.type "BaseException") = some true) && decide (PySem.W.typeIn K (.ref C) = some (.type "type")) && PySem.W.hasDictIn K C && decide (PySem.W.exmOne K (.ref C) (.ref C) = some true) && decide (PySem.W.subIn K (.ref C) (.type "ValueError") = some true) &&
  decide (PySem.W.mroIn K C (.ref C) = some true) && decide (PySem.W.ks_superIn K C C "__init__" = some (some (.builtin "ValueError.__init__"))) && decide (PySem.W.nsIn K cStatics "thirdparty.any" = some none) && decide (PySem.W.nsIn K mainGlobals "super" = some none) && initB P K C fI fld
theorem errB_ok {P : Program} {K : PySem.W.Frag} {h : Heap} {mg : Str → Option Value} {x fld : Str} (X : K.In h) (G : h.Ns mainGlobals mg) (q : errB P K x fld = true) (hf : fld = "name" ∨ fld = "place") (htop : (P.main.scope.names.lookup ("super" : Str)).isSome = false) : ErrTxt P K mg x fld (He.ga K x) (He.ma K (He.ga K x) "__init__") := by
  unfold errB at q
  simp only [Bool.and_eq_true, decide_eq_true_eq] at q
  obtain ⟨⟨⟨⟨⟨⟨⟨⟨⟨⟨⟨⟨⟨⟨⟨⟨⟨⟨a1, a2⟩, a3⟩, a4⟩, a5⟩, a6⟩, a7⟩, a8⟩, a9⟩, a10⟩, a11⟩, a12⟩, a13⟩, a14⟩, a15⟩, a16⟩, a17⟩, a18⟩, a19⟩ := q
  exact ⟨PySem.W.mg_of X G a1, clsB_ok a2, a3, a4, a5, a6, a7, a8, a9, a10, a11, a12, a13, a14, a15, a16, a17, a18, htop, hf, initB_ok a19⟩
/-- the program's own text: super is no name of the top -/
def superB (P : Program) : Bool := !(P.main.scope.names.lookup ("super" : Str)).isSome
/-! ### a Hook whose part holds the statics too -/
def frY (g : Addr → Option Obj) (n : Nat) : PySem.W.Frag := He.frT g (cStatics :: He.asD g n)
def obsY (n : Nat) (fa : List He.Fa) (fn : List He.DefD) (ts : List He.Tab) (tf : List He.Defn) (ex : PySem.W.Frag → Bool) (g : Addr → Option Obj) : He.AlX := (He.obsT fa fn ts (frY g n), ex (frY g n) && He.tabsB g tf (frY g n))
theorem saysY_of {n : Nat} {fa : List He.Fa} {fn : List He.DefD} {ts : List He.Tab} {tf : List He.Defn} {ex : PySem.W.Frag → Bool} {w : World} {h : Heap} (e : obsY n fa fn ts tf ex h.get? = He.valX fn ts w) : He.SaysX fa fn ts tf ex w h (frY h.get? n) := by
  have hb : (ex (frY h.get? n) && He.tabsB h.get? tf (frY h.get? n)) = true := congrArg Prod.snd e
  obtain ⟨b1, b2⟩ := He.ba hb
  have each : ∀ p ∈ tf, PySem.W.codeHdIn (frY h.get? n) (He.cT (frY h.get? n) p).1 (He.cT (frY h.get? n) p).2 = true ∧ ∃ o, h.get? (He.cT (frY h.get? n) p).2 = some o ∧ He.emptyTab o = true := fun p hp => by
    obtain ⟨c1, c2⟩ := He.ba (List.all_eq_true.mp b2 p hp)
    refine ⟨c1, ?_⟩
    split at c2
    · rename_i o q
      exact ⟨o, q, c2⟩
    · cases c2
  refine ⟨congrArg Prod.fst e, b1, fun p hp => (each p hp).1, fun p hp => ?_, fun p hp => ?_⟩
  · obtain ⟨_, o, q, z⟩ := each p hp
    exact He.frT_none q z
  · obtain ⟨_, o, q, z⟩ := each p hp
    rw [q, He.emptyTab_eq z]
def hookY (n : Nat) (fa : List He.Fa) (fn : List He.DefD) (ts : List He.Tab) (tf : List He.Defn) (ex : PySem.W.Frag → Bool) : PySem.W.Hook where
  α := He.AlX
  obs := fun s => obsY n fa fn ts tf ex s.heap.get?
  val := fun w => He.valX fn ts w
  says := fun w h => ∃ K : PySem.W.Frag, K.In h ∧ He.SaysX fa fn ts tf ex w h K
  of := fun _ _ e => ⟨_, He.frT_in, saysY_of e⟩
  keeps := fun _ _ _ ⟨K, hK, c⟩ k => ⟨K, PySem.W.Frag.In.keeps hK k, ⟨c.t, c.more, c.hd, c.out, fun p hp => k _ _ (c.empty p hp)⟩⟩
theorem obsY_eq {n : Nat} {fa : List He.Fa} {fn : List He.DefD} {ts : List He.Tab} {tf : List He.Defn} {ex : PySem.W.Frag → Bool} {g : Addr → Option Obj} {s : Shared} (h : ∀ a, g a = s.heap.get? a) : obsY n fa fn ts tf ex g = (hookY n fa fn ts tf ex).obs s := by
  have e : g = s.heap.get? := funext h
  rw [e] <;> rfl
/-! ### defs by their places -/
section
variable {K : PySem.W.Frag} {mg : Str → Option Value} {h : Heap}
def dOf (top : Nat → Stmt) (p : Str × Nat) : He.DefD := ⟨(p.1, none), p.1, p.1, defArgs (top p.2), defBody (top p.2), defScope (top p.2), [], []⟩
theorem fun_of {x qual : Str} {st : Stmt} {f : Addr} {fd : FuncData} (F : FunD K x qual (defArgs st) (defBody st) (defScope st) [] [] f fd) : Fun K x qual st f fd := by
  obtain ⟨oc, od, dV, kV, doc, pm, an, cdv, ct, osl, e, lk, hc, hd, _⟩ := F.ex
  have hdV : dV = .none := by
    rcases hd with ⟨_, e⟩ | ⟨z, _⟩
    · exact e
    · exact absurd rfl z
  subst hdV
  exact ⟨⟨oc, od, kV, doc, pm, an, cdv, ct, osl, e, lk, hc⟩, F.kp⟩
theorem st0_of {top : Nat → Stmt} {fa : List He.Fa} {fn : List He.DefD} (c : He.SaysD fa fn K) (X : K.In h) (G : h.Ns mainGlobals mg) (p : Str × Nat) (i j : Nat) (h1 : fn[i]? = some (dOf top p)) (h2 : fa[j]? = some (He.Fa.glo p.1)) : St0 K mg p.1 (top p.2) := by
  obtain ⟨fd, F⟩ := c.def_ i h1
  exact ⟨_, fd, He.glo_ok X G (c.fact j h2), fun_of F⟩
theorem st0C_of {top : Nat → Stmt} {fa : List He.Fa} {fn : List He.DefD} (c : He.SaysD fa fn K) (X : K.In h) (G : h.Ns mainGlobals mg) (p : Str × Nat) (i j : Nat) (h1 : fn[i]? = some (dOf top p)) (h2 : fa[j]? = some (He.Fa.glo p.1)) : St0C K mg p.1 (top p.2) (He.cT K (p.1, none)).1 := by
  obtain ⟨fd, F⟩ := c.def_ i h1
  have F' := fun_of F
  refine ⟨_, fd, He.glo_ok X G (c.fact j h2), F', ?_⟩
  obtain ⟨oc, od, kV, doc, pm, an, cdv, ct, osl, e, lk, hc⟩ := F'.ex
  obtain ⟨cc, ec⟩ := He.codeIn_ref hc
  subst ec
  have e1 : fd.code = .ref cc := by rw [e]
  rw [e1]
  exact congrArg Value.ref (He.codeOf_eq (p := (p.1, none)) lk e1).symm
end
/-! ### the end -/
def startF (H : Hp) : Hp := fun b => match H b with
  | some (.tbl _) => none
  | o => o
theorem startF_le (H : Hp) : Le (startF H) H := fun a o e => by
  unfold startF at e
  split at e
  · cases e
  · exact e
theorem law_sp {K : PySem.W.Frag} {W : Wd} {g : GF} {H : Hp} {a : Addr} {ns : List Int} (tabs : LamX.Tabs W.T H) (hS : SqL K H a (ns.map V.int)) (hg : ∃ μ', g [.d (.scr ns)] [] = some (.ok (.d (.bl true)) μ')) : spG K W 1 g [.ref a] H (fun v _ => v = .bl true) (fun _ _ _ => False) := by
  obtain ⟨μ', hg⟩ := hg
  refine ⟨rfl, startF H, [], [], [.d (.scr ns)], _, ⟨startF_le H, fun b ps e => ?_, tabs, List.nodup_nil, rfl, (by simp), (by simp)⟩, .cons (show Den K (startF H) (.ref a) (.scr ns) from .scr ?_) .nil, hg, fun v F' H' _ _ hd => ?_⟩
  · unfold startF at e
    split at e
    · cases e
    · rename_i hn
      exact hn ps e
  · have up : ∀ o, H a = some o → (∀ ps, o ≠ .tbl ps) → startF H a = some o := fun o e n => by
      unfold startF
      split
      · rename_i ps e2
        rw [e] at e2
        exact absurd (Option.some.inj e2) (n ps)
      · exact e
    rcases hS with (h | ⟨o, h⟩) | h
    · exact .inl (.inl (up _ h (fun ps z => by cases z)))
    · exact .inl (.inr ⟨o, up _ h (fun ps z => by cases z)⟩)
    · exact .inr h
  · cases hd; rfl
theorem noCX {P : Program} {w : World} {outer : List Env} {H : Hp} {s : Shared} {e : Value} {s' : Shared} (h : L2.CX P w outer H s (fun _ _ _ => False) e s') : False := by
  obtain ⟨_, _, _, _, _, _, _, _, _, _, _, _, z⟩ := h
  exact z
theorem fun_uniq {K : PySem.W.Frag} {x q : Str} {st : Stmt} {f : Addr} {fd fd' : FuncData} (a : Fun K x q st f fd) (b : Fun K x q st f fd') : fd = fd' := by
  obtain ⟨_, _, _, _, _, _, _, _, _, _, l1, _⟩ := a.ex
  obtain ⟨_, _, _, _, _, _, _, _, _, _, l2, _⟩ := b.ex
  rw [l1] at l2
  cases l2
  rfl
end DL
end

section
set_option Elab.async false
set_option linter.all false
set_option maxRecDepth 100000
set_option maxHeartbeats 4000000
namespace K05
open PySem PySem.Spec PyProof.Rows L2 DL
def topS (i : Nat) : Stmt := PySem.Challenge.pw_surebag_k05_whole_texts.main.body.getD i (.Pass ⟨0, 0, 0, 0⟩)
structure Nm (K : PySem.W.Frag) (mg : Str → Option Value) (W : Wd) : Prop where
  abs : mg "abs" = none
  all : mg "all" = none
  bool : mg "bool" = none
  enumerate : mg "enumerate" = none
  int : mg "int" = none
  isinstance : mg "isinstance" = none
  len : mg "len" = none
  max : mg "max" = none
  min : mg "min" = none
  range : mg "range" = none
  repr : mg "repr" = none
  set : mg "set" = none
  sorted : mg "sorted" = none
  str : mg "str" = none
  super : mg "super" = none
  tuple : mg "tuple" = none
  zip : mg "zip" = none
  MOST_KINDS : ∃ t, mg "MOST_KINDS" = some (.int (6) t)
  SLOTS : ∃ t, mg "SLOTS" = some (.int (8) t)
  MOST_READ : ∃ t, mg "MOST_READ" = some (.int (200) t)
  MOST_SIGNS : ∃ t, mg "MOST_SIGNS" = some (.int (1000) t)
  FIGURES : ∃ t, mg "FIGURES" = some (.str "0123456789" t)
section
variable {P : Program} {w : World} {K : PySem.W.Frag} {mg : Str → Option Value} {base : Heap} {W : Wd}
/-! ### is_in -/
abbrev st_is_in : Stmt := topS 8
abbrev N_is_in : List Str := ["value", "low", "high"]
theorem sc_is_in : FnScope N_is_in ["value", "low", "high"] (defScope st_is_in) := ⟨rfl, rfl, rfl, by decide +kernel, rfl, by decide +kernel, by decide +kernel⟩
theorem bi_is_in (kV doc pm : Value) (an : Option Addr) (cdv ct : Value) (us : List Value) (hl : us.length = 3) : bindArgs (PySem.W.fnOf "is_in" "is_in" (defArgs st_is_in) (defBody st_is_in) (defScope st_is_in) .none kV doc pm an cdv ct) ⟨us, []⟩ = pure ((["value", "low", "high"] : List Str).zip us) :=
  match us, hl with | [_, _, _], _ => rfl
def fb_is_in : SF := sRet (eAnd (eIsi "int" (eV 0)) (eAnd (eNot (eIsi "bool" (eV 0))) (eChain gLe gLe (eV 1) (eV 0) (eV 2))))
def g_is_in : GF := fun ss μ => if ss.length = 3 then fin μ.length (fb_is_in (startS 3 ss) μ) else none
theorem ok_is_in (T : Nm K mg W)  (h : St0 K mg "is_in" st_is_in) : Cal P w K mg base W 1 "is_in" st_is_in ["value", "low", "high"] g_is_in := by
  obtain ⟨f, fd, hm, hF⟩ := h.ex
  refine ⟨f, fd, hm, hF, fn_keeps (N := N_is_in) (fb := fb_is_in) hF sc_is_in (fun cdv A outer s H E hr => ?_) (fun ss μ r hl hg => by have hl : ss.length = 3 := hl; unfold g_is_in at hg; rw [if_pos hl] at hg; exact hg)⟩
  have hu65 := hr.u65
  exact qs_one (by exact qs_ret (by exact q_and (by exact q_isi T.isinstance T.int (by decide +kernel) (by exact q_v 0) (cn := "int")) (by exact q_and (by exact q_not (by exact q_isi T.isinstance T.bool (by decide +kernel) (by exact q_v 0) (cn := "bool"))) (by exact q_one (by exact q_chain op_le o2_le op_le o2_le (by exact q_v 1) (by exact q_v 0) (by exact q_v 2))))))

/-! ### are_in -/
abbrev st_are_in : Stmt := topS 9
abbrev N_are_in : List Str := ["value", "least", "most", "low", "high", "part"]
theorem sc_are_in : FnScope N_are_in ["value", "least", "most", "low", "high"] (defScope st_are_in) := ⟨rfl, rfl, rfl, by decide +kernel, rfl, by decide +kernel, by decide +kernel⟩
theorem bi_are_in (kV doc pm : Value) (an : Option Addr) (cdv ct : Value) (us : List Value) (hl : us.length = 5) : bindArgs (PySem.W.fnOf "are_in" "are_in" (defArgs st_are_in) (defBody st_are_in) (defScope st_are_in) .none kV doc pm an cdv ct) ⟨us, []⟩ = pure ((["value", "least", "most", "low", "high"] : List Str).zip us) :=
  match us, hl with | [_, _, _, _, _], _ => rfl
def fb_are_in : SF := sRet (eAnd (eIsi "tuple" (eV 0)) (eAnd (eChain gLe gLe (eV 1) (eB (gLen) (aCons (eV 0) aNil)) (eV 2)) (eB (gOnBls fun bs => bs.all id) (aCons (eLc false [5] (iAny (eV 0)) (hName 5) bYes (eCall 3 g_is_in (aCons (eV 5) (aCons (eV 3) (aCons (eV 4) aNil))))) aNil))))
def g_are_in : GF := fun ss μ => if ss.length = 5 then fin μ.length (fb_are_in (startS 6 ss) μ) else none
theorem ok_are_in (T : Nm K mg W) (C_is_in : Cal P w K mg base W 1 "is_in" st_is_in ["value", "low", "high"] g_is_in) (h : St0 K mg "are_in" st_are_in) : Cal P w K mg base W 2 "are_in" st_are_in ["value", "least", "most", "low", "high"] g_are_in := by
  obtain ⟨f, fd, hm, hF⟩ := h.ex
  refine ⟨f, fd, hm, hF, fn_keeps (N := N_are_in) (fb := fb_are_in) hF sc_are_in (fun cdv A outer s H E hr => ?_) (fun ss μ r hl hg => by have hl : ss.length = 5 := hl; unfold g_are_in at hg; rw [if_pos hl] at hg; exact hg)⟩
  have hu65 := hr.u65
  exact qs_one (by exact qs_ret (by exact q_and (by exact q_isi T.isinstance T.tuple (by decide +kernel) (by exact q_v 0) (cn := "tuple")) (by exact q_and (by exact q_chain op_le o2_le op_le o2_le (by exact q_v 1) (by exact q_bi c_len k_len T.len (by decide +kernel) (by exact qa_cons (by exact q_v 0) qa_nil)) (by exact q_v 2)) (by exact q_one (by exact q_bi (cr_all rfl) k_all T.all (by decide +kernel) (by exact qa_cons (by exact q_lc (mk := false) (own := [("part", 5)]) rfl sc_are_in.nd (blkOk_by (own := [("part", 5)]) (N := N_are_in) (sc := defScope st_are_in) (by decide +kernel)) (by exact q_iany (by exact q_v 0)) (fun _ _ _ _ _ => by exact q_tname sc_are_in.nd (i := 5)) (fun _ _ _ _ _ => by exact qts_nil) (fun _ _ _ _ _ => by exact q_call (ps := ["value", "low", "high"]) C_is_in (hr.mono (by decide)) passL (by exact qa_cons (by exact q_v 5) (by exact qa_cons (by exact q_v 3) (by exact qa_cons (by exact q_v 4) qa_nil))) bi_is_in)) qa_nil))))))

/-! ### is_ascending -/
abbrev st_is_ascending : Stmt := topS 10
abbrev N_is_ascending : List Str := ["values", "one", "two"]
theorem sc_is_ascending : FnScope N_is_ascending ["values"] (defScope st_is_ascending) := ⟨rfl, rfl, rfl, by decide +kernel, rfl, by decide +kernel, by decide +kernel⟩
theorem bi_is_ascending (kV doc pm : Value) (an : Option Addr) (cdv ct : Value) (us : List Value) (hl : us.length = 1) : bindArgs (PySem.W.fnOf "is_ascending" "is_ascending" (defArgs st_is_ascending) (defBody st_is_ascending) (defScope st_is_ascending) .none kV doc pm an cdv ct) ⟨us, []⟩ = pure ((["values"] : List Str).zip us) :=
  match us, hl with | [_], _ => rfl
def fb_is_ascending : SF := sRet (eB (gOnBls fun bs => bs.all id) (aCons (eLc false [1, 2] (iZip2 (aCons (eV 0) (aCons (eCut false (eV 0) (some (eC (.int 1))) none) aNil))) (hTup 2 (hsCons (hName 1) (hsCons (hName 2) hsNil))) bYes (e2 gLt (eV 1) (eV 2))) aNil))
def g_is_ascending : GF := fun ss μ => if ss.length = 1 then fin μ.length (fb_is_ascending (startS 3 ss) μ) else none
theorem ok_is_ascending (T : Nm K mg W)  (h : St0 K mg "is_ascending" st_is_ascending) : Cal P w K mg base W 1 "is_ascending" st_is_ascending ["values"] g_is_ascending := by
  obtain ⟨f, fd, hm, hF⟩ := h.ex
  refine ⟨f, fd, hm, hF, fn_keeps (N := N_is_ascending) (fb := fb_is_ascending) hF sc_is_ascending (fun cdv A outer s H E hr => ?_) (fun ss μ r hl hg => by have hl : ss.length = 1 := hl; unfold g_is_ascending at hg; rw [if_pos hl] at hg; exact hg)⟩
  have hu65 := hr.u65
  exact qs_one (by exact qs_ret (by exact q_bi (cr_all rfl) k_all T.all (by decide +kernel) (by exact qa_cons (by exact q_lc (mk := false) (own := [("one", 1), ("two", 2)]) rfl sc_is_ascending.nd (blkOk_by (own := [("one", 1), ("two", 2)]) (N := N_is_ascending) (sc := defScope st_is_ascending) (by decide +kernel)) (by exact q_izip2 T.zip (by exact qa_cons (by exact q_v 0) (by exact qa_cons (by exact q_cut (mk := false) (by exact q_v 0) (by exact qp_some q_int) qp_none) qa_nil))) (fun _ _ _ _ _ => by exact q_ttup rfl (by exact q_tcons (by exact q_tname sc_is_ascending.nd (i := 1)) (by exact q_tcons (by exact q_tname sc_is_ascending.nd (i := 2)) q_tnil)) (n := 2)) (fun _ _ _ _ _ => by exact qts_nil) (fun _ _ _ _ _ => by exact q_cmp op_lt o2_lt (by exact q_v 1) (by exact q_v 2) (nomark _))) qa_nil)))

/-! ### demand -/
abbrev st_demand : Stmt := topS 11
abbrev N_demand : List Str := ["is_good", "name"]
theorem sc_demand : FnScope N_demand ["is_good", "name"] (defScope st_demand) := ⟨rfl, rfl, rfl, by decide +kernel, rfl, by decide +kernel, by decide +kernel⟩
theorem bi_demand (kV doc pm : Value) (an : Option Addr) (cdv ct : Value) (us : List Value) (hl : us.length = 2) : bindArgs (PySem.W.fnOf "demand" "demand" (defArgs st_demand) (defBody st_demand) (defScope st_demand) .none kV doc pm an cdv ct) ⟨us, []⟩ = pure ((["is_good", "name"] : List Str).zip us) :=
  match us, hl with | [_, _], _ => rfl
def fb_demand : SF := sIf (bNot (tst (eV 0))) (sRaise Ex.arg (eV 1)) sNx
def g_demand : GF := fun ss μ => if ss.length = 2 then fin μ.length (fb_demand (startS 2 ss) μ) else none
theorem ok_demand (T : Nm K mg W) {fA : Addr} (TA : ErrTxt P K mg "BadArgument" "name" W.CA fA)  (h : St0 K mg "demand" st_demand) : Cal P w K mg base W 1 "demand" st_demand ["is_good", "name"] g_demand := by
  obtain ⟨f, fd, hm, hF⟩ := h.ex
  refine ⟨f, fd, hm, hF, fn_keeps (N := N_demand) (fb := fb_demand) hF sc_demand (fun cdv A outer s H E hr => ?_) (fun ss μ r hl hg => by have hl : ss.length = 2 := hl; unfold g_demand at hg; rw [if_pos hl] at hg; exact hg)⟩
  have hu65 := hr.u65
  exact qs_one (by exact qs_if (by exact qt_not (by exact qt_val (by exact q_v 0))) (by exact qs_one (by exact qs_raiseA TA T.super rfl hr (takes_of rfl rfl rfl rfl) (by exact q_v 1))) qs_nil)

/-! ### are_slots -/
abbrev st_are_slots : Stmt := topS 12
abbrev N_are_slots : List Str := ["value", "least"]
theorem sc_are_slots : FnScope N_are_slots ["value", "least"] (defScope st_are_slots) := ⟨rfl, rfl, rfl, by decide +kernel, rfl, by decide +kernel, by decide +kernel⟩
theorem bi_are_slots (kV doc pm : Value) (an : Option Addr) (cdv ct : Value) (us : List Value) (hl : us.length = 2) : bindArgs (PySem.W.fnOf "are_slots" "are_slots" (defArgs st_are_slots) (defBody st_are_slots) (defScope st_are_slots) .none kV doc pm an cdv ct) ⟨us, []⟩ = pure ((["value", "least"] : List Str).zip us) :=
  match us, hl with | [_, _], _ => rfl
def fb_are_slots : SF := sRet (eAnd (eCall 5 g_are_in (aCons (eV 0) (aCons (eV 1) (aCons (eC (.int (8))) (aCons (eC (.int 0)) (aCons (e2 (gSub) (eC (.int (8))) (eC (.int 1))) aNil)))))) (eCall 1 g_is_ascending (aCons (eV 0) aNil)))
def g_are_slots : GF := fun ss μ => if ss.length = 2 then fin μ.length (fb_are_slots (startS 2 ss) μ) else none
theorem ok_are_slots (T : Nm K mg W) (C_are_in : Cal P w K mg base W 2 "are_in" st_are_in ["value", "least", "most", "low", "high"] g_are_in) (C_is_ascending : Cal P w K mg base W 1 "is_ascending" st_is_ascending ["values"] g_is_ascending) (h : St0 K mg "are_slots" st_are_slots) : Cal P w K mg base W 3 "are_slots" st_are_slots ["value", "least"] g_are_slots := by
  obtain ⟨f, fd, hm, hF⟩ := h.ex
  refine ⟨f, fd, hm, hF, fn_keeps (N := N_are_slots) (fb := fb_are_slots) hF sc_are_slots (fun cdv A outer s H E hr => ?_) (fun ss μ r hl hg => by have hl : ss.length = 2 := hl; unfold g_are_slots at hg; rw [if_pos hl] at hg; exact hg)⟩
  have hu65 := hr.u65
  exact qs_one (by exact qs_ret (by exact q_and (by exact q_call (ps := ["value", "least", "most", "low", "high"]) C_are_in (hr.mono (by decide)) (passes_call (takes_of rfl rfl rfl rfl) fun _ _ _ _ h => h) (by exact qa_cons (by exact q_v 0) (by exact qa_cons (by exact q_v 1) (by exact qa_cons (by exact q_gint T.SLOTS) (by exact qa_cons q_int (by exact qa_cons (by exact q_op op_sub o2_sub (by exact q_gint T.SLOTS) q_int) qa_nil))))) bi_are_in) (by exact q_one (by exact q_call (ps := ["values"]) C_is_ascending (hr.mono (by decide)) (passes_call (takes_of rfl rfl rfl rfl) fun _ _ _ _ h => h) (by exact qa_cons (by exact q_v 0) qa_nil) bi_is_ascending))))

/-! ### is_machine -/
abbrev st_is_machine : Stmt := topS 13
abbrev N_is_machine : List Str := ["value", "slots"]
theorem sc_is_machine : FnScope N_is_machine ["value"] (defScope st_is_machine) := ⟨rfl, rfl, rfl, by decide +kernel, rfl, by decide +kernel, by decide +kernel⟩
theorem bi_is_machine (kV doc pm : Value) (an : Option Addr) (cdv ct : Value) (us : List Value) (hl : us.length = 1) : bindArgs (PySem.W.fnOf "is_machine" "is_machine" (defArgs st_is_machine) (defBody st_is_machine) (defScope st_is_machine) .none kV doc pm an cdv ct) ⟨us, []⟩ = pure ((["value"] : List Str).zip us) :=
  match us, hl with | [_], _ => rfl
def fb_is_machine : SF := sRet (eAnd (eIsi "tuple" (eV 0)) (eAnd (eChain gLe gLe (eC (.int 1)) (eB (gLen) (aCons (eV 0) aNil)) (eC (.int (6)))) (eB (gOnBls fun bs => bs.all id) (aCons (eLc false [1] (iAny (eV 0)) (hName 1) bYes (eCall 2 g_are_slots (aCons (eV 1) (aCons (eC (.int 1)) aNil)))) aNil))))
def g_is_machine : GF := fun ss μ => if ss.length = 1 then fin μ.length (fb_is_machine (startS 2 ss) μ) else none
theorem ok_is_machine (T : Nm K mg W) (C_are_slots : Cal P w K mg base W 3 "are_slots" st_are_slots ["value", "least"] g_are_slots) (h : St0 K mg "is_machine" st_is_machine) : Cal P w K mg base W 4 "is_machine" st_is_machine ["value"] g_is_machine := by
  obtain ⟨f, fd, hm, hF⟩ := h.ex
  refine ⟨f, fd, hm, hF, fn_keeps (N := N_is_machine) (fb := fb_is_machine) hF sc_is_machine (fun cdv A outer s H E hr => ?_) (fun ss μ r hl hg => by have hl : ss.length = 1 := hl; unfold g_is_machine at hg; rw [if_pos hl] at hg; exact hg)⟩
  have hu65 := hr.u65
  exact qs_one (by exact qs_ret (by exact q_and (by exact q_isi T.isinstance T.tuple (by decide +kernel) (by exact q_v 0) (cn := "tuple")) (by exact q_and (by exact q_chain op_le o2_le op_le o2_le q_int (by exact q_bi c_len k_len T.len (by decide +kernel) (by exact qa_cons (by exact q_v 0) qa_nil)) (by exact q_gint T.MOST_KINDS)) (by exact q_one (by exact q_bi (cr_all rfl) k_all T.all (by decide +kernel) (by exact qa_cons (by exact q_lc (mk := false) (own := [("slots", 1)]) rfl sc_is_machine.nd (blkOk_by (own := [("slots", 1)]) (N := N_is_machine) (sc := defScope st_is_machine) (by decide +kernel)) (by exact q_iany (by exact q_v 0)) (fun _ _ _ _ _ => by exact q_tname sc_is_machine.nd (i := 1)) (fun _ _ _ _ _ => by exact qts_nil) (fun _ _ _ _ _ => by exact q_call (ps := ["value", "least"]) C_are_slots (hr.mono (by decide)) passL (by exact qa_cons (by exact q_v 1) (by exact qa_cons q_int qa_nil)) bi_are_slots)) qa_nil))))))

/-! ### is_reading -/
abbrev st_is_reading : Stmt := topS 14
abbrev N_is_reading : List Str := ["value"]
theorem sc_is_reading : FnScope N_is_reading ["value"] (defScope st_is_reading) := ⟨rfl, rfl, rfl, by decide +kernel, rfl, by decide +kernel, by decide +kernel⟩
theorem bi_is_reading (kV doc pm : Value) (an : Option Addr) (cdv ct : Value) (us : List Value) (hl : us.length = 1) : bindArgs (PySem.W.fnOf "is_reading" "is_reading" (defArgs st_is_reading) (defBody st_is_reading) (defScope st_is_reading) .none kV doc pm an cdv ct) ⟨us, []⟩ = pure ((["value"] : List Str).zip us) :=
  match us, hl with | [_], _ => rfl
def fb_is_reading : SF := sRet (eCall 5 g_are_in (aCons (eV 0) (aCons (eC (.int (8))) (aCons (eC (.int (8))) (aCons (eC (.int 0)) (aCons (eC (.int (200))) aNil))))))
def g_is_reading : GF := fun ss μ => if ss.length = 1 then fin μ.length (fb_is_reading (startS 1 ss) μ) else none
theorem ok_is_reading (T : Nm K mg W) (C_are_in : Cal P w K mg base W 2 "are_in" st_are_in ["value", "least", "most", "low", "high"] g_are_in) (h : St0 K mg "is_reading" st_is_reading) : Cal P w K mg base W 3 "is_reading" st_is_reading ["value"] g_is_reading := by
  obtain ⟨f, fd, hm, hF⟩ := h.ex
  refine ⟨f, fd, hm, hF, fn_keeps (N := N_is_reading) (fb := fb_is_reading) hF sc_is_reading (fun cdv A outer s H E hr => ?_) (fun ss μ r hl hg => by have hl : ss.length = 1 := hl; unfold g_is_reading at hg; rw [if_pos hl] at hg; exact hg)⟩
  have hu65 := hr.u65
  exact qs_one (by exact qs_ret (by exact q_call (ps := ["value", "least", "most", "low", "high"]) C_are_in (hr.mono (by decide)) (passes_call (takes_of rfl rfl rfl rfl) fun _ _ _ _ h => h) (by exact qa_cons (by exact q_v 0) (by exact qa_cons (by exact q_gint T.SLOTS) (by exact qa_cons (by exact q_gint T.SLOTS) (by exact qa_cons q_int (by exact qa_cons (by exact q_gint T.MOST_READ) qa_nil))))) bi_are_in))

/-! ### parts_of -/
abbrev st_parts_of : Stmt := topS 18
abbrev N_parts_of : List Str := ["text"]
theorem sc_parts_of : FnScope N_parts_of ["text"] (defScope st_parts_of) := ⟨rfl, rfl, rfl, by decide +kernel, rfl, by decide +kernel, by decide +kernel⟩
theorem bi_parts_of (kV doc pm : Value) (an : Option Addr) (cdv ct : Value) (us : List Value) (hl : us.length = 1) : bindArgs (PySem.W.fnOf "parts_of" "parts_of" (defArgs st_parts_of) (defBody st_parts_of) (defScope st_parts_of) .none kV doc pm an cdv ct) ⟨us, []⟩ = pure ((["text"] : List Str).zip us) :=
  match us, hl with | [_], _ => rfl
def fb_parts_of : SF := sSeq (sIf (bOr (bNot (tst (eIsi "str" (eV 0)))) (tst (e2 gGt (eB (gLen) (aCons (eV 0) aNil)) (eC (.int (1000)))))) (sRaise Ex.txt (eNeg (eC (.int 1)))) sNx) (sRet (eM1 (gSplit false) (eV 0) (eC (.str " "))))
def g_parts_of : GF := fun ss μ => if ss.length = 1 then fin μ.length (fb_parts_of (startS 1 ss) μ) else none
theorem ok_parts_of (T : Nm K mg W) {fT : Addr} (TT : ErrTxt P K mg "BadText" "place" W.CT fT)  (h : St0 K mg "parts_of" st_parts_of) : Cal P w K mg base W 1 "parts_of" st_parts_of ["text"] g_parts_of := by
  obtain ⟨f, fd, hm, hF⟩ := h.ex
  refine ⟨f, fd, hm, hF, fn_keeps (N := N_parts_of) (fb := fb_parts_of) hF sc_parts_of (fun cdv A outer s H E hr => ?_) (fun ss μ r hl hg => by have hl : ss.length = 1 := hl; unfold g_parts_of at hg; rw [if_pos hl] at hg; exact hg)⟩
  have hu65 := hr.u65
  exact qs_cons (by exact qs_if (by exact PW.pt (by exact qw_or (by exact qt_not (by exact qt_val (by exact q_isi T.isinstance T.str (by decide +kernel) (by exact q_v 0) (cn := "str")))) (by exact qw_or1 (by exact qt_cmp op_gt o2_gt (by exact q_bi c_len k_len T.len (by decide +kernel) (by exact qa_cons (by exact q_v 0) qa_nil)) (by exact q_gint T.MOST_SIGNS) (nomark _))))) (by exact qs_one (by exact qs_raiseT TT T.super rfl hr (takes_of rfl rfl rfl rfl) (by exact q_neg q_int))) qs_nil) (by exact qs_one (by exact qs_ret (by exact q_m1 PySem.F.slot_str_split PySem.F.type_str_split mt_split (m1_split (mk := false)) (by exact q_v 0) q_str)))

/-! ### write_machine -/
abbrev st_write_machine : Stmt := topS 19
abbrev N_write_machine : List Str := ["machine", "slot", "slots"]
theorem sc_write_machine : FnScope N_write_machine ["machine"] (defScope st_write_machine) := ⟨rfl, rfl, rfl, by decide +kernel, rfl, by decide +kernel, by decide +kernel⟩
theorem bi_write_machine (kV doc pm : Value) (an : Option Addr) (cdv ct : Value) (us : List Value) (hl : us.length = 1) : bindArgs (PySem.W.fnOf "write_machine" "write_machine" (defArgs st_write_machine) (defBody st_write_machine) (defScope st_write_machine) .none kV doc pm an cdv ct) ⟨us, []⟩ = pure ((["machine"] : List Str).zip us) :=
  match us, hl with | [_], _ => rfl
def fb_write_machine : SF := sSeq (sDrop (eCall 2 g_demand (aCons (eCall 1 g_is_machine (aCons (eV 0) aNil)) (aCons (eC (.str "machine")) aNil)))) (sRet (eM1 gJoin (eC (.str " ")) (eLc false [2] (iAny (eV 0)) (hName 2) bYes (eM1 gJoin (eC (.str "")) (eLc false [1] (iAny (eV 2)) (hName 1) bYes (eB (gStr) (aCons (eV 1) aNil)))))))
def g_write_machine : GF := fun ss μ => if ss.length = 1 then fin μ.length (fb_write_machine (startS 3 ss) μ) else none
theorem ok_write_machine (T : Nm K mg W) (C_demand : Cal P w K mg base W 1 "demand" st_demand ["is_good", "name"] g_demand) (C_is_machine : Cal P w K mg base W 4 "is_machine" st_is_machine ["value"] g_is_machine) (h : St0 K mg "write_machine" st_write_machine) : Cal P w K mg base W 5 "write_machine" st_write_machine ["machine"] g_write_machine := by
  obtain ⟨f, fd, hm, hF⟩ := h.ex
  refine ⟨f, fd, hm, hF, fn_keeps (N := N_write_machine) (fb := fb_write_machine) hF sc_write_machine (fun cdv A outer s H E hr => ?_) (fun ss μ r hl hg => by have hl : ss.length = 1 := hl; unfold g_write_machine at hg; rw [if_pos hl] at hg; exact hg)⟩
  have hu65 := hr.u65
  exact qs_cons (by exact qs_expr (by exact q_call (ps := ["is_good", "name"]) C_demand (hr.mono (by decide)) (passes_call (takes_of rfl rfl rfl rfl) fun _ _ _ _ h => h) (by exact qa_cons (by exact q_call (ps := ["value"]) C_is_machine (hr.mono (by decide)) (passes_call (takes_of rfl rfl rfl rfl) fun _ _ _ _ h => h) (by exact qa_cons (by exact q_v 0) qa_nil) bi_is_machine) (by exact qa_cons q_str qa_nil)) bi_demand)) (by exact qs_one (by exact qs_ret (by exact q_m1 PySem.F.slot_str_join PySem.F.type_str_join mt_join m1_join q_str (by exact q_lc (mk := false) (own := [("slots", 2)]) rfl sc_write_machine.nd (blkOk_by (own := [("slots", 2)]) (N := N_write_machine) (sc := defScope st_write_machine) (by decide +kernel)) (by exact q_iany (by exact q_v 0)) (fun _ _ _ _ _ => by exact q_tname sc_write_machine.nd (i := 2)) (fun _ _ _ _ _ => by exact qts_nil) (fun _ _ _ _ _ => by exact q_m1 PySem.F.slot_str_join PySem.F.type_str_join mt_join m1_join q_str (by exact q_lc (mk := false) (own := [("slot", 1)]) rfl sc_write_machine.nd (blkOk_by (own := [("slot", 1)]) (N := N_write_machine) (by rfl)) (by exact q_iany (by exact q_v 2)) (fun _ _ _ _ _ => by exact q_tname sc_write_machine.nd (i := 1)) (fun _ _ _ _ _ => by exact qts_nil) (fun _ _ _ _ _ => by exact q_ty call_str_int k_strI T.str (by decide +kernel) (by exact qa_cons (by exact q_v 1) qa_nil))))))))

/-! ### read_machine -/
abbrev st_read_machine : Stmt := topS 20
abbrev N_read_machine : List Str := ["text", "found", "at", "part", "slots", "sign"]
theorem sc_read_machine : FnScope N_read_machine ["text"] (defScope st_read_machine) := ⟨rfl, rfl, rfl, by decide +kernel, rfl, by decide +kernel, by decide +kernel⟩
theorem bi_read_machine (kV doc pm : Value) (an : Option Addr) (cdv ct : Value) (us : List Value) (hl : us.length = 1) : bindArgs (PySem.W.fnOf "read_machine" "read_machine" (defArgs st_read_machine) (defBody st_read_machine) (defScope st_read_machine) .none kV doc pm an cdv ct) ⟨us, []⟩ = pure ((["text"] : List Str).zip us) :=
  match us, hl with | [_], _ => rfl
def lb_read_machine_0 : SF := sSeq (sSet 4 (eB (gTup) (aCons (eLc false [5] (iAny (eV 3)) (hName 5) bYes (eIf (tst (e2 (gInA false) (eV 5) (eC (.str "0123456789")))) (eM1 gIndex (eC (.str "0123456789")) (eV 5)) (eC (.int (8))))) aNil))) (sSeq (sIf (bOr (bNot (tst (eCall 2 g_are_slots (aCons (eV 4) (aCons (eC (.int 1)) aNil))))) (tst (e2 gGe (eV 2) (eC (.int (6)))))) (sRaise Ex.txt (eV 2)) sNx) (sDrop (eAppend (eV 1) (eV 4))))
def fb_read_machine : SF := sSeq (sSet 1 (eLst true aNil)) (sSeq (sFor (iEnm (aCons (eCall 1 g_parts_of (aCons (eV 0) aNil)) aNil)) (hTup 2 (hsCons (hName 2) (hsCons (hName 3) hsNil))) lb_read_machine_0) (sRet (eB (gTup) (aCons (eV 1) aNil))))
def g_read_machine : GF := fun ss μ => if ss.length = 1 then fin μ.length (fb_read_machine (startS 6 ss) μ) else none
theorem ok_read_machine (T : Nm K mg W) {fT : Addr} (TT : ErrTxt P K mg "BadText" "place" W.CT fT) (C_are_slots : Cal P w K mg base W 3 "are_slots" st_are_slots ["value", "least"] g_are_slots) (C_parts_of : Cal P w K mg base W 1 "parts_of" st_parts_of ["text"] g_parts_of) (h : St0 K mg "read_machine" st_read_machine) : Cal P w K mg base W 4 "read_machine" st_read_machine ["text"] g_read_machine := by
  obtain ⟨f, fd, hm, hF⟩ := h.ex
  refine ⟨f, fd, hm, hF, fn_keeps (N := N_read_machine) (fb := fb_read_machine) hF sc_read_machine (fun cdv A outer s H E hr => ?_) (fun ss μ r hl hg => by have hl : ss.length = 1 := hl; unfold g_read_machine at hg; rw [if_pos hl] at hg; exact hg)⟩
  have hu65 := hr.u65
  exact qs_cons (by exact qs_set (i := 1) sc_read_machine.nd (by exact q_lst (mk := true) qa_nil)) (by exact qs_cons (by exact qs_for (passes_of rfl) rfl (by exact q_ienum T.enumerate (by exact qa_cons (by exact q_call (ps := ["text"]) C_parts_of (hr.mono (by decide)) (passes_call (takes_of rfl rfl rfl rfl) fun _ _ _ _ h => h) (by exact qa_cons (by exact q_v 0) qa_nil) bi_parts_of) qa_nil)) (by exact q_ttup rfl (by exact q_tcons (by exact q_tname sc_read_machine.nd (i := 2)) (by exact q_tcons (by exact q_tname sc_read_machine.nd (i := 3)) q_tnil)) (n := 2)) (by exact qs_cons (by exact qs_set (i := 4) sc_read_machine.nd (by exact q_ty call_tuple_of k_tup T.tuple (by decide +kernel) (by exact qa_cons (by exact q_lc (mk := false) (own := [("sign", 5)]) rfl sc_read_machine.nd (blkOk_by (own := [("sign", 5)]) (N := N_read_machine) (sc := defScope st_read_machine) (by decide +kernel)) (by exact q_iany (by exact q_v 3)) (fun _ _ _ _ _ => by exact q_tname sc_read_machine.nd (i := 5)) (fun _ _ _ _ _ => by exact qts_nil) (fun _ _ _ _ _ => by exact q_if (by exact qt_cmp (op_inA hu65) (o2_inA (neg := false)) (by exact q_v 5) (by exact q_gstr T.FIGURES) (by rfl)) (by exact q_m1 PySem.F.slot_str_index PySem.F.type_str_index mt_sindex m1_index (by exact q_gstr T.FIGURES) (by exact q_v 5)) (by exact q_gint T.SLOTS))) qa_nil))) (by exact qs_cons (by exact qs_if (by exact PW.pt (by exact qw_or (by exact qt_not (by exact qt_val (by exact q_call (ps := ["value", "least"]) C_are_slots (hr.mono (by decide)) (passes_call (takes_of rfl rfl rfl rfl) fun _ _ _ _ h => h) (by exact qa_cons (by exact q_v 4) (by exact qa_cons q_int qa_nil)) bi_are_slots))) (by exact qw_or1 (by exact qt_cmp op_ge o2_ge (by exact q_v 2) (by exact q_gint T.MOST_KINDS) (nomark _))))) (by exact qs_one (by exact qs_raiseT TT T.super rfl hr (takes_of rfl rfl rfl rfl) (by exact q_v 2))) qs_nil) (by exact qs_one (by exact qs_expr (by exact q_append (by exact q_v 1) (by exact q_v 4))))))) (by exact qs_one (by exact qs_ret (by exact q_ty call_tuple_of k_tup T.tuple (by decide +kernel) (by exact qa_cons (by exact q_v 1) qa_nil)))))

/-! ### write_reading -/
abbrev st_write_reading : Stmt := topS 21
abbrev N_write_reading : List Str := ["reading", "found", "slot", "many"]
theorem sc_write_reading : FnScope N_write_reading ["reading"] (defScope st_write_reading) := ⟨rfl, rfl, rfl, by decide +kernel, rfl, by decide +kernel, by decide +kernel⟩
theorem bi_write_reading (kV doc pm : Value) (an : Option Addr) (cdv ct : Value) (us : List Value) (hl : us.length = 1) : bindArgs (PySem.W.fnOf "write_reading" "write_reading" (defArgs st_write_reading) (defBody st_write_reading) (defScope st_write_reading) .none kV doc pm an cdv ct) ⟨us, []⟩ = pure ((["reading"] : List Str).zip us) :=
  match us, hl with | [_], _ => rfl
def fb_write_reading : SF := sSeq (sDrop (eCall 2 g_demand (aCons (eCall 1 g_is_reading (aCons (eV 0) aNil)) (aCons (eC (.str "reading")) aNil)))) (sSeq (sSet 1 (eLc false [2, 3] (iEnm (aCons (eV 0) aNil)) (hTup 2 (hsCons (hName 2) (hsCons (hName 3) hsNil))) (tst (e2 gGt (eV 3) (eC (.int 0)))) (eJs [eFmt (eV 2), eC (.str ":"), eFmt (eV 3)] Str.empty))) (sRet (eIf (tst (e2 gGt (eB (gLen) (aCons (eV 1) aNil)) (eC (.int 0)))) (eM1 gJoin (eC (.str " ")) (eV 1)) (eC (.str "-")))))
def g_write_reading : GF := fun ss μ => if ss.length = 1 then fin μ.length (fb_write_reading (startS 4 ss) μ) else none
theorem ok_write_reading (T : Nm K mg W) (C_demand : Cal P w K mg base W 1 "demand" st_demand ["is_good", "name"] g_demand) (C_is_reading : Cal P w K mg base W 3 "is_reading" st_is_reading ["value"] g_is_reading) (h : St0 K mg "write_reading" st_write_reading) : Cal P w K mg base W 4 "write_reading" st_write_reading ["reading"] g_write_reading := by
  obtain ⟨f, fd, hm, hF⟩ := h.ex
  refine ⟨f, fd, hm, hF, fn_keeps (N := N_write_reading) (fb := fb_write_reading) hF sc_write_reading (fun cdv A outer s H E hr => ?_) (fun ss μ r hl hg => by have hl : ss.length = 1 := hl; unfold g_write_reading at hg; rw [if_pos hl] at hg; exact hg)⟩
  have hu65 := hr.u65
  exact qs_cons (by exact qs_expr (by exact q_call (ps := ["is_good", "name"]) C_demand (hr.mono (by decide)) (passes_call (takes_of rfl rfl rfl rfl) fun _ _ _ _ h => h) (by exact qa_cons (by exact q_call (ps := ["value"]) C_is_reading (hr.mono (by decide)) (passes_call (takes_of rfl rfl rfl rfl) fun _ _ _ _ h => h) (by exact qa_cons (by exact q_v 0) qa_nil) bi_is_reading) (by exact qa_cons q_str qa_nil)) bi_demand)) (by exact qs_cons (by exact qs_setLc (i := 1) (mk := false) (own := [("slot", 2), ("many", 3)]) rfl sc_write_reading.nd (blkOk_by (own := [("slot", 2), ("many", 3)]) (N := N_write_reading) (sc := defScope st_write_reading) (by decide +kernel)) (by exact q_ienum T.enumerate (by exact qa_cons (by exact q_v 0) qa_nil)) (fun _ _ _ _ _ => by exact q_ttup rfl (by exact q_tcons (by exact q_tname sc_write_reading.nd (i := 2)) (by exact q_tcons (by exact q_tname sc_write_reading.nd (i := 3)) q_tnil)) (n := 2)) (fun _ _ _ _ _ => by exact qts_one (by exact qt_cmp op_gt o2_gt (by exact q_v 3) q_int (nomark _))) (fun _ _ _ _ _ => by exact q_joined (.cons (by exact q_fmt (by exact q_v 2)) (.cons q_str (.cons (by exact q_fmt (by exact q_v 3)) (.nil)))))) (by exact qs_one (by exact qs_ret (by exact q_if (by exact qt_cmp op_gt o2_gt (by exact q_bi c_len k_len T.len (by decide +kernel) (by exact qa_cons (by exact q_v 1) qa_nil)) q_int (nomark _)) (by exact q_m1 PySem.F.slot_str_join PySem.F.type_str_join mt_join m1_join q_str (by exact q_v 1)) q_str))))

/-! ### integer_of -/
abbrev st_integer_of : Stmt := topS 22
abbrev N_integer_of : List Str := ["text", "sign"]
theorem sc_integer_of : FnScope N_integer_of ["text"] (defScope st_integer_of) := ⟨rfl, rfl, rfl, by decide +kernel, rfl, by decide +kernel, by decide +kernel⟩
theorem bi_integer_of (kV doc pm : Value) (an : Option Addr) (cdv ct : Value) (us : List Value) (hl : us.length = 1) : bindArgs (PySem.W.fnOf "integer_of" "integer_of" (defArgs st_integer_of) (defBody st_integer_of) (defScope st_integer_of) .none kV doc pm an cdv ct) ⟨us, []⟩ = pure ((["text"] : List Str).zip us) :=
  match us, hl with | [_], _ => rfl
def fb_integer_of : SF := sSeq (sIf (bOr (tst (e2 gEqA (eV 0) (eC (.str "")))) (bOr (tst (e2 gGt (eB (gLen) (aCons (eV 0) aNil)) (eC (.int 4)))) (bOr (bNot (tst (eB (gOnBls fun bs => bs.all id) (aCons (eLc false [1] (iAny (eV 0)) (hName 1) bYes (e2 (gInA false) (eV 1) (eC (.str "0123456789")))) aNil)))) (tst (e2 gEqA (e2 gIx (eV 0) (eC (.int 0))) (eC (.str "0"))))))) (sRet (eC (.int 0))) sNx) (sRet (eB (gIntA) (aCons (eV 0) aNil)))
def g_integer_of : GF := fun ss μ => if ss.length = 1 then fin μ.length (fb_integer_of (startS 2 ss) μ) else none
theorem ok_integer_of (T : Nm K mg W)  (h : St0 K mg "integer_of" st_integer_of) : Cal P w K mg base W 1 "integer_of" st_integer_of ["text"] g_integer_of := by
  obtain ⟨f, fd, hm, hF⟩ := h.ex
  refine ⟨f, fd, hm, hF, fn_keeps (N := N_integer_of) (fb := fb_integer_of) hF sc_integer_of (fun cdv A outer s H E hr => ?_) (fun ss μ r hl hg => by have hl : ss.length = 1 := hl; unfold g_integer_of at hg; rw [if_pos hl] at hg; exact hg)⟩
  have hu65 := hr.u65
  exact qs_cons (by exact qs_if (by exact PW.pt (by exact qw_or (by exact qt_cmp (OpR.or (op_eqD hr.units) op_eq) o2_eqA (by exact q_v 0) q_str (nomark _)) (by exact qw_or (by exact qt_cmp op_gt o2_gt (by exact q_bi c_len k_len T.len (by decide +kernel) (by exact qa_cons (by exact q_v 0) qa_nil)) q_int (nomark _)) (by exact qw_or (by exact qt_not (by exact qt_val (by exact q_bi (cr_all rfl) k_all T.all (by decide +kernel) (by exact qa_cons (by exact q_lc (mk := false) (own := [("sign", 1)]) rfl sc_integer_of.nd (blkOk_by (own := [("sign", 1)]) (N := N_integer_of) (sc := defScope st_integer_of) (by decide +kernel)) (by exact q_iany (by exact q_v 0)) (fun _ _ _ _ _ => by exact q_tname sc_integer_of.nd (i := 1)) (fun _ _ _ _ _ => by exact qts_nil) (fun _ _ _ _ _ => by exact q_cmp (op_inA hu65) (o2_inA (neg := false)) (by exact q_v 1) (by exact q_gstr T.FIGURES) (by rfl))) qa_nil)))) (by exact qw_or1 (by exact qt_cmp (OpR.or (op_eqD hr.units) op_eq) o2_eqA (by exact q_ix (by exact q_v 0) q_int) q_str (nomark _))))))) (by exact qs_one (by exact qs_ret q_int)) qs_nil) (by exact qs_one (by exact qs_ret (by exact q_ty call_intA k_intA T.int (by decide +kernel) (by exact qa_cons (by exact q_v 0) qa_nil))))

/-! ### read_reading -/
abbrev st_read_reading : Stmt := topS 23
abbrev N_read_reading : List Str := ["text", "parts", "found", "last", "slot", "at", "part", "many"]
theorem sc_read_reading : FnScope N_read_reading ["text"] (defScope st_read_reading) := ⟨rfl, rfl, rfl, by decide +kernel, rfl, by decide +kernel, by decide +kernel⟩
theorem bi_read_reading (kV doc pm : Value) (an : Option Addr) (cdv ct : Value) (us : List Value) (hl : us.length = 1) : bindArgs (PySem.W.fnOf "read_reading" "read_reading" (defArgs st_read_reading) (defBody st_read_reading) (defScope st_read_reading) .none kV doc pm an cdv ct) ⟨us, []⟩ = pure ((["text"] : List Str).zip us) :=
  match us, hl with | [_], _ => rfl
def lb_read_reading_0 : SF := sSeq (sPar 4 7 (aCons (eM1 gFind (e2 (gAdd false) (eC (.str "0123456789")) (eC (.str "-"))) (eCut false (eV 6) none (some (eC (.int 1))))) (aCons (eCall 1 g_integer_of (aCons (eCut false (eV 6) (some (eC (.int 2))) none) aNil)) aNil))) (sSeq (sIf (bOr (tst (e2 gNeA (eCut false (eV 6) (some (eC (.int 1))) (some (eC (.int 2)))) (eC (.str ":")))) (bOr (bNot (tst (eChain gLt gLt (eV 3) (eV 4) (eC (.int (8)))))) (bNot (tst (eChain gLe gLe (eC (.int 1)) (eV 7) (eC (.int (200)))))))) (sRaise Ex.txt (eV 5)) sNx) (sSeq (sSetItem (eV 7) (eV 2) (eV 4)) (sSet 3 (eV 4))))
def fb_read_reading : SF := sSeq (sPar3 1 2 3 (aCons (eCall 1 g_parts_of (aCons (eV 0) aNil)) (aCons (eLc true [4] (iRg none (eC (.int (8)))) (hName 4) bYes (eC (.int 0))) (aCons (eNeg (eC (.int 1))) aNil)))) (sSeq (sIf (tst (e2 gEqA (eV 1) (eLst false (aCons (eC (.str "-")) aNil)))) (sRet (eB (gTup) (aCons (eV 2) aNil))) sNx) (sSeq (sFor (iEnm (aCons (eV 1) aNil)) (hTup 2 (hsCons (hName 5) (hsCons (hName 6) hsNil))) lb_read_reading_0) (sRet (eB (gTup) (aCons (eV 2) aNil)))))
def g_read_reading : GF := fun ss μ => if ss.length = 1 then fin μ.length (fb_read_reading (startS 8 ss) μ) else none
theorem ok_read_reading (T : Nm K mg W) {fT : Addr} (TT : ErrTxt P K mg "BadText" "place" W.CT fT) (C_parts_of : Cal P w K mg base W 1 "parts_of" st_parts_of ["text"] g_parts_of) (C_integer_of : Cal P w K mg base W 1 "integer_of" st_integer_of ["text"] g_integer_of) (h : St0 K mg "read_reading" st_read_reading) : Cal P w K mg base W 2 "read_reading" st_read_reading ["text"] g_read_reading := by
  obtain ⟨f, fd, hm, hF⟩ := h.ex
  refine ⟨f, fd, hm, hF, fn_keeps (N := N_read_reading) (fb := fb_read_reading) hF sc_read_reading (fun cdv A outer s H E hr => ?_) (fun ss μ r hl hg => by have hl : ss.length = 1 := hl; unfold g_read_reading at hg; rw [if_pos hl] at hg; exact hg)⟩
  have hu65 := hr.u65
  exact qs_cons (by exact qs_par3 (i := 1) (j := 2) (l := 3) rfl sc_read_reading.nd (by exact qa_cons (by exact q_call (ps := ["text"]) C_parts_of (hr.mono (by decide)) (passes_call (takes_of rfl rfl rfl rfl) fun _ _ _ _ h => h) (by exact qa_cons (by exact q_v 0) qa_nil) bi_parts_of) (by exact qa_cons (by exact q_lc (mk := true) (own := [("slot", 4)]) rfl sc_read_reading.nd (blkOk_by (own := [("slot", 4)]) (N := N_read_reading) (sc := defScope st_read_reading) (by decide +kernel)) (by exact q_irg1 T.range (by exact q_gint T.SLOTS)) (fun _ _ _ _ _ => by exact q_tname sc_read_reading.nd (i := 4)) (fun _ _ _ _ _ => by exact qts_nil) (fun _ _ _ _ _ => by exact q_int)) (by exact qa_cons (by exact q_neg q_int) qa_nil)))) (by exact qs_cons (by exact qs_if (by exact qt_cmp (OpR.or (op_eqD hr.units) op_eq) o2_eqA (by exact q_v 1) (by exact q_lst (mk := false) (by exact qa_cons q_str qa_nil)) (nomark _)) (by exact qs_one (by exact qs_ret (by exact q_ty call_tuple_of k_tup T.tuple (by decide +kernel) (by exact qa_cons (by exact q_v 2) qa_nil)))) qs_nil) (by exact qs_cons (by exact qs_for (passes_of rfl) rfl (by exact q_ienum T.enumerate (by exact qa_cons (by exact q_v 1) qa_nil)) (by exact q_ttup rfl (by exact q_tcons (by exact q_tname sc_read_reading.nd (i := 5)) (by exact q_tcons (by exact q_tname sc_read_reading.nd (i := 6)) q_tnil)) (n := 2)) (by exact qs_cons (by exact qs_par (i := 4) (j := 7) rfl sc_read_reading.nd (by exact qa_cons (by exact q_m1 PySem.F.slot_str_find PySem.F.type_str_find mt_find m1_find (by exact q_op op_addAll (o2_add (mk := false)) (by exact q_gstr T.FIGURES) q_str) (by exact q_cut (mk := false) (by exact q_v 6) qp_none (by exact qp_some q_int))) (by exact qa_cons (by exact q_call (ps := ["text"]) C_integer_of (hr.mono (by decide)) (passes_call (takes_of rfl rfl rfl rfl) fun _ _ _ _ h => h) (by exact qa_cons (by exact q_cut (mk := false) (by exact q_v 6) (by exact qp_some q_int) qp_none) qa_nil) bi_integer_of) qa_nil))) (by exact qs_cons (by exact qs_if (by exact PW.pt (by exact qw_or (by exact qt_cmp (OpR.or (op_neD hr.units) op_ne) o2_neA (by exact q_cut (mk := false) (by exact q_v 6) (by exact qp_some q_int) (by exact qp_some q_int)) q_str (nomark _)) (by exact qw_or (by exact qt_not (by exact qt_chain op_lt o2_lt op_lt o2_lt (by exact q_v 3) (by exact q_v 4) (by exact q_gint T.SLOTS))) (by exact qw_or1 (by exact qt_not (by exact qt_chain op_le o2_le op_le o2_le q_int (by exact q_v 7) (by exact q_gint T.MOST_READ))))))) (by exact qs_one (by exact qs_raiseT TT T.super rfl hr (takes_of rfl rfl rfl rfl) (by exact q_v 5))) qs_nil) (by exact qs_cons (by exact qs_setitem (by exact q_v 7) (by exact q_v 2) (by exact q_v 4)) (by exact qs_one (by exact qs_set (i := 3) sc_read_reading.nd (by exact q_v 4))))))) (by exact qs_one (by exact qs_ret (by exact q_ty call_tuple_of k_tup T.tuple (by decide +kernel) (by exact qa_cons (by exact q_v 2) qa_nil))))))

/-! ### _law_dice -/
abbrev st__law_dice : Stmt := topS 25
abbrev N__law_dice : List Str := ["script", "spot", "own", "mixed", "cell"]
theorem sc__law_dice : FnScope N__law_dice ["script", "spot"] (defScope st__law_dice) := ⟨rfl, rfl, rfl, by decide +kernel, rfl, by decide +kernel, by decide +kernel⟩
theorem bi__law_dice (kV doc pm : Value) (an : Option Addr) (cdv ct : Value) (us : List Value) (hl : us.length = 2) : bindArgs (PySem.W.fnOf "_law_dice" "_law_dice" (defArgs st__law_dice) (defBody st__law_dice) (defScope st__law_dice) .none kV doc pm an cdv ct) ⟨us, []⟩ = pure ((["script", "spot"] : List Str).zip us) :=
  match us, hl with | [_, _], _ => rfl
def lb__law_dice_0 : SF := sSet 3 (e2 (gMod) (eB (gIntA) (aCons (e2 (gAdd false) (e2 (gMulA false) (eV 3) (eC (.int 48271))) (e2 (gMod) (eB (gIntA) (aCons (eV 4) aNil)) (eC (.int 2147480009)))) aNil)) (eC (.int 2147480009)))
def fb__law_dice : SF := sSeq (sSet 2 (eIf (tst (e2 gLt (eV 1) (eB (gLen) (aCons (eV 0) aNil)))) (e2 gIx (eV 0) (eV 1)) (e2 (gAdd false) (e2 (gMulA false) (eC (.int 733)) (eV 1)) (eC (.int 29))))) (sSeq (sSet 3 (e2 (gAdd false) (eC (.int 910003)) (e2 (gMulA false) (eC (.int 7907)) (eV 1)))) (sSeq (sFor (iAny (e2 (gAdd false) (eCut false (eV 0) none (some (eC (.int 6)))) (eLst false (aCons (eV 2) aNil)))) (hName 4) lb__law_dice_0) (sRet (eLst true (aCons (eIf (bOr (tst (e2 gLt (eV 2) (eC (.int 0)))) (tst (e2 gGe (eV 2) (e2 (gPow) (eC (.int 10)) (eC (.int 16)))))) (eB (gAbs) (aCons (eV 2) aNil)) (eC (.int 0))) (aCons (eV 3) (aCons (eC (.int 0)) aNil)))))))
def g__law_dice : GF := fun ss μ => if ss.length = 2 then finM μ.length (fb__law_dice (startS 5 ss) μ) else none
theorem ok__law_dice (T : Nm K mg W)  (h : St0 K mg "_law_dice" st__law_dice) : Cal P w K mg base W 1 "_law_dice" st__law_dice ["script", "spot"] g__law_dice := by
  obtain ⟨f, fd, hm, hF⟩ := h.ex
  refine ⟨f, fd, hm, hF, fn_keepsM (N := N__law_dice) (fb := fb__law_dice) hF sc__law_dice (fun cdv A outer s H E hr => ?_) (fun ss μ r hl hg => by have hl : ss.length = 2 := hl; unfold g__law_dice at hg; rw [if_pos hl] at hg; exact hg)⟩
  have hu65 := hr.u65
  exact qs_cons (by exact qs_set (i := 2) sc__law_dice.nd (by exact q_if (by exact qt_cmp op_lt o2_lt (by exact q_v 1) (by exact q_bi c_len k_len T.len (by decide +kernel) (by exact qa_cons (by exact q_v 0) qa_nil)) (nomark _)) (by exact q_ix (by exact q_v 0) (by exact q_v 1)) (by exact q_op op_addAll (o2_add (mk := false)) (by exact q_op op_mulT (o2_mulT (mk := false)) q_int (by exact q_v 1)) q_int))) (by exact qs_cons (by exact qs_set (i := 3) sc__law_dice.nd (by exact q_op op_addAll (o2_add (mk := false)) q_int (by exact q_op op_mulT (o2_mulT (mk := false)) q_int (by exact q_v 1)))) (by exact qs_cons (by exact qs_for (passes_of rfl) rfl (by exact q_iany (by exact q_op op_addAll (o2_add (mk := false)) (by exact q_cut (mk := false) (by exact q_v 0) qp_none (by exact qp_some q_int)) (by exact q_lst (mk := false) (by exact qa_cons (by exact q_v 2) qa_nil)))) (by exact q_tname sc__law_dice.nd (i := 4)) (by exact qs_one (by exact qs_set (i := 3) sc__law_dice.nd (by exact q_op op_mod o2_mod (by exact q_ty call_intA k_intA T.int (by decide +kernel) (by exact qa_cons (by exact q_op op_addAll (o2_add (mk := false)) (by exact q_op op_mulT (o2_mulT (mk := false)) (by exact q_v 3) q_int) (by exact q_op op_mod o2_mod (by exact q_ty call_intA k_intA T.int (by decide +kernel) (by exact qa_cons (by exact q_v 4) qa_nil)) q_int)) qa_nil)) q_int)))) (by exact qs_one (by exact qs_ret (by exact q_lst (mk := true) (by exact qa_cons (by exact q_if (by exact PW.pt (by exact qw_or (by exact qt_cmp op_lt o2_lt (by exact q_v 2) q_int (nomark _)) (by exact qw_or1 (by exact qt_cmp op_ge o2_ge (by exact q_v 2) (by exact q_op op_pow o2_pow q_int q_int) (nomark _))))) (by exact q_bi call_abs k_abs T.abs (by decide +kernel) (by exact qa_cons (by exact q_v 2) qa_nil)) q_int) (by exact qa_cons (by exact q_v 3) (by exact qa_cons q_int qa_nil))))))))

/-! ### _law_roll -/
abbrev st__law_roll : Stmt := topS 26
abbrev N__law_roll : List Str := ["dice", "total", "found"]
theorem sc__law_roll : FnScope N__law_roll ["dice", "total"] (defScope st__law_roll) := ⟨rfl, rfl, rfl, by decide +kernel, rfl, by decide +kernel, by decide +kernel⟩
theorem bi__law_roll (kV doc pm : Value) (an : Option Addr) (cdv ct : Value) (us : List Value) (hl : us.length = 2) : bindArgs (PySem.W.fnOf "_law_roll" "_law_roll" (defArgs st__law_roll) (defBody st__law_roll) (defScope st__law_roll) .none kV doc pm an cdv ct) ⟨us, []⟩ = pure ((["dice", "total"] : List Str).zip us) :=
  match us, hl with | [_, _], _ => rfl
def fb__law_roll : SF := sSeq (sIf (tst (e2 gGt (e2 gIx (eV 0) (eC (.int 0))) (eC (.int 0)))) (sSeq (sSet 2 (e2 (gMod) (eB (gIntA) (aCons (e2 gIx (eV 0) (eC (.int 0))) aNil)) (eV 1))) (sSeq (sSetItem (e2 (gFdiv) (e2 gIx (eV 0) (eC (.int 0))) (eV 1)) (eV 0) (eC (.int 0))) (sRet (eV 2)))) sNx) (sSeq (sSetItem (e2 (gAdd false) (e2 gIx (eV 0) (eC (.int 2))) (eC (.int 1))) (eV 0) (eC (.int 2))) (sSeq (sSetItem (e2 (gMod) (eB (gIntA) (aCons (e2 (gAdd false) (e2 (gAdd false) (e2 (gMulA false) (e2 gIx (eV 0) (eC (.int 1))) (eC (.int 52501))) (e2 (gMulA false) (e2 (gMulA false) (e2 gIx (eV 0) (eC (.int 2))) (e2 gIx (eV 0) (eC (.int 2)))) (eC (.int 1009)))) (eC (.int 77))) aNil)) (eC (.int 2147480009))) (eV 0) (eC (.int 1))) (sRet (e2 (gMod) (eB (gIntA) (aCons (e2 (gFdiv) (e2 gIx (eV 0) (eC (.int 1))) (eC (.int 211))) aNil)) (eV 1)))))
def g__law_roll : GF := fun ss μ => if ss.length = 2 then fin μ.length (fb__law_roll (startS 3 ss) μ) else none
theorem ok__law_roll (T : Nm K mg W)  (h : St0 K mg "_law_roll" st__law_roll) : Cal P w K mg base W 1 "_law_roll" st__law_roll ["dice", "total"] g__law_roll := by
  obtain ⟨f, fd, hm, hF⟩ := h.ex
  refine ⟨f, fd, hm, hF, fn_keeps (N := N__law_roll) (fb := fb__law_roll) hF sc__law_roll (fun cdv A outer s H E hr => ?_) (fun ss μ r hl hg => by have hl : ss.length = 2 := hl; unfold g__law_roll at hg; rw [if_pos hl] at hg; exact hg)⟩
  have hu65 := hr.u65
  exact qs_cons (by exact qs_if (by exact qt_cmp op_gt o2_gt (by exact q_ix (by exact q_v 0) q_int) q_int (nomark _)) (by exact qs_cons (by exact qs_set (i := 2) sc__law_roll.nd (by exact q_op op_mod o2_mod (by exact q_ty call_intA k_intA T.int (by decide +kernel) (by exact qa_cons (by exact q_ix (by exact q_v 0) q_int) qa_nil)) (by exact q_v 1))) (by exact qs_cons (by exact qs_setitem (by exact q_op op_fdiv o2_fdiv (by exact q_ix (by exact q_v 0) q_int) (by exact q_v 1)) (by exact q_v 0) q_int) (by exact qs_one (by exact qs_ret (by exact q_v 2))))) qs_nil) (by exact qs_cons (by exact qs_setitem (by exact q_op op_addAll (o2_add (mk := false)) (by exact q_ix (by exact q_v 0) q_int) q_int) (by exact q_v 0) q_int) (by exact qs_cons (by exact qs_setitem (by exact q_op op_mod o2_mod (by exact q_ty call_intA k_intA T.int (by decide +kernel) (by exact qa_cons (by exact q_op op_addAll (o2_add (mk := false)) (by exact q_op op_addAll (o2_add (mk := false)) (by exact q_op op_mulT (o2_mulT (mk := false)) (by exact q_ix (by exact q_v 0) q_int) q_int) (by exact q_op op_mulT (o2_mulT (mk := false)) (by exact q_op op_mulT (o2_mulT (mk := false)) (by exact q_ix (by exact q_v 0) q_int) (by exact q_ix (by exact q_v 0) q_int)) q_int)) q_int) qa_nil)) q_int) (by exact q_v 0) q_int) (by exact qs_one (by exact qs_ret (by exact q_op op_mod o2_mod (by exact q_ty call_intA k_intA T.int (by decide +kernel) (by exact qa_cons (by exact q_op op_fdiv o2_fdiv (by exact q_ix (by exact q_v 0) q_int) q_int) qa_nil)) (by exact q_v 1))))))

/-! ### _law_pick -/
abbrev st__law_pick : Stmt := topS 27
abbrev N__law_pick : List Str := ["dice", "things"]
theorem sc__law_pick : FnScope N__law_pick ["dice", "things"] (defScope st__law_pick) := ⟨rfl, rfl, rfl, by decide +kernel, rfl, by decide +kernel, by decide +kernel⟩
theorem bi__law_pick (kV doc pm : Value) (an : Option Addr) (cdv ct : Value) (us : List Value) (hl : us.length = 2) : bindArgs (PySem.W.fnOf "_law_pick" "_law_pick" (defArgs st__law_pick) (defBody st__law_pick) (defScope st__law_pick) .none kV doc pm an cdv ct) ⟨us, []⟩ = pure ((["dice", "things"] : List Str).zip us) :=
  match us, hl with | [_, _], _ => rfl
def fb__law_pick : SF := sRet (e2 gIx (eV 1) (eCall 2 g__law_roll (aCons (eV 0) (aCons (eB (gLen) (aCons (eV 1) aNil)) aNil))))
def g__law_pick : GF := fun ss μ => if ss.length = 2 then fin μ.length (fb__law_pick (startS 2 ss) μ) else none
theorem ok__law_pick (T : Nm K mg W) (C__law_roll : Cal P w K mg base W 1 "_law_roll" st__law_roll ["dice", "total"] g__law_roll) (h : St0 K mg "_law_pick" st__law_pick) : Cal P w K mg base W 2 "_law_pick" st__law_pick ["dice", "things"] g__law_pick := by
  obtain ⟨f, fd, hm, hF⟩ := h.ex
  refine ⟨f, fd, hm, hF, fn_keeps (N := N__law_pick) (fb := fb__law_pick) hF sc__law_pick (fun cdv A outer s H E hr => ?_) (fun ss μ r hl hg => by have hl : ss.length = 2 := hl; unfold g__law_pick at hg; rw [if_pos hl] at hg; exact hg)⟩
  have hu65 := hr.u65
  exact qs_one (by exact qs_ret (by exact q_ix (by exact q_v 1) (by exact q_call (ps := ["dice", "total"]) C__law_roll (hr.mono (by decide)) (passes_call (takes_of rfl rfl rfl rfl) fun _ _ _ _ h => h) (by exact qa_cons (by exact q_v 0) (by exact qa_cons (by exact q_bi c_len k_len T.len (by decide +kernel) (by exact qa_cons (by exact q_v 1) qa_nil)) qa_nil)) bi__law_roll)))

/-! ### _law_b_machine -/
abbrev st__law_b_machine : Stmt := topS 29
abbrev N__law_b_machine : List Str := ["dice", "kinds", "found", "kind", "first", "some"]
theorem sc__law_b_machine : FnScope N__law_b_machine ["dice", "kinds"] (defScope st__law_b_machine) := ⟨rfl, rfl, rfl, by decide +kernel, rfl, by decide +kernel, by decide +kernel⟩
theorem bi__law_b_machine (kV doc pm : Value) (an : Option Addr) (cdv ct : Value) (us : List Value) (hl : us.length = 2) : bindArgs (PySem.W.fnOf "_law_b_machine" "_law_b_machine" (defArgs st__law_b_machine) (defBody st__law_b_machine) (defScope st__law_b_machine) .none kV doc pm an cdv ct) ⟨us, []⟩ = pure ((["dice", "kinds"] : List Str).zip us) :=
  match us, hl with | [_, _], _ => rfl
def lb__law_b_machine_0 : SF := sSeq (sSet 4 (eCall 2 g__law_roll (aCons (eV 0) (aCons (eC (.int 8)) aNil)))) (sSeq (sSet 5 (e2 (gAdd false) (e2 (gAdd false) (eLst false (aCons (eV 4) aNil)) (e2 (gMulA false) (eLst false (aCons (eB (gMin) (aCons (eC (.int 7)) (aCons (e2 (gAdd false) (eV 4) (eC (.int 1))) aNil))) aNil)) (eB (gIntA) (aCons (e2 gEqA (eCall 2 g__law_roll (aCons (eV 0) (aCons (eC (.int 2)) aNil))) (eC (.int 0))) aNil)))) (e2 (gMulA false) (eLst false (aCons (eCall 2 g__law_roll (aCons (eV 0) (aCons (eC (.int 8)) aNil))) aNil)) (eB (gIntA) (aCons (e2 gEqA (eCall 2 g__law_roll (aCons (eV 0) (aCons (eC (.int 4)) aNil))) (eC (.int 0))) aNil))))) (sDrop (eAppend (eV 2) (eB (gTup) (aCons (eSortedSet false (eV 5)) aNil)))))
def fb__law_b_machine : SF := sSeq (sSet 2 (eLst true aNil)) (sSeq (sFor (iRg none (eV 1)) (hName 3) lb__law_b_machine_0) (sRet (eB (gTup) (aCons (eV 2) aNil))))
def g__law_b_machine : GF := fun ss μ => if ss.length = 2 then fin μ.length (fb__law_b_machine (startS 6 ss) μ) else none
theorem ok__law_b_machine (T : Nm K mg W) (C__law_roll : Cal P w K mg base W 1 "_law_roll" st__law_roll ["dice", "total"] g__law_roll) (h : St0 K mg "_law_b_machine" st__law_b_machine) : Cal P w K mg base W 2 "_law_b_machine" st__law_b_machine ["dice", "kinds"] g__law_b_machine := by
  obtain ⟨f, fd, hm, hF⟩ := h.ex
  refine ⟨f, fd, hm, hF, fn_keeps (N := N__law_b_machine) (fb := fb__law_b_machine) hF sc__law_b_machine (fun cdv A outer s H E hr => ?_) (fun ss μ r hl hg => by have hl : ss.length = 2 := hl; unfold g__law_b_machine at hg; rw [if_pos hl] at hg; exact hg)⟩
  have hu65 := hr.u65
  exact qs_cons (by exact qs_set (i := 2) sc__law_b_machine.nd (by exact q_lst (mk := true) qa_nil)) (by exact qs_cons (by exact qs_for (passes_of rfl) rfl (by exact q_irg1 T.range (by exact q_v 1)) (by exact q_tname sc__law_b_machine.nd (i := 3)) (by exact qs_cons (by exact qs_set (i := 4) sc__law_b_machine.nd (by exact q_call (ps := ["dice", "total"]) C__law_roll (hr.mono (by decide)) (passes_call (takes_of rfl rfl rfl rfl) fun _ _ _ _ h => h) (by exact qa_cons (by exact q_v 0) (by exact qa_cons q_int qa_nil)) bi__law_roll)) (by exact qs_cons (by exact qs_set (i := 5) sc__law_b_machine.nd (by exact q_op op_addAll (o2_add (mk := false)) (by exact q_op op_addAll (o2_add (mk := false)) (by exact q_lst (mk := false) (by exact qa_cons (by exact q_v 4) qa_nil)) (by exact q_op op_mulT (o2_mulT (mk := false)) (by exact q_lst (mk := false) (by exact qa_cons (by exact q_bi (c_min rfl) k_min T.min (by decide +kernel) (by exact qa_cons q_int (by exact qa_cons (by exact q_op op_addAll (o2_add (mk := false)) (by exact q_v 4) q_int) qa_nil))) qa_nil)) (by exact q_ty call_intA k_intA T.int (by decide +kernel) (by exact qa_cons (by exact q_cmp (OpR.or (op_eqD hr.units) op_eq) o2_eqA (by exact q_call (ps := ["dice", "total"]) C__law_roll (hr.mono (by decide)) (passes_call (takes_of rfl rfl rfl rfl) fun _ _ _ _ h => h) (by exact qa_cons (by exact q_v 0) (by exact qa_cons q_int qa_nil)) bi__law_roll) q_int (nomark _)) qa_nil)))) (by exact q_op op_mulT (o2_mulT (mk := false)) (by exact q_lst (mk := false) (by exact qa_cons (by exact q_call (ps := ["dice", "total"]) C__law_roll (hr.mono (by decide)) (passes_call (takes_of rfl rfl rfl rfl) fun _ _ _ _ h => h) (by exact qa_cons (by exact q_v 0) (by exact qa_cons q_int qa_nil)) bi__law_roll) qa_nil)) (by exact q_ty call_intA k_intA T.int (by decide +kernel) (by exact qa_cons (by exact q_cmp (OpR.or (op_eqD hr.units) op_eq) o2_eqA (by exact q_call (ps := ["dice", "total"]) C__law_roll (hr.mono (by decide)) (passes_call (takes_of rfl rfl rfl rfl) fun _ _ _ _ h => h) (by exact qa_cons (by exact q_v 0) (by exact qa_cons q_int qa_nil)) bi__law_roll) q_int (nomark _)) qa_nil))))) (by exact qs_one (by exact qs_expr (by exact q_append (by exact q_v 2) (by exact q_ty call_tuple_of k_tup T.tuple (by decide +kernel) (by exact qa_cons (by exact q_sortedSet (mk := false) rfl T.sorted T.set (by exact q_v 5)) qa_nil)))))))) (by exact qs_one (by exact qs_ret (by exact q_ty call_tuple_of k_tup T.tuple (by decide +kernel) (by exact qa_cons (by exact q_v 2) qa_nil)))))

/-! ### _law_machine_due -/
abbrev st__law_machine_due : Stmt := topS 31
abbrev N__law_machine_due : List Str := ["text", "found", "parts", "at", "sign", "slots"]
theorem sc__law_machine_due : FnScope N__law_machine_due ["text"] (defScope st__law_machine_due) := ⟨rfl, rfl, rfl, by decide +kernel, rfl, by decide +kernel, by decide +kernel⟩
theorem bi__law_machine_due (kV doc pm : Value) (an : Option Addr) (cdv ct : Value) (us : List Value) (hl : us.length = 1) : bindArgs (PySem.W.fnOf "_law_machine_due" "_law_machine_due" (defArgs st__law_machine_due) (defBody st__law_machine_due) (defScope st__law_machine_due) .none kV doc pm an cdv ct) ⟨us, []⟩ = pure ((["text"] : List Str).zip us) :=
  match us, hl with | [_], _ => rfl
def lb__law_machine_due_0 : SF := sSeq (sIf (bOr (tst (e2 gEqA (e2 gIx (eV 2) (eV 3)) (eC (.str "")))) (bOr (tst (e2 gNeA (eLc false [4] (iAny (e2 gIx (eV 2) (eV 3))) (hName 4) (tst (e2 (gInA true) (eV 4) (eC (.str "01234567")))) (eV 4)) (eLst false aNil))) (tst (e2 gGt (eV 3) (eC (.int 5)))))) (sRet (eTup (aCons (eC (.str "bad")) (aCons (eV 3) aNil)))) sNx) (sSeq (sSet 5 (eLc false [4] (iAny (e2 gIx (eV 2) (eV 3))) (hName 4) bYes (eB (gIntA) (aCons (eV 4) aNil)))) (sSeq (sIf (tst (e2 gNeA (eV 5) (eSortedSet false (eV 5)))) (sRet (eTup (aCons (eC (.str "bad")) (aCons (eV 3) aNil)))) sNx) (sDrop (eAppend (eV 1) (eB (gTup) (aCons (eV 5) aNil))))))
def fb__law_machine_due : SF := sSeq (sPar 1 2 (aCons (eLst true aNil) (aCons (eM1 (gSplit false) (eV 0) (eC (.str " "))) aNil))) (sSeq (sFor (iRg none (eB (gLen) (aCons (eV 2) aNil))) (hName 3) lb__law_machine_due_0) (sRet (eTup (aCons (eC (.str "read")) (aCons (eB (gTup) (aCons (eV 1) aNil)) aNil)))))
def g__law_machine_due : GF := fun ss μ => if ss.length = 1 then fin μ.length (fb__law_machine_due (startS 6 ss) μ) else none
theorem ok__law_machine_due (T : Nm K mg W)  (h : St0 K mg "_law_machine_due" st__law_machine_due) : Cal P w K mg base W 1 "_law_machine_due" st__law_machine_due ["text"] g__law_machine_due := by
  obtain ⟨f, fd, hm, hF⟩ := h.ex
  refine ⟨f, fd, hm, hF, fn_keeps (N := N__law_machine_due) (fb := fb__law_machine_due) hF sc__law_machine_due (fun cdv A outer s H E hr => ?_) (fun ss μ r hl hg => by have hl : ss.length = 1 := hl; unfold g__law_machine_due at hg; rw [if_pos hl] at hg; exact hg)⟩
  have hu65 := hr.u65
  exact qs_cons (by exact qs_par (i := 1) (j := 2) rfl sc__law_machine_due.nd (by exact qa_cons (by exact q_lst (mk := true) qa_nil) (by exact qa_cons (by exact q_m1 PySem.F.slot_str_split PySem.F.type_str_split mt_split (m1_split (mk := false)) (by exact q_v 0) q_str) qa_nil))) (by exact qs_cons (by exact qs_for (passes_of rfl) rfl (by exact q_irg1 T.range (by exact q_bi c_len k_len T.len (by decide +kernel) (by exact qa_cons (by exact q_v 2) qa_nil))) (by exact q_tname sc__law_machine_due.nd (i := 3)) (by exact qs_cons (by exact qs_if (by exact PW.pt (by exact qw_or (by exact qt_cmp (OpR.or (op_eqD hr.units) op_eq) o2_eqA (by exact q_ix (by exact q_v 2) (by exact q_v 3)) q_str (nomark _)) (by exact qw_or (by exact qt_cmp (OpR.or (op_neD hr.units) op_ne) o2_neA (by exact q_lc (mk := false) (own := [("sign", 4)]) rfl sc__law_machine_due.nd (blkOk_by (own := [("sign", 4)]) (N := N__law_machine_due) (sc := defScope st__law_machine_due) (by decide +kernel)) (by exact q_iany (by exact q_ix (by exact q_v 2) (by exact q_v 3))) (fun _ _ _ _ _ => by exact q_tname sc__law_machine_due.nd (i := 4)) (fun _ _ _ _ _ => by exact qts_one (by exact qt_cmp (op_ninA hu65) (o2_inA (neg := true)) (by exact q_v 4) q_str (by rfl))) (fun _ _ _ _ _ => by exact q_v 4)) (by exact q_lst (mk := false) qa_nil) (nomark _)) (by exact qw_or1 (by exact qt_cmp op_gt o2_gt (by exact q_v 3) q_int (nomark _)))))) (by exact qs_one (by exact qs_ret (by exact q_tup (by exact qa_cons q_str (by exact qa_cons (by exact q_v 3) qa_nil))))) qs_nil) (by exact qs_cons (by exact qs_setLc (i := 5) (mk := false) (own := [("sign", 4)]) rfl sc__law_machine_due.nd (blkOk_by (own := [("sign", 4)]) (N := N__law_machine_due) (sc := defScope st__law_machine_due) (by decide +kernel)) (by exact q_iany (by exact q_ix (by exact q_v 2) (by exact q_v 3))) (fun _ _ _ _ _ => by exact q_tname sc__law_machine_due.nd (i := 4)) (fun _ _ _ _ _ => by exact qts_nil) (fun _ _ _ _ _ => by exact q_ty call_intA k_intA T.int (by decide +kernel) (by exact qa_cons (by exact q_v 4) qa_nil))) (by exact qs_cons (by exact qs_if (by exact qt_cmp (OpR.or (op_neD hr.units) op_ne) o2_neA (by exact q_v 5) (by exact q_sortedSet (mk := false) rfl T.sorted T.set (by exact q_v 5)) (nomark _)) (by exact qs_one (by exact qs_ret (by exact q_tup (by exact qa_cons q_str (by exact qa_cons (by exact q_v 3) qa_nil))))) qs_nil) (by exact qs_one (by exact qs_expr (by exact q_append (by exact q_v 1) (by exact q_ty call_tuple_of k_tup T.tuple (by decide +kernel) (by exact qa_cons (by exact q_v 5) qa_nil))))))))) (by exact qs_one (by exact qs_ret (by exact q_tup (by exact qa_cons q_str (by exact qa_cons (by exact q_ty call_tuple_of k_tup T.tuple (by decide +kernel) (by exact qa_cons (by exact q_v 1) qa_nil)) qa_nil))))))

/-! ### _law_reading_due -/
abbrev st__law_reading_due : Stmt := topS 32
abbrev N__law_reading_due : List Str := ["text", "found", "parts", "last", "at", "slot", "number", "sign"]
theorem sc__law_reading_due : FnScope N__law_reading_due ["text"] (defScope st__law_reading_due) := ⟨rfl, rfl, rfl, by decide +kernel, rfl, by decide +kernel, by decide +kernel⟩
theorem bi__law_reading_due (kV doc pm : Value) (an : Option Addr) (cdv ct : Value) (us : List Value) (hl : us.length = 1) : bindArgs (PySem.W.fnOf "_law_reading_due" "_law_reading_due" (defArgs st__law_reading_due) (defBody st__law_reading_due) (defScope st__law_reading_due) .none kV doc pm an cdv ct) ⟨us, []⟩ = pure ((["text"] : List Str).zip us) :=
  match us, hl with | [_], _ => rfl
def lb__law_reading_due_0 : SF := sSeq (sPar 5 6 (aCons (eCut false (e2 gIx (eV 2) (eV 4)) none (some (eC (.int 1)))) (aCons (eCut false (e2 gIx (eV 2) (eV 4)) (some (eC (.int 2))) none) aNil))) (sSeq (sIf (bOr (tst (e2 gNeA (eCut false (e2 gIx (eV 2) (eV 4)) (some (eC (.int 1))) (some (eC (.int 2)))) (eC (.str ":")))) (bOr (tst (e2 (gInA true) (eV 5) (eC (.str "01234567")))) (tst (e2 gLe (eB (gIntA) (aCons (eV 5) aNil)) (eV 3))))) (sRet (eTup (aCons (eC (.str "bad")) (aCons (eV 4) aNil)))) sNx) (sSeq (sIf (bOr (tst (e2 gEqA (eV 6) (eC (.str "")))) (bOr (tst (e2 gGt (eB (gLen) (aCons (eV 6) aNil)) (eC (.int 3)))) (bOr (tst (e2 gNeA (eLc false [7] (iAny (eV 6)) (hName 7) (tst (e2 (gInA true) (eV 7) (eC (.str "0123456789")))) (eV 7)) (eLst false aNil))) (bOr (tst (e2 gEqA (e2 gIx (eV 6) (eC (.int 0))) (eC (.str "0")))) (tst (e2 gGt (eB (gIntA) (aCons (eV 6) aNil)) (eC (.int 200)))))))) (sRet (eTup (aCons (eC (.str "bad")) (aCons (eV 4) aNil)))) sNx) (sSeq (sSet 3 (eB (gIntA) (aCons (eV 5) aNil))) (sSetItem (eB (gIntA) (aCons (eV 6) aNil)) (eV 1) (eV 3)))))
def fb__law_reading_due : SF := sSeq (sPar3 1 2 3 (aCons (e2 (gMulA true) (eLst false (aCons (eC (.int 0)) aNil)) (eC (.int 8))) (aCons (eM1 (gSplit false) (eV 0) (eC (.str " "))) (aCons (eNeg (eC (.int 1))) aNil)))) (sSeq (sIf (tst (e2 gEqA (eV 0) (eC (.str "-")))) (sRet (eTup (aCons (eC (.str "read")) (aCons (e2 (gMulA false) (eTup (aCons (eC (.int 0)) aNil)) (eC (.int 8))) aNil)))) sNx) (sSeq (sFor (iRg none (eB (gLen) (aCons (eV 2) aNil))) (hName 4) lb__law_reading_due_0) (sRet (eTup (aCons (eC (.str "read")) (aCons (eB (gTup) (aCons (eV 1) aNil)) aNil))))))
def g__law_reading_due : GF := fun ss μ => if ss.length = 1 then fin μ.length (fb__law_reading_due (startS 8 ss) μ) else none
theorem ok__law_reading_due (T : Nm K mg W)  (h : St0 K mg "_law_reading_due" st__law_reading_due) : Cal P w K mg base W 1 "_law_reading_due" st__law_reading_due ["text"] g__law_reading_due := by
  obtain ⟨f, fd, hm, hF⟩ := h.ex
  refine ⟨f, fd, hm, hF, fn_keeps (N := N__law_reading_due) (fb := fb__law_reading_due) hF sc__law_reading_due (fun cdv A outer s H E hr => ?_) (fun ss μ r hl hg => by have hl : ss.length = 1 := hl; unfold g__law_reading_due at hg; rw [if_pos hl] at hg; exact hg)⟩
  have hu65 := hr.u65
  exact qs_cons (by exact qs_par3 (i := 1) (j := 2) (l := 3) rfl sc__law_reading_due.nd (by exact qa_cons (by exact q_op op_mulT (o2_mulT (mk := true)) (by exact q_lst (mk := false) (by exact qa_cons q_int qa_nil)) q_int) (by exact qa_cons (by exact q_m1 PySem.F.slot_str_split PySem.F.type_str_split mt_split (m1_split (mk := false)) (by exact q_v 0) q_str) (by exact qa_cons (by exact q_neg q_int) qa_nil)))) (by exact qs_cons (by exact qs_if (by exact qt_cmp (OpR.or (op_eqD hr.units) op_eq) o2_eqA (by exact q_v 0) q_str (nomark _)) (by exact qs_one (by exact qs_ret (by exact q_tup (by exact qa_cons q_str (by exact qa_cons (by exact q_op op_mulT (o2_mulT (mk := false)) (by exact q_tup (by exact qa_cons q_int qa_nil)) q_int) qa_nil))))) qs_nil) (by exact qs_cons (by exact qs_for (passes_of rfl) rfl (by exact q_irg1 T.range (by exact q_bi c_len k_len T.len (by decide +kernel) (by exact qa_cons (by exact q_v 2) qa_nil))) (by exact q_tname sc__law_reading_due.nd (i := 4)) (by exact qs_cons (by exact qs_par (i := 5) (j := 6) rfl sc__law_reading_due.nd (by exact qa_cons (by exact q_cut (mk := false) (by exact q_ix (by exact q_v 2) (by exact q_v 4)) qp_none (by exact qp_some q_int)) (by exact qa_cons (by exact q_cut (mk := false) (by exact q_ix (by exact q_v 2) (by exact q_v 4)) (by exact qp_some q_int) qp_none) qa_nil))) (by exact qs_cons (by exact qs_if (by exact PW.pt (by exact qw_or (by exact qt_cmp (OpR.or (op_neD hr.units) op_ne) o2_neA (by exact q_cut (mk := false) (by exact q_ix (by exact q_v 2) (by exact q_v 4)) (by exact qp_some q_int) (by exact qp_some q_int)) q_str (nomark _)) (by exact qw_or (by exact qt_cmp (op_ninA hu65) (o2_inA (neg := true)) (by exact q_v 5) q_str (by rfl)) (by exact qw_or1 (by exact qt_cmp op_le o2_le (by exact q_ty call_intA k_intA T.int (by decide +kernel) (by exact qa_cons (by exact q_v 5) qa_nil)) (by exact q_v 3) (nomark _)))))) (by exact qs_one (by exact qs_ret (by exact q_tup (by exact qa_cons q_str (by exact qa_cons (by exact q_v 4) qa_nil))))) qs_nil) (by exact qs_cons (by exact qs_if (by exact PW.pt (by exact qw_or (by exact qt_cmp (OpR.or (op_eqD hr.units) op_eq) o2_eqA (by exact q_v 6) q_str (nomark _)) (by exact qw_or (by exact qt_cmp op_gt o2_gt (by exact q_bi c_len k_len T.len (by decide +kernel) (by exact qa_cons (by exact q_v 6) qa_nil)) q_int (nomark _)) (by exact qw_or (by exact qt_cmp (OpR.or (op_neD hr.units) op_ne) o2_neA (by exact q_lc (mk := false) (own := [("sign", 7)]) rfl sc__law_reading_due.nd (blkOk_by (own := [("sign", 7)]) (N := N__law_reading_due) (sc := defScope st__law_reading_due) (by decide +kernel)) (by exact q_iany (by exact q_v 6)) (fun _ _ _ _ _ => by exact q_tname sc__law_reading_due.nd (i := 7)) (fun _ _ _ _ _ => by exact qts_one (by exact qt_cmp (op_ninA hu65) (o2_inA (neg := true)) (by exact q_v 7) q_str (by rfl))) (fun _ _ _ _ _ => by exact q_v 7)) (by exact q_lst (mk := false) qa_nil) (nomark _)) (by exact qw_or (by exact qt_cmp (OpR.or (op_eqD hr.units) op_eq) o2_eqA (by exact q_ix (by exact q_v 6) q_int) q_str (nomark _)) (by exact qw_or1 (by exact qt_cmp op_gt o2_gt (by exact q_ty call_intA k_intA T.int (by decide +kernel) (by exact qa_cons (by exact q_v 6) qa_nil)) q_int (nomark _)))))))) (by exact qs_one (by exact qs_ret (by exact q_tup (by exact qa_cons q_str (by exact qa_cons (by exact q_v 4) qa_nil))))) qs_nil) (by exact qs_cons (by exact qs_set (i := 3) sc__law_reading_due.nd (by exact q_ty call_intA k_intA T.int (by decide +kernel) (by exact qa_cons (by exact q_v 5) qa_nil))) (by exact qs_one (by exact qs_setitem (by exact q_ty call_intA k_intA T.int (by decide +kernel) (by exact qa_cons (by exact q_v 6) qa_nil)) (by exact q_v 1) (by exact q_v 3)))))))) (by exact qs_one (by exact qs_ret (by exact q_tup (by exact qa_cons q_str (by exact qa_cons (by exact q_ty call_tuple_of k_tup T.tuple (by decide +kernel) (by exact qa_cons (by exact q_v 1) qa_nil)) qa_nil)))))))

/-! ### _law_bent -/
abbrev st__law_bent : Stmt := topS 33
abbrev N__law_bent : List Str := ["dice", "text", "at", "sign"]
theorem sc__law_bent : FnScope N__law_bent ["dice", "text"] (defScope st__law_bent) := ⟨rfl, rfl, rfl, by decide +kernel, rfl, by decide +kernel, by decide +kernel⟩
theorem bi__law_bent (kV doc pm : Value) (an : Option Addr) (cdv ct : Value) (us : List Value) (hl : us.length = 2) : bindArgs (PySem.W.fnOf "_law_bent" "_law_bent" (defArgs st__law_bent) (defBody st__law_bent) (defScope st__law_bent) .none kV doc pm an cdv ct) ⟨us, []⟩ = pure ((["dice", "text"] : List Str).zip us) :=
  match us, hl with | [_, _], _ => rfl
def fb__law_bent : SF := sSeq (sPar 2 3 (aCons (eCall 2 g__law_roll (aCons (eV 0) (aCons (e2 (gAdd false) (eB (gLen) (aCons (eV 1) aNil)) (eC (.int 1))) aNil))) (aCons (eCall 2 g__law_pick (aCons (eV 0) (aCons (eLst false (aCons (eC (.str "0")) (aCons (eC (.str "1")) (aCons (eC (.str "7")) (aCons (eC (.str "8")) (aCons (eC (.str "9")) (aCons (eC (.str " ")) (aCons (eC (.str ":")) (aCons (eC (.str "-")) (aCons (eC (.str "a")) (aCons (eC (.str "2:3")) (aCons (eC (.str "20")) aNil)))))))))))) aNil))) aNil))) (sRet (eCall 2 g__law_pick (aCons (eV 0) (aCons (eLst false (aCons (e2 (gAdd false) (e2 (gAdd false) (eCut false (eV 1) none (some (eV 2))) (eV 3)) (eCut false (eV 1) (some (eV 2)) none)) (aCons (e2 (gAdd false) (e2 (gAdd false) (eCut false (eV 1) none (some (eV 2))) (eV 3)) (eCut false (eV 1) (some (e2 (gAdd false) (eV 2) (eC (.int 1)))) none)) (aCons (e2 (gAdd false) (eCut false (eV 1) none (some (eV 2))) (eCut false (eV 1) (some (e2 (gAdd false) (eV 2) (eC (.int 1)))) none)) (aCons (eCut false (eV 1) none (some (eV 2))) (aCons (e2 (gAdd false) (e2 (gAdd false) (eV 1) (eC (.str " "))) (eV 1)) (aCons (eRev false (eV 1)) aNil))))))) aNil))))
def g__law_bent : GF := fun ss μ => if ss.length = 2 then fin μ.length (fb__law_bent (startS 4 ss) μ) else none
theorem ok__law_bent (T : Nm K mg W) (C__law_roll : Cal P w K mg base W 1 "_law_roll" st__law_roll ["dice", "total"] g__law_roll) (C__law_pick : Cal P w K mg base W 2 "_law_pick" st__law_pick ["dice", "things"] g__law_pick) (h : St0 K mg "_law_bent" st__law_bent) : Cal P w K mg base W 3 "_law_bent" st__law_bent ["dice", "text"] g__law_bent := by
  obtain ⟨f, fd, hm, hF⟩ := h.ex
  refine ⟨f, fd, hm, hF, fn_keeps (N := N__law_bent) (fb := fb__law_bent) hF sc__law_bent (fun cdv A outer s H E hr => ?_) (fun ss μ r hl hg => by have hl : ss.length = 2 := hl; unfold g__law_bent at hg; rw [if_pos hl] at hg; exact hg)⟩
  have hu65 := hr.u65
  exact qs_cons (by exact qs_par (i := 2) (j := 3) rfl sc__law_bent.nd (by exact qa_cons (by exact q_call (ps := ["dice", "total"]) C__law_roll (hr.mono (by decide)) (passes_call (takes_of rfl rfl rfl rfl) fun _ _ _ _ h => h) (by exact qa_cons (by exact q_v 0) (by exact qa_cons (by exact q_op op_addAll (o2_add (mk := false)) (by exact q_bi c_len k_len T.len (by decide +kernel) (by exact qa_cons (by exact q_v 1) qa_nil)) q_int) qa_nil)) bi__law_roll) (by exact qa_cons (by exact q_call (ps := ["dice", "things"]) C__law_pick (hr.mono (by decide)) (passes_call (takes_of rfl rfl rfl rfl) fun _ _ _ _ h => h) (by exact qa_cons (by exact q_v 0) (by exact qa_cons (by exact q_lst (mk := false) (by exact qa_cons q_str (by exact qa_cons q_str (by exact qa_cons q_str (by exact qa_cons q_str (by exact qa_cons q_str (by exact qa_cons q_str (by exact qa_cons q_str (by exact qa_cons q_str (by exact qa_cons q_str (by exact qa_cons q_str (by exact qa_cons q_str qa_nil)))))))))))) qa_nil)) bi__law_pick) qa_nil))) (by exact qs_one (by exact qs_ret (by exact q_call (ps := ["dice", "things"]) C__law_pick (hr.mono (by decide)) (passes_call (takes_of rfl rfl rfl rfl) fun _ _ _ _ h => h) (by exact qa_cons (by exact q_v 0) (by exact qa_cons (by exact q_lst (mk := false) (by exact qa_cons (by exact q_op op_addAll (o2_add (mk := false)) (by exact q_op op_addAll (o2_add (mk := false)) (by exact q_cut (mk := false) (by exact q_v 1) qp_none (by exact qp_some (by exact q_v 2))) (by exact q_v 3)) (by exact q_cut (mk := false) (by exact q_v 1) (by exact qp_some (by exact q_v 2)) qp_none)) (by exact qa_cons (by exact q_op op_addAll (o2_add (mk := false)) (by exact q_op op_addAll (o2_add (mk := false)) (by exact q_cut (mk := false) (by exact q_v 1) qp_none (by exact qp_some (by exact q_v 2))) (by exact q_v 3)) (by exact q_cut (mk := false) (by exact q_v 1) (by exact qp_some (by exact q_op op_addAll (o2_add (mk := false)) (by exact q_v 2) q_int)) qp_none)) (by exact qa_cons (by exact q_op op_addAll (o2_add (mk := false)) (by exact q_cut (mk := false) (by exact q_v 1) qp_none (by exact qp_some (by exact q_v 2))) (by exact q_cut (mk := false) (by exact q_v 1) (by exact qp_some (by exact q_op op_addAll (o2_add (mk := false)) (by exact q_v 2) q_int)) qp_none)) (by exact qa_cons (by exact q_cut (mk := false) (by exact q_v 1) qp_none (by exact qp_some (by exact q_v 2))) (by exact qa_cons (by exact q_op op_addAll (o2_add (mk := false)) (by exact q_op op_addAll (o2_add (mk := false)) (by exact q_v 1) q_str) (by exact q_v 1)) (by exact qa_cons (by exact q_rev (mk := false) (by exact q_v 1)) qa_nil))))))) qa_nil)) bi__law_pick)))

abbrev pm_write_machine_0_machine {α : Type} : List α → List α → List α := pmF 0 1 [(true, 0)]
theorem pm_write_machine_0_machine_b (kV doc pm : Value) (an : Option Addr) (cdv ct : Value) (us ws : List Value) (hl : (pm_write_machine_0_machine us ws).length = 1) : bindArgs (PySem.W.fnOf "write_machine" "write_machine" (defArgs st_write_machine) (defBody st_write_machine) (defScope st_write_machine) .none kV doc pm an cdv ct) ⟨us, (["machine"] : List Str).zip ws⟩ = pure ((["machine"] : List Str).zip (pm_write_machine_0_machine us ws)) :=
  match us, ws, pmF_some (show (pm_write_machine_0_machine us ws).length ≠ 0 by rw [hl]; decide) with | [], [_], _ => rfl
abbrev pm_read_reading_0_text {α : Type} : List α → List α → List α := pmF 0 1 [(true, 0)]
theorem pm_read_reading_0_text_b (kV doc pm : Value) (an : Option Addr) (cdv ct : Value) (us ws : List Value) (hl : (pm_read_reading_0_text us ws).length = 1) : bindArgs (PySem.W.fnOf "read_reading" "read_reading" (defArgs st_read_reading) (defBody st_read_reading) (defScope st_read_reading) .none kV doc pm an cdv ct) ⟨us, (["text"] : List Str).zip ws⟩ = pure ((["text"] : List Str).zip (pm_read_reading_0_text us ws)) :=
  match us, ws, pmF_some (show (pm_read_reading_0_text us ws).length ≠ 0 by rw [hl]; decide) with | [], [_], _ => rfl
abbrev pm_read_machine_0_text {α : Type} : List α → List α → List α := pmF 0 1 [(true, 0)]
theorem pm_read_machine_0_text_b (kV doc pm : Value) (an : Option Addr) (cdv ct : Value) (us ws : List Value) (hl : (pm_read_machine_0_text us ws).length = 1) : bindArgs (PySem.W.fnOf "read_machine" "read_machine" (defArgs st_read_machine) (defBody st_read_machine) (defScope st_read_machine) .none kV doc pm an cdv ct) ⟨us, (["text"] : List Str).zip ws⟩ = pure ((["text"] : List Str).zip (pm_read_machine_0_text us ws)) :=
  match us, ws, pmF_some (show (pm_read_machine_0_text us ws).length ≠ 0 by rw [hl]; decide) with | [], [_], _ => rfl
abbrev pm_write_reading_0_reading {α : Type} : List α → List α → List α := pmF 0 1 [(true, 0)]
theorem pm_write_reading_0_reading_b (kV doc pm : Value) (an : Option Addr) (cdv ct : Value) (us ws : List Value) (hl : (pm_write_reading_0_reading us ws).length = 1) : bindArgs (PySem.W.fnOf "write_reading" "write_reading" (defArgs st_write_reading) (defBody st_write_reading) (defScope st_write_reading) .none kV doc pm an cdv ct) ⟨us, (["reading"] : List Str).zip ws⟩ = pure ((["reading"] : List Str).zip (pm_write_reading_0_reading us ws)) :=
  match us, ws, pmF_some (show (pm_write_reading_0_reading us ws).length ≠ 0 by rw [hl]; decide) with | [], [_], _ => rfl
/-! ### _law_right -/
abbrev st__law_right : Stmt := topS 34
abbrev N__law_right : List Str := ["dice", "machine", "reading", "slot", "one", "two", "some", "slots", "turn", "near", "other", "bad", "odd", "told"]
theorem sc__law_right : FnScope N__law_right ["dice"] (defScope st__law_right) := ⟨rfl, rfl, rfl, by decide +kernel, rfl, by decide +kernel, by decide +kernel⟩
theorem bi__law_right (kV doc pm : Value) (an : Option Addr) (cdv ct : Value) (us : List Value) (hl : us.length = 1) : bindArgs (PySem.W.fnOf "_law_right" "_law_right" (defArgs st__law_right) (defBody st__law_right) (defScope st__law_right) .none kV doc pm an cdv ct) ⟨us, []⟩ = pure ((["dice"] : List Str).zip us) :=
  match us, hl with | [_], _ => rfl
def lb__law_right_0 : SF := sSeq (sAsg (hTup 2 (hsCons (hName 9) (hsCons (hName 10) hsNil))) (eTup (aCons (eCall 2 g__law_bent (aCons (eV 0) (aCons (eV 4) aNil))) (aCons (eCall 2 g__law_bent (aCons (eV 0) (aCons (eV 5) aNil))) aNil)))) (sSeq (sIf (tst (e2 gNeA (eB (gRepr) (aCons (eMet (eCall 1 g_read_machine (aCons (eV 9) aNil))) aNil)) (eB (gRepr) (aCons (eCall 1 g__law_machine_due (aCons (eV 9) aNil)) aNil)))) (sRet (eC (.bl false))) sNx) (sIf (tst (e2 gNeA (eB (gRepr) (aCons (eMet (eCall 1 g_read_reading (aCons (eV 10) aNil))) aNil)) (eB (gRepr) (aCons (eCall 1 g__law_reading_due (aCons (eV 10) aNil)) aNil)))) (sRet (eC (.bl false))) sNx))
def fb__law_right : SF := sSeq (sSet 1 (eCall 2 g__law_b_machine (aCons (eV 0) (aCons (e2 (gAdd false) (eC (.int 1)) (eCall 2 g__law_roll (aCons (eV 0) (aCons (eC (.int 6)) aNil)))) aNil)))) (sSeq (sSet 2 (eB (gTup) (aCons (eLc false [3] (iRg none (eC (.int 8))) (hName 3) bYes (eCall 2 g__law_pick (aCons (eV 0) (aCons (eLst false (aCons (eC (.int 0)) (aCons (eC (.int 0)) (aCons (eC (.int 1)) (aCons (eC (.int 200)) (aCons (eCall 2 g__law_roll (aCons (eV 0) (aCons (eC (.int 201)) aNil))) aNil)))))) aNil)))) aNil))) (sSeq (sPar 4 5 (aCons (eCallK0 1 g_write_machine pm_write_machine_0_machine (aCons (eV 1) aNil)) (aCons (eCall 1 g_write_reading (aCons (eV 2) aNil)) aNil))) (sSeq (sSet 6 (eM1 gJoin (eC (.str " ")) (eLc false [3] (iRg none (eC (.int 8))) (hName 3) (tst (e2 gGt (e2 gIx (eV 2) (eV 3)) (eC (.int 0)))) (e2 (gAdd false) (e2 (gAdd false) (eB (gStr) (aCons (eV 3) aNil)) (eC (.str ":"))) (eB (gStr) (aCons (e2 gIx (eV 2) (eV 3)) aNil)))))) (sSeq (sIf (bOr (tst (e2 gNeA (eV 4) (eM1 gJoin (eC (.str " ")) (eLc false [7] (iAny (eV 1)) (hName 7) bYes (eM1 gJoin (eC (.str "")) (eLc false [3] (iAny (eV 7)) (hName 3) bYes (eB (gStr) (aCons (eV 3) aNil)))))))) (tst (e2 gNeA (eV 5) (eIf (tst (e2 gNeA (eV 6) (eC (.str "")))) (eV 6) (eC (.str "-")))))) (sRet (eC (.bl false))) sNx) (sSeq (sIf (bOr (tst (e2 gNeA (eCall 1 g_read_machine (aCons (eV 4) aNil)) (eV 1))) (bOr (tst (e2 gNeA (eCallK0 1 g_read_reading pm_read_reading_0_text (aCons (eV 5) aNil)) (eV 2))) (bOr (tst (e2 gNeA (eCallK0 1 g_read_machine pm_read_machine_0_text (aCons (eV 4) aNil)) (eV 1))) (tst (e2 gNeA (eCallK0 1 g_write_reading pm_write_reading_0_reading (aCons (eV 2) aNil)) (eV 5)))))) (sRet (eC (.bl false))) sNx) (sSeq (sFor (iRg none (eC (.int 10))) (hName 8) lb__law_right_0) (sSeq (sAsg (hTup 2 (hsCons (hName 11) (hsCons (hName 12) hsNil))) (eTup (aCons (eCall 2 g__law_pick (aCons (eV 0) (aCons (eLst false (aCons (eC .non) (aCons (eC (.int 5)) (aCons (eTup aNil) (aCons (eLst false (aCons (eC (.str "0")) aNil)) (aCons (eC (.bl true)) (aCons (e2 (gMulA false) (eC (.str "0")) (eC (.int 1001))) aNil))))))) aNil))) (aCons (eCall 2 g__law_pick (aCons (eV 0) (aCons (eLst false (aCons (eC .non) (aCons (eTup aNil) (aCons (eLst false (aCons (eTup (aCons (eC (.int 0)) aNil)) aNil)) (aCons (eTup (aCons (eTup (aCons (eC (.int 8)) aNil)) aNil)) (aCons (e2 (gMulA false) (eTup (aCons (eC (.int 0)) aNil)) (eC (.int 7))) (aCons (e2 (gMulA false) (eTup (aCons (eC (.int 201)) aNil)) (eC (.int 8))) (aCons (e2 (gMulA false) (eTup (aCons (eTup (aCons (eC (.int 0)) aNil)) aNil)) (eC (.int 7))) aNil)))))))) aNil))) aNil)))) (sSeq (sSet 13 (eLst false (aCons (eMet (eCall 1 g_read_machine (aCons (eV 11) aNil))) (aCons (eMet (eCall 1 g_read_reading (aCons (eV 11) aNil))) aNil)))) (sRet (eAnd (e2 gEqA (eV 13) (e2 (gMulA false) (eLst false (aCons (eTup (aCons (eC (.str "bad")) (aCons (eNeg (eC (.int 1))) aNil))) aNil)) (eC (.int 2)))) (e2 gEqA (eLst false (aCons (eRefused (eCall 1 g_write_machine (aCons (eV 12) aNil))) (aCons (eRefused (eCall 1 g_write_reading (aCons (eV 12) aNil))) aNil))) (eLst false (aCons (eC (.str "machine")) (aCons (eC (.str "reading")) aNil))))))))))))))
def g__law_right : GF := fun ss μ => if ss.length = 1 then fin μ.length (fb__law_right (startS 14 ss) μ) else none
theorem ok__law_right (T : Nm K mg W) {fA : Addr} (TA : ErrTxt P K mg "BadArgument" "name" W.CA fA) {fT : Addr} (TT : ErrTxt P K mg "BadText" "place" W.CT fT) (R_law_met : St0 K mg "_law_met" (topS 30)) (R_law_refused : St0 K mg "_law_refused" (topS 28)) {c PT : Addr} (LT : LamT base mg W "_law_right" c PT) (C_write_machine : Cal P w K mg base W 5 "write_machine" st_write_machine ["machine"] g_write_machine) (C_read_machine : Cal P w K mg base W 4 "read_machine" st_read_machine ["text"] g_read_machine) (C_write_reading : Cal P w K mg base W 4 "write_reading" st_write_reading ["reading"] g_write_reading) (C_read_reading : Cal P w K mg base W 2 "read_reading" st_read_reading ["text"] g_read_reading) (C__law_roll : Cal P w K mg base W 1 "_law_roll" st__law_roll ["dice", "total"] g__law_roll) (C__law_pick : Cal P w K mg base W 2 "_law_pick" st__law_pick ["dice", "things"] g__law_pick) (C__law_b_machine : Cal P w K mg base W 2 "_law_b_machine" st__law_b_machine ["dice", "kinds"] g__law_b_machine) (C__law_machine_due : Cal P w K mg base W 1 "_law_machine_due" st__law_machine_due ["text"] g__law_machine_due) (C__law_reading_due : Cal P w K mg base W 1 "_law_reading_due" st__law_reading_due ["text"] g__law_reading_due) (C__law_bent : Cal P w K mg base W 3 "_law_bent" st__law_bent ["dice", "text"] g__law_bent) (h : St0C K mg "_law_right" st__law_right c) : CalG P w K mg base W 9 "_law_right" st__law_right ["dice"] g__law_right := by
  obtain ⟨f, fd, hm, hF, hcc⟩ := h.ex
  refine ⟨f, fd, hm, hF, fn_keepsCG (N := N__law_right) (fb := fb__law_right) hF hcc sc__law_right (fun A outer s H E hgd hr => ?_) (fun ss μ r hl hg => by have hl : ss.length = 1 := hl; unfold g__law_right at hg; rw [if_pos hl] at hg; exact hg)⟩
  have hu65 := hr.u65
  exact qs_cons (by exact qs_set (i := 1) sc__law_right.nd (by exact q_call (ps := ["dice", "kinds"]) C__law_b_machine (hr.mono (by decide)) (passes_call (takes_of rfl rfl rfl rfl) fun _ _ _ _ h => h) (by exact qa_cons (by exact q_v 0) (by exact qa_cons (by exact q_op op_addAll (o2_add (mk := false)) q_int (by exact q_call (ps := ["dice", "total"]) C__law_roll (hr.mono (by decide)) (passes_call (takes_of rfl rfl rfl rfl) fun _ _ _ _ h => h) (by exact qa_cons (by exact q_v 0) (by exact qa_cons q_int qa_nil)) bi__law_roll)) qa_nil)) bi__law_b_machine)) (by exact qs_cons (by exact qs_set (i := 2) sc__law_right.nd (by exact q_ty call_tuple_of k_tup T.tuple (by decide +kernel) (by exact qa_cons (by exact q_lc (mk := false) (own := [("slot", 3)]) rfl sc__law_right.nd (blkOk_by (own := [("slot", 3)]) (N := N__law_right) (sc := defScope st__law_right) (by decide +kernel)) (by exact q_irg1 T.range q_int) (fun _ _ _ _ _ => by exact q_tname sc__law_right.nd (i := 3)) (fun _ _ _ _ _ => by exact qts_nil) (fun _ _ _ _ _ => by exact q_call (ps := ["dice", "things"]) C__law_pick (hr.mono (by decide)) passL (by exact qa_cons (by exact q_v 0) (by exact qa_cons (by exact q_lst (mk := false) (by exact qa_cons q_int (by exact qa_cons q_int (by exact qa_cons q_int (by exact qa_cons q_int (by exact qa_cons (by exact q_call (ps := ["dice", "total"]) C__law_roll (hr.mono (by decide)) passL (by exact qa_cons (by exact q_v 0) (by exact qa_cons q_int qa_nil)) bi__law_roll) qa_nil)))))) qa_nil)) bi__law_pick)) qa_nil))) (by exact qs_cons (by exact qs_par (i := 4) (j := 5) rfl sc__law_right.nd (by exact qa_cons (by exact q_callK0 (ps := ["machine"]) (ks := ["machine"]) (perm := fun {α} => pm_write_machine_0_machine) C_write_machine (hr.mono (by decide)) (passes_call (takes_of rfl rfl rfl rfl) fun _ _ _ _ h => h) (by exact qk_cons (by exact q_v 1) qk_nil) (pm_write_machine_0_machine_b) (fun h1 h2 => pmF_vals h1 h2) (fun h1 h2 => pmF_den h1 h2)) (by exact qa_cons (by exact q_call (ps := ["reading"]) C_write_reading (hr.mono (by decide)) (passes_call (takes_of rfl rfl rfl rfl) fun _ _ _ _ h => h) (by exact qa_cons (by exact q_v 2) qa_nil) bi_write_reading) qa_nil))) (by exact qs_cons (by exact qs_set (i := 6) sc__law_right.nd (by exact q_m1 PySem.F.slot_str_join PySem.F.type_str_join mt_join m1_join q_str (by exact q_lc (mk := false) (own := [("slot", 3)]) rfl sc__law_right.nd (blkOk_by (own := [("slot", 3)]) (N := N__law_right) (sc := defScope st__law_right) (by decide +kernel)) (by exact q_irg1 T.range q_int) (fun _ _ _ _ _ => by exact q_tname sc__law_right.nd (i := 3)) (fun _ _ _ _ _ => by exact qts_one (by exact qt_cmp op_gt o2_gt (by exact q_ix (by exact q_v 2) (by exact q_v 3)) q_int (nomark _))) (fun _ _ _ _ _ => by exact q_op op_addAll (o2_add (mk := false)) (by exact q_op op_addAll (o2_add (mk := false)) (by exact q_ty call_str_int k_strI T.str (by decide +kernel) (by exact qa_cons (by exact q_v 3) qa_nil)) q_str) (by exact q_ty call_str_int k_strI T.str (by decide +kernel) (by exact qa_cons (by exact q_ix (by exact q_v 2) (by exact q_v 3)) qa_nil)))))) (by exact qs_cons (by exact qs_if (by exact PW.pt (by exact qw_or (by exact qt_cmp (OpR.or (op_neD hr.units) op_ne) o2_neA (by exact q_v 4) (by exact q_m1 PySem.F.slot_str_join PySem.F.type_str_join mt_join m1_join q_str (by exact q_lc (mk := false) (own := [("slots", 7)]) rfl sc__law_right.nd (blkOk_by (own := [("slots", 7)]) (N := N__law_right) (sc := defScope st__law_right) (by decide +kernel)) (by exact q_iany (by exact q_v 1)) (fun _ _ _ _ _ => by exact q_tname sc__law_right.nd (i := 7)) (fun _ _ _ _ _ => by exact qts_nil) (fun _ _ _ _ _ => by exact q_m1 PySem.F.slot_str_join PySem.F.type_str_join mt_join m1_join q_str (by exact q_lc (mk := false) (own := [("slot", 3)]) rfl sc__law_right.nd (blkOk_by (own := [("slot", 3)]) (N := N__law_right) (by rfl)) (by exact q_iany (by exact q_v 7)) (fun _ _ _ _ _ => by exact q_tname sc__law_right.nd (i := 3)) (fun _ _ _ _ _ => by exact qts_nil) (fun _ _ _ _ _ => by exact q_ty call_str_int k_strI T.str (by decide +kernel) (by exact qa_cons (by exact q_v 3) qa_nil)))))) (nomark _)) (by exact qw_or1 (by exact qt_cmp (OpR.or (op_neD hr.units) op_ne) o2_neA (by exact q_v 5) (by exact q_if (by exact qt_cmp (OpR.or (op_neD hr.units) op_ne) o2_neA (by exact q_v 6) q_str (nomark _)) (by exact q_v 6) q_str) (nomark _))))) (by exact qs_one (by exact qs_ret q_bl)) qs_nil) (by exact qs_cons (by exact qs_if (by exact PW.pt (by exact qw_or (by exact qt_cmp (OpR.or (op_neD hr.units) op_ne) o2_neA (by exact q_call (ps := ["text"]) C_read_machine (hr.mono (by decide)) (passes_call (takes_of rfl rfl rfl rfl) fun _ _ _ _ h => h) (by exact qa_cons (by exact q_v 4) qa_nil) bi_read_machine) (by exact q_v 1) (nomark _)) (by exact qw_or (by exact qt_cmp (OpR.or (op_neD hr.units) op_ne) o2_neA (by exact q_callK0 (ps := ["text"]) (ks := ["text"]) (perm := fun {α} => pm_read_reading_0_text) C_read_reading (hr.mono (by decide)) (passes_call (takes_of rfl rfl rfl rfl) fun _ _ _ _ h => h) (by exact qk_cons (by exact q_v 5) qk_nil) (pm_read_reading_0_text_b) (fun h1 h2 => pmF_vals h1 h2) (fun h1 h2 => pmF_den h1 h2)) (by exact q_v 2) (nomark _)) (by exact qw_or (by exact qt_cmp (OpR.or (op_neD hr.units) op_ne) o2_neA (by exact q_callK0 (ps := ["text"]) (ks := ["text"]) (perm := fun {α} => pm_read_machine_0_text) C_read_machine (hr.mono (by decide)) (passes_call (takes_of rfl rfl rfl rfl) fun _ _ _ _ h => h) (by exact qk_cons (by exact q_v 4) qk_nil) (pm_read_machine_0_text_b) (fun h1 h2 => pmF_vals h1 h2) (fun h1 h2 => pmF_den h1 h2)) (by exact q_v 1) (nomark _)) (by exact qw_or1 (by exact qt_cmp (OpR.or (op_neD hr.units) op_ne) o2_neA (by exact q_callK0 (ps := ["reading"]) (ks := ["reading"]) (perm := fun {α} => pm_write_reading_0_reading) C_write_reading (hr.mono (by decide)) (passes_call (takes_of rfl rfl rfl rfl) fun _ _ _ _ h => h) (by exact qk_cons (by exact q_v 2) qk_nil) (pm_write_reading_0_reading_b) (fun h1 h2 => pmF_vals h1 h2) (fun h1 h2 => pmF_den h1 h2)) (by exact q_v 5) (nomark _))))))) (by exact qs_one (by exact qs_ret q_bl)) qs_nil) (by exact qs_cons (by exact qs_for (passes_of rfl) rfl (by exact q_irg1 T.range q_int) (by exact q_tname sc__law_right.nd (i := 8)) (by exact qs_cons (by exact qs_asg (by exact q_tup (by exact qa_cons (by exact q_call (ps := ["dice", "text"]) C__law_bent (hr.mono (by decide)) (passes_call (takes_of rfl rfl rfl rfl) fun _ _ _ _ h => h) (by exact qa_cons (by exact q_v 0) (by exact qa_cons (by exact q_v 4) qa_nil)) bi__law_bent) (by exact qa_cons (by exact q_call (ps := ["dice", "text"]) C__law_bent (hr.mono (by decide)) (passes_call (takes_of rfl rfl rfl rfl) fun _ _ _ _ h => h) (by exact qa_cons (by exact q_v 0) (by exact qa_cons (by exact q_v 5) qa_nil)) bi__law_bent) qa_nil))) (by exact q_ttup rfl (by exact q_tcons (by exact q_tname sc__law_right.nd (i := 9)) (by exact q_tcons (by exact q_tname sc__law_right.nd (i := 10)) q_tnil)) (n := 2))) (by exact qs_cons (by exact qs_if (by exact qt_cmp (OpR.or (op_neD hr.units) op_ne) o2_neA (by exact q_bi (call_reprD hgd hr.u65) k_repr T.repr (by decide +kernel) (by exact qa_cons (by exact q_met (k := 4) TT R_law_met LT rfl rfl (hr.mono (by decide)) (fun _ _ _ _ _ _ _ hr => by exact q_call (ps := ["text"]) C_read_machine (hr.mono (by decide)) (passes_call (takes_of rfl rfl rfl rfl) fun _ _ _ _ h => h) (by exact qa_cons (by exact q_v 9) qa_nil) bi_read_machine)) qa_nil)) (by exact q_bi (call_reprD hgd hr.u65) k_repr T.repr (by decide +kernel) (by exact qa_cons (by exact q_call (ps := ["text"]) C__law_machine_due (hr.mono (by decide)) (passes_call (takes_of rfl rfl rfl rfl) fun _ _ _ _ h => h) (by exact qa_cons (by exact q_v 9) qa_nil) bi__law_machine_due) qa_nil)) (nomark _)) (by exact qs_one (by exact qs_ret q_bl)) qs_nil) (by exact qs_one (by exact qs_if (by exact qt_cmp (OpR.or (op_neD hr.units) op_ne) o2_neA (by exact q_bi (call_reprD hgd hr.u65) k_repr T.repr (by decide +kernel) (by exact qa_cons (by exact q_met (k := 2) TT R_law_met LT rfl rfl (hr.mono (by decide)) (fun _ _ _ _ _ _ _ hr => by exact q_call (ps := ["text"]) C_read_reading (hr.mono (by decide)) (passes_call (takes_of rfl rfl rfl rfl) fun _ _ _ _ h => h) (by exact qa_cons (by exact q_v 10) qa_nil) bi_read_reading)) qa_nil)) (by exact q_bi (call_reprD hgd hr.u65) k_repr T.repr (by decide +kernel) (by exact qa_cons (by exact q_call (ps := ["text"]) C__law_reading_due (hr.mono (by decide)) (passes_call (takes_of rfl rfl rfl rfl) fun _ _ _ _ h => h) (by exact qa_cons (by exact q_v 10) qa_nil) bi__law_reading_due) qa_nil)) (nomark _)) (by exact qs_one (by exact qs_ret q_bl)) qs_nil))))) (by exact qs_cons (by exact qs_asg (by exact q_tup (by exact qa_cons (by exact q_call (ps := ["dice", "things"]) C__law_pick (hr.mono (by decide)) (passes_call (takes_of rfl rfl rfl rfl) fun _ _ _ _ h => h) (by exact qa_cons (by exact q_v 0) (by exact qa_cons (by exact q_lst (mk := false) (by exact qa_cons q_non (by exact qa_cons q_int (by exact qa_cons (by exact q_tup qa_nil) (by exact qa_cons (by exact q_lst (mk := false) (by exact qa_cons q_str qa_nil)) (by exact qa_cons q_bl (by exact qa_cons (by exact q_op op_mulT (o2_mulT (mk := false)) q_str q_int) qa_nil))))))) qa_nil)) bi__law_pick) (by exact qa_cons (by exact q_call (ps := ["dice", "things"]) C__law_pick (hr.mono (by decide)) (passes_call (takes_of rfl rfl rfl rfl) fun _ _ _ _ h => h) (by exact qa_cons (by exact q_v 0) (by exact qa_cons (by exact q_lst (mk := false) (by exact qa_cons q_non (by exact qa_cons (by exact q_tup qa_nil) (by exact qa_cons (by exact q_lst (mk := false) (by exact qa_cons (by exact q_tup (by exact qa_cons q_int qa_nil)) qa_nil)) (by exact qa_cons (by exact q_tup (by exact qa_cons (by exact q_tup (by exact qa_cons q_int qa_nil)) qa_nil)) (by exact qa_cons (by exact q_op op_mulT (o2_mulT (mk := false)) (by exact q_tup (by exact qa_cons q_int qa_nil)) q_int) (by exact qa_cons (by exact q_op op_mulT (o2_mulT (mk := false)) (by exact q_tup (by exact qa_cons q_int qa_nil)) q_int) (by exact qa_cons (by exact q_op op_mulT (o2_mulT (mk := false)) (by exact q_tup (by exact qa_cons (by exact q_tup (by exact qa_cons q_int qa_nil)) qa_nil)) q_int) qa_nil)))))))) qa_nil)) bi__law_pick) qa_nil))) (by exact q_ttup rfl (by exact q_tcons (by exact q_tname sc__law_right.nd (i := 11)) (by exact q_tcons (by exact q_tname sc__law_right.nd (i := 12)) q_tnil)) (n := 2))) (by exact qs_cons (by exact qs_set (i := 13) sc__law_right.nd (by exact q_lst (mk := false) (by exact qa_cons (by exact q_met (k := 4) TT R_law_met LT rfl rfl (hr.mono (by decide)) (fun _ _ _ _ _ _ _ hr => by exact q_call (ps := ["text"]) C_read_machine (hr.mono (by decide)) (passes_call (takes_of rfl rfl rfl rfl) fun _ _ _ _ h => h) (by exact qa_cons (by exact q_v 11) qa_nil) bi_read_machine)) (by exact qa_cons (by exact q_met (k := 2) TT R_law_met LT rfl rfl (hr.mono (by decide)) (fun _ _ _ _ _ _ _ hr => by exact q_call (ps := ["text"]) C_read_reading (hr.mono (by decide)) (passes_call (takes_of rfl rfl rfl rfl) fun _ _ _ _ h => h) (by exact qa_cons (by exact q_v 11) qa_nil) bi_read_reading)) qa_nil)))) (by exact qs_one (by exact qs_ret (by exact q_and (by exact q_cmp (OpR.or (op_eqD hr.units) op_eq) o2_eqA (by exact q_v 13) (by exact q_op op_mulT (o2_mulT (mk := false)) (by exact q_lst (mk := false) (by exact qa_cons (by exact q_tup (by exact qa_cons q_str (by exact qa_cons (by exact q_neg q_int) qa_nil))) qa_nil)) q_int) (nomark _)) (by exact q_one (by exact q_cmp (OpR.or (op_eqD hr.units) op_eq) o2_eqA (by exact q_lst (mk := false) (by exact qa_cons (by exact q_refused (k := 5) TA R_law_refused LT rfl rfl (hr.mono (by decide)) (fun _ _ _ _ _ _ _ hr => by exact q_call (ps := ["machine"]) C_write_machine (hr.mono (by decide)) (passes_call (takes_of rfl rfl rfl rfl) fun _ _ _ _ h => h) (by exact qa_cons (by exact q_v 12) qa_nil) bi_write_machine)) (by exact qa_cons (by exact q_refused (k := 4) TA R_law_refused LT rfl rfl (hr.mono (by decide)) (fun _ _ _ _ _ _ _ hr => by exact q_call (ps := ["reading"]) C_write_reading (hr.mono (by decide)) (passes_call (takes_of rfl rfl rfl rfl) fun _ _ _ _ h => h) (by exact qa_cons (by exact q_v 12) qa_nil) bi_write_reading)) qa_nil))) (by exact q_lst (mk := false) (by exact qa_cons q_str (by exact qa_cons q_str qa_nil))) (nomark _))))))))))))))

/-! ### law -/
abbrev st_law : Stmt := topS 35
abbrev N_law : List Str := ["script", "spot"]
theorem sc_law : FnScope N_law ["script"] (defScope st_law) := ⟨rfl, rfl, rfl, by decide +kernel, rfl, by decide +kernel, by decide +kernel⟩
theorem bi_law (kV doc pm : Value) (an : Option Addr) (cdv ct : Value) (us : List Value) (hl : us.length = 1) : bindArgs (PySem.W.fnOf "law" "law" (defArgs st_law) (defBody st_law) (defScope st_law) .none kV doc pm an cdv ct) ⟨us, []⟩ = pure ((["script"] : List Str).zip us) :=
  match us, hl with | [_], _ => rfl
def lb_law_0 : SF := sIf (bNot (tst (eCall 1 g__law_right (aCons (eCall 2 g__law_dice (aCons (eV 0) (aCons (eV 1) aNil))) aNil)))) (sRet (eC (.bl false))) sNx
def fb_law : SF := sSeq (sFor (iRg none (eB (gMax) (aCons (eC (.int 1)) (aCons (eB (gMin) (aCons (eC (.int 6)) (aCons (eB (gLen) (aCons (eV 0) aNil)) aNil))) aNil)))) (hName 1) lb_law_0) (sRet (eAnd (e2 gEqA (eMet (eCall 1 g_read_machine (aCons (eC (.str "")) aNil))) (eTup (aCons (eC (.str "bad")) (aCons (eC (.int 0)) aNil)))) (e2 gEqA (eMet (eCall 1 g_read_reading (aCons (eC (.str "")) aNil))) (eTup (aCons (eC (.str "bad")) (aCons (eC (.int 0)) aNil))))))
def g_law : GF := fun ss μ => if ss.length = 1 then fin μ.length (fb_law (startS 2 ss) μ) else none
theorem ok_law (T : Nm K mg W) {fT : Addr} (TT : ErrTxt P K mg "BadText" "place" W.CT fT) (R_law_met : St0 K mg "_law_met" (topS 30)) {c PT : Addr} (LT : LamT base mg W "law" c PT) (C_read_machine : Cal P w K mg base W 4 "read_machine" st_read_machine ["text"] g_read_machine) (C_read_reading : Cal P w K mg base W 2 "read_reading" st_read_reading ["text"] g_read_reading) (C__law_dice : Cal P w K mg base W 1 "_law_dice" st__law_dice ["script", "spot"] g__law_dice) (C__law_right : CalG P w K mg base W 9 "_law_right" st__law_right ["dice"] g__law_right) (h : St0C K mg "law" st_law c) : CalG P w K mg base W 13 "law" st_law ["script"] g_law := by
  obtain ⟨f, fd, hm, hF, hcc⟩ := h.ex
  refine ⟨f, fd, hm, hF, fn_keepsCG (N := N_law) (fb := fb_law) hF hcc sc_law (fun A outer s H E hgd hr => ?_) (fun ss μ r hl hg => by have hl : ss.length = 1 := hl; unfold g_law at hg; rw [if_pos hl] at hg; exact hg)⟩
  have hu65 := hr.u65
  exact qs_cons (by exact qs_for (passes_of rfl) rfl (by exact q_irg1 T.range (by exact q_bi (c_max rfl) k_max T.max (by decide +kernel) (by exact qa_cons q_int (by exact qa_cons (by exact q_bi (c_min rfl) k_min T.min (by decide +kernel) (by exact qa_cons q_int (by exact qa_cons (by exact q_bi c_len k_len T.len (by decide +kernel) (by exact qa_cons (by exact q_v 0) qa_nil)) qa_nil))) qa_nil)))) (by exact q_tname sc_law.nd (i := 1)) (by exact qs_one (by exact qs_if (by exact qt_not (by exact qt_val (by exact q_callG (ps := ["dice"]) C__law_right hgd (hr.mono (by decide)) (passes_call (takes_of rfl rfl rfl rfl) fun _ _ _ _ h => h) (by exact qa_cons (by exact q_call (ps := ["script", "spot"]) C__law_dice (hr.mono (by decide)) (passes_call (takes_of rfl rfl rfl rfl) fun _ _ _ _ h => h) (by exact qa_cons (by exact q_v 0) (by exact qa_cons (by exact q_v 1) qa_nil)) bi__law_dice) qa_nil) bi__law_right))) (by exact qs_one (by exact qs_ret q_bl)) qs_nil))) (by exact qs_one (by exact qs_ret (by exact q_and (by exact q_cmp (OpR.or (op_eqD hr.units) op_eq) o2_eqA (by exact q_met (k := 4) TT R_law_met LT rfl rfl (hr.mono (by decide)) (fun _ _ _ _ _ _ _ hr => by exact q_call (ps := ["text"]) C_read_machine (hr.mono (by decide)) (passes_call (takes_of rfl rfl rfl rfl) fun _ _ _ _ h => h) (by exact qa_cons q_str qa_nil) bi_read_machine)) (by exact q_tup (by exact qa_cons q_str (by exact qa_cons q_int qa_nil))) (nomark _)) (by exact q_one (by exact q_cmp (OpR.or (op_eqD hr.units) op_eq) o2_eqA (by exact q_met (k := 2) TT R_law_met LT rfl rfl (hr.mono (by decide)) (fun _ _ _ _ _ _ _ hr => by exact q_call (ps := ["text"]) C_read_reading (hr.mono (by decide)) (passes_call (takes_of rfl rfl rfl rfl) fun _ _ _ _ h => h) (by exact qa_cons q_str qa_nil) bi_read_reading)) (by exact q_tup (by exact qa_cons q_str (by exact qa_cons q_int qa_nil))) (nomark _))))))

end
end K05
end

section
set_option Elab.async false
set_option linter.all false
set_option maxRecDepth 100000
set_option maxHeartbeats 0
namespace K05
open PySem PySem.Spec PyProof.Rows L2 DL
def loose0 : List Str := ["__name__", "CoinError", "BadArgument", "BadText", "MOST_KINDS", "SLOTS", "MOST_READ", "is_in", "are_in", "is_ascending", "demand", "are_slots", "is_machine", "is_reading", "MOST_SIGNS", "FIGURES", "parts_of", "write_machine", "read_machine", "write_reading", "integer_of", "read_reading", "_law_dice", "_law_roll", "_law_pick", "_law_refused", "_law_b_machine", "_law_met", "_law_machine_due", "_law_reading_due"]
def loose1 : List Str := ["_law_bent", "_law_right"]
def loose : List Str := loose0 ++ loose1
abbrev R : PySem.W.OpenRow := PySem.W.OpenLaw.row PySem.Challenge.rw_surebag_k05_whole_texts
abbrev PP : Program := PySem.Challenge.rw_surebag_k05_whole_texts.prog
def fn0 : List He.DefD := [dOf topS ("is_in", 8), dOf topS ("are_in", 9), dOf topS ("is_ascending", 10), dOf topS ("demand", 11), dOf topS ("are_slots", 12), dOf topS ("is_machine", 13), dOf topS ("is_reading", 14), dOf topS ("parts_of", 18), dOf topS ("write_machine", 19), dOf topS ("read_machine", 20), dOf topS ("write_reading", 21), dOf topS ("integer_of", 22), dOf topS ("read_reading", 23), dOf topS ("_law_dice", 25), dOf topS ("_law_roll", 26), dOf topS ("_law_pick", 27), dOf topS ("_law_refused", 28), dOf topS ("_law_b_machine", 29), dOf topS ("_law_met", 30), dOf topS ("_law_machine_due", 31), dOf topS ("_law_reading_due", 32), dOf topS ("_law_bent", 33), dOf topS ("_law_right", 34), dOf topS ("law", 35)]
def fn : List He.DefD := fn0
def fa0 : List He.Fa := [.glo "is_in", .glo "are_in", .glo "is_ascending", .glo "demand", .glo "are_slots", .glo "is_machine", .glo "is_reading", .glo "parts_of", .glo "write_machine", .glo "read_machine", .glo "write_reading", .glo "integer_of", .glo "read_reading", .glo "_law_dice", .glo "_law_roll", .glo "_law_pick", .glo "_law_refused", .glo "_law_b_machine", .glo "_law_met", .glo "_law_machine_due", .glo "_law_reading_due", .glo "_law_bent", .glo "_law_right", .glo "law", .free "abs", .free "all", .free "bool", .free "enumerate", .free "int", .free "isinstance"]
def fa1 : List He.Fa := [.free "len", .free "max", .free "min", .free "range", .free "repr", .free "set", .free "sorted", .free "str", .free "super", .free "tuple", .free "zip", .int "MOST_KINDS" (6), .int "SLOTS" (8), .int "MOST_READ" (200), .int "MOST_SIGNS" (1000), .str "FIGURES" "0123456789"]
def fa : List He.Fa := fa0 ++ fa1
def tf : List He.Defn := [("_law_right", none), ("law", none)]
def ex (K : PySem.W.Frag) : Bool := errB PP K "BadArgument" "name" && errB PP K "BadText" "place" && !decide ((He.cT K ("_law_right", none)).2 = (He.cT K ("law", none)).2)
abbrev hk : PySem.W.Hook := hookY 5 fa fn [] tf ex
def ob (s : PySem.W.SharedT) : He.AlX := obsY 5 fa fn [] tf ex (HandSHeadRun.getT s)
theorem ob_eq (s : PySem.W.SharedT) : ob s = hk.obs s.abs := obsY_eq (HandSHeadRun.getT_eq s)
theorem run (w : World) : HandSHeadRun.RunEq R (PySem.W.view R.prog [35]) hk ob 4000 loose w := by
  intro os
  kernel_rfl
def wd (K : PySem.W.Frag) : Wd := ⟨[((He.cT K ("_law_right", none)).2, (("_law_right" : Str) ++ ".<locals>.") ++ "<lambda>"), ((He.cT K ("law", none)).2, (("law" : Str) ++ ".<locals>.") ++ "<lambda>")], He.ga K "BadArgument", He.ga K "BadText"⟩
section
variable {w : World} {K : PySem.W.Frag} {h h2 : Heap} {mg : Str → Option Value}
theorem nm (c : He.SaysD fa fn K) (X : K.In h) (G : h.Ns mainGlobals mg) : Nm K mg (wd K) :=
  ⟨He.free_ok X G (c.fact 24 (f := .free "abs") rfl), He.free_ok X G (c.fact 25 (f := .free "all") rfl), He.free_ok X G (c.fact 26 (f := .free "bool") rfl), He.free_ok X G (c.fact 27 (f := .free "enumerate") rfl), He.free_ok X G (c.fact 28 (f := .free "int") rfl), He.free_ok X G (c.fact 29 (f := .free "isinstance") rfl), He.free_ok X G (c.fact 30 (f := .free "len") rfl), He.free_ok X G (c.fact 31 (f := .free "max") rfl), He.free_ok X G (c.fact 32 (f := .free "min") rfl), He.free_ok X G (c.fact 33 (f := .free "range") rfl), He.free_ok X G (c.fact 34 (f := .free "repr") rfl), He.free_ok X G (c.fact 35 (f := .free "set") rfl), He.free_ok X G (c.fact 36 (f := .free "sorted") rfl), He.free_ok X G (c.fact 37 (f := .free "str") rfl), He.free_ok X G (c.fact 38 (f := .free "super") rfl), He.free_ok X G (c.fact 39 (f := .free "tuple") rfl), He.free_ok X G (c.fact 40 (f := .free "zip") rfl), He.int_ok X G (c.fact 41 (f := .int "MOST_KINDS" (6)) rfl), He.int_ok X G (c.fact 42 (f := .int "SLOTS" (8)) rfl), He.int_ok X G (c.fact 43 (f := .int "MOST_READ" (200)) rfl), He.int_ok X G (c.fact 44 (f := .int "MOST_SIGNS" (1000)) rfl), He.str_ok X G (c.fact 45 (f := .str "FIGURES" "0123456789") rfl)⟩
theorem law_ok {base : Heap} (s : He.SaysX fa fn [] tf ex w h2 K) (X : K.In h) (G : h.Ns mainGlobals mg) (TB : ∀ p ∈ tf.map (He.cT K), LamX.TabB base mg p.1 p.2) : DL.CalG PP w K mg base (wd K) 13 "law" (topS 35) ["script"] g_law := by
  have c := s.t.d
  have T := nm c X G
  have hex : ex K = true := s.more
  unfold ex at hex
  simp only [Bool.and_eq_true] at hex
  obtain ⟨⟨e0, e1⟩, e2⟩ := hex
  have TA : ErrTxt PP K mg "BadArgument" "name" (wd K).CA _ := errB_ok X G e0 (.inl rfl) rfl
  have TT : ErrTxt PP K mg "BadText" "place" (wd K).CT _ := errB_ok X G e1 (.inr rfl) rfl
  have R_law_refused : St0 K mg "_law_refused" (topS 28) := st0_of c X G ("_law_refused", 28) 16 16 rfl rfl
  have R_law_met : St0 K mg "_law_met" (topS 30) := st0_of c X G ("_law_met", 30) 18 18 rfl rfl
  have LT__law_right : LamT base mg (wd K) "_law_right" (He.cT K ("_law_right", none)).1 (He.cT K ("_law_right", none)).2 := ⟨TB _ (List.mem_map.mpr ⟨("_law_right", none), by simp [tf], rfl⟩), by simp [wd], fun p hp e => ?un0⟩
  have LT_law : LamT base mg (wd K) "law" (He.cT K ("law", none)).1 (He.cT K ("law", none)).2 := ⟨TB _ (List.mem_map.mpr ⟨("law", none), by simp [tf], rfl⟩), by simp [wd], fun p hp e => ?un1⟩
  have C_is_in : DL.Cal PP w K mg base (wd K) 1 "is_in" st_is_in ["value", "low", "high"] g_is_in := ok_is_in T (st0_of c X G ("is_in", 8) 0 0 rfl rfl)
  have C_are_in : DL.Cal PP w K mg base (wd K) 2 "are_in" st_are_in ["value", "least", "most", "low", "high"] g_are_in := ok_are_in T C_is_in (st0_of c X G ("are_in", 9) 1 1 rfl rfl)
  have C_is_ascending : DL.Cal PP w K mg base (wd K) 1 "is_ascending" st_is_ascending ["values"] g_is_ascending := ok_is_ascending T (st0_of c X G ("is_ascending", 10) 2 2 rfl rfl)
  have C_demand : DL.Cal PP w K mg base (wd K) 1 "demand" st_demand ["is_good", "name"] g_demand := ok_demand T TA (st0_of c X G ("demand", 11) 3 3 rfl rfl)
  have C_are_slots : DL.Cal PP w K mg base (wd K) 3 "are_slots" st_are_slots ["value", "least"] g_are_slots := ok_are_slots T C_are_in C_is_ascending (st0_of c X G ("are_slots", 12) 4 4 rfl rfl)
  have C_is_machine : DL.Cal PP w K mg base (wd K) 4 "is_machine" st_is_machine ["value"] g_is_machine := ok_is_machine T C_are_slots (st0_of c X G ("is_machine", 13) 5 5 rfl rfl)
  have C_is_reading : DL.Cal PP w K mg base (wd K) 3 "is_reading" st_is_reading ["value"] g_is_reading := ok_is_reading T C_are_in (st0_of c X G ("is_reading", 14) 6 6 rfl rfl)
  have C_parts_of : DL.Cal PP w K mg base (wd K) 1 "parts_of" st_parts_of ["text"] g_parts_of := ok_parts_of T TT (st0_of c X G ("parts_of", 18) 7 7 rfl rfl)
  have C_write_machine : DL.Cal PP w K mg base (wd K) 5 "write_machine" st_write_machine ["machine"] g_write_machine := ok_write_machine T C_demand C_is_machine (st0_of c X G ("write_machine", 19) 8 8 rfl rfl)
  have C_read_machine : DL.Cal PP w K mg base (wd K) 4 "read_machine" st_read_machine ["text"] g_read_machine := ok_read_machine T TT C_are_slots C_parts_of (st0_of c X G ("read_machine", 20) 9 9 rfl rfl)
  have C_write_reading : DL.Cal PP w K mg base (wd K) 4 "write_reading" st_write_reading ["reading"] g_write_reading := ok_write_reading T C_demand C_is_reading (st0_of c X G ("write_reading", 21) 10 10 rfl rfl)
  have C_integer_of : DL.Cal PP w K mg base (wd K) 1 "integer_of" st_integer_of ["text"] g_integer_of := ok_integer_of T (st0_of c X G ("integer_of", 22) 11 11 rfl rfl)
  have C_read_reading : DL.Cal PP w K mg base (wd K) 2 "read_reading" st_read_reading ["text"] g_read_reading := ok_read_reading T TT C_parts_of C_integer_of (st0_of c X G ("read_reading", 23) 12 12 rfl rfl)
  have C__law_dice : DL.Cal PP w K mg base (wd K) 1 "_law_dice" st__law_dice ["script", "spot"] g__law_dice := ok__law_dice T (st0_of c X G ("_law_dice", 25) 13 13 rfl rfl)
  have C__law_roll : DL.Cal PP w K mg base (wd K) 1 "_law_roll" st__law_roll ["dice", "total"] g__law_roll := ok__law_roll T (st0_of c X G ("_law_roll", 26) 14 14 rfl rfl)
  have C__law_pick : DL.Cal PP w K mg base (wd K) 2 "_law_pick" st__law_pick ["dice", "things"] g__law_pick := ok__law_pick T C__law_roll (st0_of c X G ("_law_pick", 27) 15 15 rfl rfl)
  have C__law_b_machine : DL.Cal PP w K mg base (wd K) 2 "_law_b_machine" st__law_b_machine ["dice", "kinds"] g__law_b_machine := ok__law_b_machine T C__law_roll (st0_of c X G ("_law_b_machine", 29) 17 17 rfl rfl)
  have C__law_machine_due : DL.Cal PP w K mg base (wd K) 1 "_law_machine_due" st__law_machine_due ["text"] g__law_machine_due := ok__law_machine_due T (st0_of c X G ("_law_machine_due", 31) 19 19 rfl rfl)
  have C__law_reading_due : DL.Cal PP w K mg base (wd K) 1 "_law_reading_due" st__law_reading_due ["text"] g__law_reading_due := ok__law_reading_due T (st0_of c X G ("_law_reading_due", 32) 20 20 rfl rfl)
  have C__law_bent : DL.Cal PP w K mg base (wd K) 3 "_law_bent" st__law_bent ["dice", "text"] g__law_bent := ok__law_bent T C__law_roll C__law_pick (st0_of c X G ("_law_bent", 33) 21 21 rfl rfl)
  have C__law_right : DL.CalG PP w K mg base (wd K) 9 "_law_right" st__law_right ["dice"] g__law_right := ok__law_right T TA TT R_law_met R_law_refused LT__law_right C_write_machine C_read_machine C_write_reading C_read_reading C__law_roll C__law_pick C__law_b_machine C__law_machine_due C__law_reading_due C__law_bent (st0C_of c X G ("_law_right", 34) 22 22 rfl rfl)
  have C_law : DL.CalG PP w K mg base (wd K) 13 "law" st_law ["script"] g_law := ok_law T TT R_law_met LT_law C_read_machine C_read_reading C__law_dice C__law_right (st0C_of c X G ("law", 35) 23 23 rfl rfl)
  exact C_law
  case un0 =>
    rcases List.mem_cons.mp hp with hp | hp
    · have hp : p = _ := hp
      rw [hp]
    · have hp : p = _ := List.mem_singleton.mp hp
      rw [hp] at e
      have ed := e2
      simp only [Bool.not_eq_true', decide_eq_false_iff_not] at ed
      exact absurd e.symm ed
  case un1 =>
    rcases List.mem_cons.mp hp with hp | hp
    · have hp : p = _ := hp
      rw [hp] at e
      have ed := e2
      simp only [Bool.not_eq_true', decide_eq_false_iff_not] at ed
      exact absurd e ed
    · have hp : p = _ := List.mem_singleton.mp hp
      rw [hp]
end
theorem wd_tabs (K : PySem.W.Frag) : ∀ p ∈ (wd K).T, ∃ q ∈ tf, p.1 = (He.cT K q).2 := by
  intro p hp
  simp only [wd, List.mem_cons, List.not_mem_nil, or_false] at hp
  rcases hp with rfl | rfl
  · exact ⟨("_law_right", none), by simp [tf], rfl⟩
  · exact ⟨("law", none), by simp [tf], rfl⟩
end K05
end

section
set_option Elab.async false
set_option linter.all false
set_option maxRecDepth 100000
set_option maxHeartbeats 4000000
/-! DLplain: evaluating the plain functions. -/
namespace DL
open PySem
section
variable {ρ : List S} {μ : List MO}
@[simp] theorem eC_app {d : D} : eC d ρ μ = some (.ok (.d d) μ) := rfl
theorem eV_app {i : Nat} : eV i ρ μ = match ρ[i]? with | some (.d x) => some (.ok (.d x) μ) | some (.m j) => some (.ok (.m j) μ) | _ => none := rfl
@[simp] theorem bE_ok {s : S} {k : S → List MO → Option ER} : bE (some (.ok s μ)) k = k s μ := rfl
@[simp] theorem bS_ok {s : S} {k : S → List MO → Option SR} : bS (some (.ok s μ)) k = k s μ := rfl
@[simp] theorem bB_ok {s : Bool} {k : Bool → List MO → Option ER} : bB (some (.ok s μ)) k = k s μ := rfl
@[simp] theorem bBB_ok {s : Bool} {k : Bool → List MO → Option BR} : bBB (some (.ok s μ)) k = k s μ := rfl
@[simp] theorem bAE_ok {s : List S} {k : List S → List MO → Option ER} : bAE (some (.ok s μ)) k = k s μ := rfl
@[simp] theorem asB_ok' {b : Bool} {k : Bool → List MO → Option ER} : asB (some (.ok (.d (.bl b)) μ)) k = k b μ := rfl
@[simp] theorem toB_ok {b : Bool} : toB (some (.ok (.d (.bl b)) μ)) = some (.ok b μ) := rfl
@[simp] theorem onlyD_ok {d : D} : onlyD (some (.ok (.d d) μ)) = some (.ok (.d d) μ) := rfl
@[simp] theorem onlyD_okm {i : Nat} : onlyD (some (.ok (.m i) μ)) = some (.ok (.m i) μ) := rfl
@[simp] theorem onlyD_ex {x : Ex} : onlyD (some (.ex x μ)) = some (.ex x μ) := rfl
@[simp] theorem e2_app {g : G2} {a b : EF} : e2 g a b ρ μ = bE (a ρ μ) fun s μ1 => bE (b ρ μ1) fun u μ2 => g s u μ2 := rfl
@[simp] theorem aNil_app : aNil ρ μ = some (.ok [] μ) := rfl
theorem aCons_app {f : EF} {g : AF} {s : S} {μ1 μ2 : List MO} {ss : List S} (h1 : f ρ μ = some (.ok s μ1)) (h2 : g ρ μ1 = some (.ok ss μ2)) : aCons f g ρ μ = some (.ok (s :: ss) μ2) := by
  unfold aCons; simp only [h1, h2]
@[simp] theorem fin_d {n : Nat} {d : D} : fin n (some (.ret (.d d) μ)) = some (.ok (.d d) (μ.take n)) := rfl
@[simp] theorem fin_nx {n : Nat} : fin n (some (.nx ρ μ)) = some (.ok (.d .non) (μ.take n)) := rfl
@[simp] theorem fin_ex {n : Nat} {x : Ex} : fin n (some (.ex x μ)) = some (.ex x (μ.take n)) := rfl
end
/-! ### blocks -/
/-- a block without effects: items as things, what is kept, what is made -/
theorem lcF_pure {α : Type} {h : TF} {c : BF} {e : EF} {ρ : List S} {μ : List MO} (it : α → D) (p : α → Bool) (y : α → D) : ∀ (xs : List α) (acc : List D),
    (∀ x ∈ xs, ∃ ρ1, h (it x) ρ = some ρ1 ∧ c ρ1 μ = some (.ok (p x) μ) ∧ (p x = true → e ρ1 μ = some (.ok (.d (y x)) μ))) → lcF h c e ρ (xs.map it) acc μ = some (acc ++ (xs.filter p).map y, μ)
  | [], acc, _ => by simp [eV_app, startS, eIsi, eNot, eAnd, eOr, eChain, sRet, sSeq, sSet, sIf, sNx, sDrop, sRaise, sRetN, aCons, eB, eCall, eTup, eLst, eIf, bAnd, bOr, bNot, tst, allD, viewT, viewL, viewX, tyD, isiB, hName, hTup, hsCons, hsNil, iSeq, wipeS, sAsg, gLe, gLt, gGe, gGt, gSub, gI20, gIsN, gNotN, gNotB, newL, eCut, ePart, gCut, iZip2, sFor, iAny, gIntA, gInA, gMulA, gEqA, gNeA, lcF]
  | x :: xs, acc, hx => by
    obtain ⟨ρ1, h1, h2, h3⟩ := hx x List.mem_cons_self
    have ih := fun acc => lcF_pure it p y xs acc fun z hz => hx z (List.mem_cons_of_mem _ hz)
    rw [List.map_cons]
    unfold lcF
    simp only [h1, h2]
    cases hp : p x with
    | true => simp only [h3 hp, ih, List.filter_cons, hp, if_true, List.map_cons, List.append_assoc, List.singleton_append]
    | false => simp only [ih, List.filter_cons, hp, Bool.false_eq_true, if_false]
/-- .. all kept -/
theorem lcF_map {α : Type} {h : TF} {e : EF} {ρ : List S} {μ : List MO} (it : α → D) (y : α → D) (xs : List α) (hx : ∀ x ∈ xs, ∃ ρ1, h (it x) ρ = some ρ1 ∧ e ρ1 μ = some (.ok (.d (y x)) μ)) : lcF h bYes e ρ (xs.map it) [] μ = some (xs.map y, μ) := by
  have := lcF_pure (c := bYes) (e := e) (h := h) (ρ := ρ) (μ := μ) it (fun _ => true) y xs [] fun x hm => by
    obtain ⟨ρ1, h1, h2⟩ := hx x hm
    exact ⟨ρ1, h1, rfl, fun _ => h2⟩
  rw [this, List.filter_eq_self.mpr (fun _ _ => rfl)]
  rfl
/-- a block that leaves things as they are but for a state M d (the dice) -/
theorem lcF_state {α β : Type} {h : TF} {e : EF} {ρ : List S} (M : β → List MO) (I : Nat → β → Prop) (it : α → D) (G : α → D → Prop) : ∀ (xs : List α) (acc : List D) (k : Nat) (b : β), I k b →
    (∀ x ∈ xs, ∀ (j : Nat) (b : β), k ≤ j → j < k + xs.length → I j b → ∃ ρ1 y b', h (it x) ρ = some ρ1 ∧ e ρ1 (M b) = some (.ok (.d y) (M b')) ∧ G x y ∧ I (j + 1) b') →
    ∃ ys b', lcF h bYes e ρ (xs.map it) acc (M b) = some (acc ++ ys, M b') ∧ I (k + xs.length) b' ∧ ys.length = xs.length ∧ ∀ (i : Nat) x y, xs[i]? = some x → ys[i]? = some y → G x y
  | [], acc, k, b, hI, _ => ⟨[], b, by simp [eV_app, startS, eIsi, eNot, eAnd, eOr, eChain, sRet, sSeq, sSet, sIf, sNx, sDrop, sRaise, sRetN, aCons, eB, eCall, eTup, eLst, eIf, bAnd, bOr, bNot, tst, allD, viewT, viewL, viewX, tyD, isiB, hName, hTup, hsCons, hsNil, iSeq, wipeS, sAsg, gLe, gLt, gGe, gGt, gSub, gI20, gIsN, gNotN, gNotB, newL, eCut, ePart, gCut, iZip2, sFor, iAny, gIntA, gInA, gMulA, gEqA, gNeA, lcF], hI, rfl, by simp [eV_app, startS, eIsi, eNot, eAnd, eOr, eChain, sRet, sSeq, sSet, sIf, sNx, sDrop, sRaise, sRetN, aCons, eB, eCall, eTup, eLst, eIf, bAnd, bOr, bNot, tst, allD, viewT, viewL, viewX, tyD, isiB, hName, hTup, hsCons, hsNil, iSeq, wipeS, sAsg, gLe, gLt, gGe, gGt, gSub, gI20, gIsN, gNotN, gNotB, newL, eCut, ePart, gCut, iZip2, sFor, iAny, gIntA, gInA, gMulA, gEqA, gNeA]⟩
  | x :: xs, acc, k, b, hI, hx => by
    obtain ⟨ρ1, y, b1, h1, h2, hG, hI1⟩ := hx x List.mem_cons_self k b (Nat.le_refl _) (by simp [eV_app, startS, eIsi, eNot, eAnd, eOr, eChain, sRet, sSeq, sSet, sIf, sNx, sDrop, sRaise, sRetN, aCons, eB, eCall, eTup, eLst, eIf, bAnd, bOr, bNot, tst, allD, viewT, viewL, viewX, tyD, isiB, hName, hTup, hsCons, hsNil, iSeq, wipeS, sAsg, gLe, gLt, gGe, gGt, gSub, gI20, gIsN, gNotN, gNotB, newL, eCut, ePart, gCut, iZip2, sFor, iAny, gIntA, gInA, gMulA, gEqA, gNeA]) hI
    obtain ⟨ys, b', e1, e2, e3, e4⟩ := lcF_state M I it G xs (acc ++ [y]) (k + 1) b1 hI1 fun z hz j b' h1 h2 => hx z (List.mem_cons_of_mem _ hz) j b' (by omega) (by simp [eV_app, startS, eIsi, eNot, eAnd, eOr, eChain, sRet, sSeq, sSet, sIf, sNx, sDrop, sRaise, sRetN, aCons, eB, eCall, eTup, eLst, eIf, bAnd, bOr, bNot, tst, allD, viewT, viewL, viewX, tyD, isiB, hName, hTup, hsCons, hsNil, iSeq, wipeS, sAsg, gLe, gLt, gGe, gGt, gSub, gI20, gIsN, gNotN, gNotB, newL, eCut, ePart, gCut, iZip2, sFor, iAny, gIntA, gInA, gMulA, gEqA, gNeA]; omega)
    refine ⟨y :: ys, b', ?_, ?_, by simp [eV_app, startS, eIsi, eNot, eAnd, eOr, eChain, sRet, sSeq, sSet, sIf, sNx, sDrop, sRaise, sRetN, aCons, eB, eCall, eTup, eLst, eIf, bAnd, bOr, bNot, tst, allD, viewT, viewL, viewX, tyD, isiB, hName, hTup, hsCons, hsNil, iSeq, wipeS, sAsg, gLe, gLt, gGe, gGt, gSub, gI20, gIsN, gNotN, gNotB, newL, eCut, ePart, gCut, iZip2, sFor, iAny, gIntA, gInA, gMulA, gEqA, gNeA, e3], fun i z w hz hw => ?_⟩
    · rw [List.map_cons]
      unfold lcF
      simp only [h1, h2, bYes]
      rw [e1]
      simp [eV_app, startS, eIsi, eNot, eAnd, eOr, eChain, sRet, sSeq, sSet, sIf, sNx, sDrop, sRaise, sRetN, aCons, eB, eCall, eTup, eLst, eIf, bAnd, bOr, bNot, tst, allD, viewT, viewL, viewX, tyD, isiB, hName, hTup, hsCons, hsNil, iSeq, wipeS, sAsg, gLe, gLt, gGe, gGt, gSub, gI20, gIsN, gNotN, gNotB, newL, eCut, ePart, gCut, iZip2, sFor, iAny, gIntA, gInA, gMulA, gEqA, gNeA]
    · have : k + (x :: xs).length = k + 1 + xs.length := by simp [eV_app, startS, eIsi, eNot, eAnd, eOr, eChain, sRet, sSeq, sSet, sIf, sNx, sDrop, sRaise, sRetN, aCons, eB, eCall, eTup, eLst, eIf, bAnd, bOr, bNot, tst, allD, viewT, viewL, viewX, tyD, isiB, hName, hTup, hsCons, hsNil, iSeq, wipeS, sAsg, gLe, gLt, gGe, gGt, gSub, gI20, gIsN, gNotN, gNotB, newL, eCut, ePart, gCut, iZip2, sFor, iAny, gIntA, gInA, gMulA, gEqA, gNeA]; omega
      rw [this]; exact e2
    · cases i with
      | zero => simp [eV_app, startS, eIsi, eNot, eAnd, eOr, eChain, sRet, sSeq, sSet, sIf, sNx, sDrop, sRaise, sRetN, aCons, eB, eCall, eTup, eLst, eIf, bAnd, bOr, bNot, tst, allD, viewT, viewL, viewX, tyD, isiB, hName, hTup, hsCons, hsNil, iSeq, wipeS, sAsg, gLe, gLt, gGe, gGt, gSub, gI20, gIsN, gNotN, gNotB, newL, eCut, ePart, gCut, iZip2, sFor, iAny, gIntA, gInA, gMulA, gEqA, gNeA] at hz hw; subst hz hw; exact hG
      | succ i => exact e4 i z w (by simpa [eV_app, startS, eIsi, eNot, eAnd, eOr, eChain, sRet, sSeq, sSet, sIf, sNx, sDrop, sRaise, sRetN, aCons, eB, eCall, eTup, eLst, eIf, bAnd, bOr, bNot, tst, allD, viewT, viewL, viewX, tyD, isiB, hName, hTup, hsCons, hsNil, iSeq, wipeS, sAsg, gLe, gLt, gGe, gGt, gSub, gI20, gIsN, gNotN, gNotB, newL, eCut, ePart, gCut, iZip2, sFor, iAny, gIntA, gInA, gMulA, gEqA, gNeA] using hz) (by simpa [eV_app, startS, eIsi, eNot, eAnd, eOr, eChain, sRet, sSeq, sSet, sIf, sNx, sDrop, sRaise, sRetN, aCons, eB, eCall, eTup, eLst, eIf, bAnd, bOr, bNot, tst, allD, viewT, viewL, viewX, tyD, isiB, hName, hTup, hsCons, hsNil, iSeq, wipeS, sAsg, gLe, gLt, gGe, gGt, gSub, gI20, gIsN, gNotN, gNotB, newL, eCut, ePart, gCut, iZip2, sFor, iAny, gIntA, gInA, gMulA, gEqA, gNeA] using hw)
theorem eLc_p {α : Type} {vs : List Nat} {fi : IF} {h : TF} {c : BF} {e : EF} {ρ : List S} {μ : List MO} (xs : List α) (it : α → D) (p : α → Bool) (y : α → D) (hi : fi ρ μ = some (.ok (xs.map it) μ)) (hl : xs.length ≤ cap)
    (hx : ∀ x ∈ xs, ∃ ρ1, h (it x) (wipeS ρ vs) = some ρ1 ∧ c ρ1 μ = some (.ok (p x) μ) ∧ (p x = true → e ρ1 μ = some (.ok (.d (y x)) μ))) : eLc false vs fi h c e ρ μ = some (.ok (.d (.lst ((xs.filter p).map y))) μ) := by
  unfold eLc
  simp only [hi, List.length_map, if_pos hl, lcF_pure it p y xs [] hx, List.nil_append]
  rfl
theorem eLc_m {α : Type} {vs : List Nat} {fi : IF} {h : TF} {e : EF} {ρ : List S} {μ : List MO} (xs : List α) (it : α → D) (y : α → D) (hi : fi ρ μ = some (.ok (xs.map it) μ)) (hl : xs.length ≤ cap)
    (hx : ∀ x ∈ xs, ∃ ρ1, h (it x) (wipeS ρ vs) = some ρ1 ∧ e ρ1 μ = some (.ok (.d (y x)) μ)) : eLc false vs fi h bYes e ρ μ = some (.ok (.d (.lst (xs.map y))) μ) := by
  unfold eLc
  simp only [hi, List.length_map, if_pos hl, lcF_map it y xs hx]
  rfl
theorem all_bls {α : Type} (xs : List α) (p : α → Bool) : allBls (xs.map fun x => D.bl (p x)) = some (xs.map p) := by
  have := allBls_map (xs.map p)
  rw [List.map_map] at this
  exact this
theorem all_ints {α : Type} (xs : List α) (p : α → Int) : allInts (xs.map fun x => D.int (p x)) = some (xs.map p) := by
  have := allInts_map (xs.map p)
  rw [List.map_map] at this
  exact this
theorem sIx_none (n d : Nat) : HT.sIx n d none = d := rfl
theorem sIx_pos {n d : Nat} {k : Int} (hk : 0 ≤ k) : HT.sIx n d (some k) = min k.toNat n := by
  unfold HT.sIx
  simp only
  rw [if_neg (by omega)]
theorem sIx_neg {n d : Nat} {k : Int} (hk : k < 0) : HT.sIx n d (some k) = (k + n).toNat := by
  unfold HT.sIx
  simp only
  rw [if_pos hk]
theorem cutD_from {ds : List D} {k : Int} (hk : 0 ≤ k) : cutD ds (some k) none = ds.drop k.toNat := by
  unfold cutD
  rw [sIx_pos hk, sIx_none]
  by_cases h : k.toNat ≤ ds.length
  · rw [Nat.min_eq_left h, List.take_of_length_le]
    simp [eV_app, startS, eIsi, eNot, eAnd, eOr, eChain, sRet, sSeq, sSet, sIf, sNx, sDrop, sRaise, sRetN, aCons, eB, eCall, eTup, eLst, eIf, bAnd, bOr, bNot, tst, allD, viewT, viewL, viewX, tyD, isiB, hName, hTup, hsCons, hsNil, iSeq, wipeS, sAsg, gLe, gLt, gGe, gGt, gSub, gI20, gIsN, gNotN, gNotB, newL, eCut, ePart, gCut, iZip2, sFor, iAny, gIntA, gInA, gMulA, gEqA, gNeA]
  · rw [Nat.min_eq_right (by omega), List.drop_length, List.drop_of_length_le (by omega)]
    simp [eV_app, startS, eIsi, eNot, eAnd, eOr, eChain, sRet, sSeq, sSet, sIf, sNx, sDrop, sRaise, sRetN, aCons, eB, eCall, eTup, eLst, eIf, bAnd, bOr, bNot, tst, allD, viewT, viewL, viewX, tyD, isiB, hName, hTup, hsCons, hsNil, iSeq, wipeS, sAsg, gLe, gLt, gGe, gGt, gSub, gI20, gIsN, gNotN, gNotB, newL, eCut, ePart, gCut, iZip2, sFor, iAny, gIntA, gInA, gMulA, gEqA, gNeA]
theorem cutD_to {ds : List D} {k : Int} (hk : 0 ≤ k) : cutD ds none (some k) = ds.take k.toNat := by
  unfold cutD
  rw [sIx_pos hk, sIx_none]
  simp only [List.drop_zero, Nat.sub_zero]
  rw [← List.take_take, List.take_length]
theorem cutD_init {ds : List D} : cutD ds none (some (-1)) = ds.dropLast := by
  unfold cutD
  rw [sIx_neg (by decide), sIx_none, List.dropLast_eq_take]
  simp only [List.drop_zero, Nat.sub_zero]
  congr 1
  omega
theorem zipD_ints (xs ys : List Int) : zipD (xs.map D.int) (ys.map D.int) = (xs.zip ys).map pairD := by
  unfold zipD
  rw [List.zip_map, List.map_map]
  rfl
theorem zipD_map {α β : Type} (xs : List α) (ys : List β) (f : α → D) (g : β → D) : zipD (xs.map f) (ys.map g) = (xs.zip ys).map fun p => .tup [f p.1, g p.2] := by
  unfold zipD
  rw [List.zip_map, List.map_map]
  rfl
theorem lc2F_pure {α β : Type} {h : TF} {fi1 : IF} {h1 : TF} {e : EF} {ρ : List S} {vs1 : List Nat} {μ : List MO} (it : α → D) (zs : α → List β) (it1 : β → D) (y : α → β → D) : ∀ (xs : List α) (acc : List D),
    (∀ x ∈ xs, ∃ ρ1, h (it x) ρ = some ρ1 ∧ fi1 ρ1 μ = some (.ok ((zs x).map it1) μ) ∧ ∀ z ∈ zs x, ∃ ρ2, h1 (it1 z) (wipeS ρ1 vs1) = some ρ2 ∧ e ρ2 μ = some (.ok (.d (y x z)) μ)) →
    lc2F h bYes fi1 h1 bYes e ρ vs1 (xs.map it) acc μ = some (acc ++ (xs.map fun x => (zs x).map (y x)).flatten, μ)
  | [], acc, _ => by simp [eV_app, startS, eIsi, eNot, eAnd, eOr, eChain, sRet, sSeq, sSet, sIf, sNx, sDrop, sRaise, sRetN, aCons, eB, eCall, eTup, eLst, eIf, bAnd, bOr, bNot, tst, allD, viewT, viewL, viewX, tyD, isiB, hName, hTup, hsCons, hsNil, iSeq, wipeS, sAsg, gLe, gLt, gGe, gGt, gSub, gI20, gIsN, gNotN, gNotB, newL, eCut, ePart, gCut, iZip2, sFor, iAny, gIntA, gInA, gMulA, gEqA, gNeA, lc2F]
  | x :: xs, acc, hx => by
    obtain ⟨ρ1, e1, e2, e3⟩ := hx x List.mem_cons_self
    have ih := fun acc => lc2F_pure it zs it1 y xs acc fun z hz => hx z (List.mem_cons_of_mem _ hz)
    have inner := lcF_pure (c := bYes) (e := e) (h := h1) (ρ := wipeS ρ1 vs1) (μ := μ) it1 (fun _ => true) (y x) (zs x) acc fun z hz => by
      obtain ⟨ρ2, a, b⟩ := e3 z hz
      exact ⟨ρ2, a, rfl, fun _ => b⟩
    rw [List.filter_eq_self.mpr (fun _ _ => rfl)] at inner
    rw [List.map_cons]
    unfold lc2F
    have hb : bYes ρ1 μ = some (.ok true μ) := rfl
    simp only [e1, e2, hb, inner, ih, List.map_cons, List.flatten_cons, List.append_assoc]
theorem eLc2_p {α β : Type} {vs vs1 : List Nat} {fi : IF} {h : TF} {fi1 : IF} {h1 : TF} {e : EF} {ρ : List S} {μ : List MO} (xs : List α) (it : α → D) (zs : α → List β) (it1 : β → D) (y : α → β → D) (hi : fi ρ μ = some (.ok (xs.map it) μ)) (hl : (xs.map fun x => (zs x).map (y x)).flatten.length ≤ cap)
    (hx : ∀ x ∈ xs, ∃ ρ1, h (it x) (wipeS ρ vs) = some ρ1 ∧ fi1 ρ1 μ = some (.ok ((zs x).map it1) μ) ∧ ∀ z ∈ zs x, ∃ ρ2, h1 (it1 z) (wipeS ρ1 vs1) = some ρ2 ∧ e ρ2 μ = some (.ok (.d (y x z)) μ)) :
    eLc2 false vs vs1 fi h bYes fi1 h1 bYes e ρ μ = some (.ok (.d (.lst (xs.map fun x => (zs x).map (y x)).flatten)) μ) := by
  unfold eLc2
  simp only [hi, lc2F_pure it zs it1 y xs [] hx, List.nil_append, if_pos hl]
  rfl
/-- a loop that runs through -/
theorem forF_inv {α : Type} {h : TF} {b : SF} (it : α → D) (I : List α → List S → List MO → Prop) {full : List α} (hs : ∀ done x rest ρ μ, full = done ++ x :: rest → I done ρ μ → ∃ ρ1 ρ2 μ2, h (it x) ρ = some ρ1 ∧ b ρ1 μ = some (.nx ρ2 μ2) ∧ I (done ++ [x]) ρ2 μ2) : ∀ (xs done : List α) (ρ : List S) (μ : List MO), full = done ++ xs → I done ρ μ →
    ∃ ρ' μ', forF h b (xs.map it) ρ μ = some (.nx ρ' μ') ∧ I full ρ' μ'
  | [], done, ρ, μ, e, hI => ⟨ρ, μ, rfl, by rw [e]; simpa [eV_app, startS, eIsi, eNot, eAnd, eOr, eChain, sRet, sSeq, sSet, sIf, sNx, sDrop, sRaise, sRetN, aCons, eB, eCall, eTup, eLst, eIf, bAnd, bOr, bNot, tst, allD, viewT, viewL, viewX, tyD, isiB, hName, hTup, hsCons, hsNil, iSeq, wipeS, sAsg, gLe, gLt, gGe, gGt, gSub, gI20, gIsN, gNotN, gNotB, newL, eCut, ePart, gCut, iZip2, sFor, iAny, gIntA, gInA, gMulA, gEqA, gNeA] using hI⟩
  | x :: xs, done, ρ, μ, e, hI => by
    obtain ⟨ρ1, ρ2, μ2, e1, e2, e3⟩ := hs done x xs ρ μ e hI
    obtain ⟨ρ', μ', e4, e5⟩ := forF_inv it I hs xs (done ++ [x]) ρ2 μ2 (by rw [e]; simp [eV_app, startS, eIsi, eNot, eAnd, eOr, eChain, sRet, sSeq, sSet, sIf, sNx, sDrop, sRaise, sRetN, aCons, eB, eCall, eTup, eLst, eIf, bAnd, bOr, bNot, tst, allD, viewT, viewL, viewX, tyD, isiB, hName, hTup, hsCons, hsNil, iSeq, wipeS, sAsg, gLe, gLt, gGe, gGt, gSub, gI20, gIsN, gNotN, gNotB, newL, eCut, ePart, gCut, iZip2, sFor, iAny, gIntA, gInA, gMulA, gEqA, gNeA]) e3
    refine ⟨ρ', μ', ?_, e5⟩
    rw [List.map_cons]
    unfold forF
    simp only [e1, e2]
    exact e4
theorem rgI_split {a b : Int} {done rest : List Int} {x : Int} (h : rgI a b = done ++ x :: rest) : x = a + done.length ∧ a + done.length < b := by
  have h1 : (rgI a b)[done.length]? = some x := by rw [h]; simp [eV_app, startS, eIsi, eNot, eAnd, eOr, eChain, sRet, sSeq, sSet, sIf, sNx, sDrop, sRaise, sRetN, aCons, eB, eCall, eTup, eLst, eIf, bAnd, bOr, bNot, tst, allD, viewT, viewL, viewX, tyD, isiB, hName, hTup, hsCons, hsNil, iSeq, wipeS, sAsg, gLe, gLt, gGe, gGt, gSub, gI20, gIsN, gNotN, gNotB, newL, eCut, ePart, gCut, iZip2, sFor, iAny, gIntA, gInA, gMulA, gEqA, gNeA]
  have h2 := rgI_get h1
  have h3 : done.length < (rgI a b).length := by rw [h]; simp [eV_app, startS, eIsi, eNot, eAnd, eOr, eChain, sRet, sSeq, sSet, sIf, sNx, sDrop, sRaise, sRetN, aCons, eB, eCall, eTup, eLst, eIf, bAnd, bOr, bNot, tst, allD, viewT, viewL, viewX, tyD, isiB, hName, hTup, hsCons, hsNil, iSeq, wipeS, sAsg, gLe, gLt, gGe, gGt, gSub, gI20, gIsN, gNotN, gNotB, newL, eCut, ePart, gCut, iZip2, sFor, iAny, gIntA, gInA, gMulA, gEqA, gNeA]
  rw [rgI_length] at h3
  omega
theorem get_last {α : Type} (μ : List α) (x : α) : (μ ++ [x])[μ.length]? = some x := by simp [eV_app, startS, eIsi, eNot, eAnd, eOr, eChain, sRet, sSeq, sSet, sIf, sNx, sDrop, sRaise, sRetN, aCons, eB, eCall, eTup, eLst, eIf, bAnd, bOr, bNot, tst, allD, viewT, viewL, viewX, tyD, isiB, hName, hTup, hsCons, hsNil, iSeq, wipeS, sAsg, gLe, gLt, gGe, gGt, gSub, gI20, gIsN, gNotN, gNotB, newL, eCut, ePart, gCut, iZip2, sFor, iAny, gIntA, gInA, gMulA, gEqA, gNeA]
theorem set_last {α : Type} (μ : List α) (x y : α) : (μ ++ [x]).set μ.length y = μ ++ [y] := by simp [eV_app, startS, eIsi, eNot, eAnd, eOr, eChain, sRet, sSeq, sSet, sIf, sNx, sDrop, sRaise, sRetN, aCons, eB, eCall, eTup, eLst, eIf, bAnd, bOr, bNot, tst, allD, viewT, viewL, viewX, tyD, isiB, hName, hTup, hsCons, hsNil, iSeq, wipeS, sAsg, gLe, gLt, gGe, gGt, gSub, gI20, gIsN, gNotN, gNotB, newL, eCut, ePart, gCut, iZip2, sFor, iAny, gIntA, gInA, gMulA, gEqA, gNeA]
theorem rgI_snoc {a b : Int} (h : a ≤ b) : rgI a (b + 1) = rgI a b ++ [b] := by
  unfold rgI
  have : (b + 1 - a).toNat = (b - a).toNat + 1 := by omega
  rw [this, List.range_succ, List.map_append]
  simp [eV_app, startS, eIsi, eNot, eAnd, eOr, eChain, sRet, sSeq, sSet, sIf, sNx, sDrop, sRaise, sRetN, aCons, eB, eCall, eTup, eLst, eIf, bAnd, bOr, bNot, tst, allD, viewT, viewL, viewX, tyD, isiB, hName, hTup, hsCons, hsNil, iSeq, wipeS, sAsg, gLe, gLt, gGe, gGt, gSub, gI20, gIsN, gNotN, gNotB, newL, eCut, ePart, gCut, iZip2, sFor, iAny, gIntA, gInA, gMulA, gEqA, gNeA]
  omega
theorem rgI_nil {a b : Int} (h : b ≤ a) : rgI a b = [] := by
  unfold rgI
  rw [show (b - a).toNat = 0 by omega]; rfl
theorem mem_rgI {a b x : Int} : x ∈ rgI a b ↔ a ≤ x ∧ x < b := by
  unfold rgI
  rw [List.mem_map]
  constructor
  · rintro ⟨i, hi, rfl⟩
    have := List.mem_range.mp hi
    omega
  · intro ⟨h1, h2⟩
    exact ⟨(x - a).toNat, List.mem_range.mpr (by omega), by omega⟩
theorem rgI_sorted (a b : Int) : (rgI a b).Pairwise (· < ·) := by
  unfold rgI
  rw [List.pairwise_map]
  exact List.pairwise_lt_range.imp fun h => by omega
theorem any_int (i : Int) : ∀ ns : List Int, ((ns.map D.int).any fun z => eqvD z (.int i)) = ns.contains i
  | [] => rfl
  | n :: ns => by
    rw [List.map_cons, List.any_cons, any_int i ns, List.contains_cons]
    congr 1
    simp only [eqvD]
    by_cases h : n = i
    · subst h; simp [eV_app, startS, eIsi, eNot, eAnd, eOr, eChain, sRet, sSeq, sSet, sIf, sNx, sDrop, sRaise, sRetN, aCons, eB, eCall, eTup, eLst, eIf, bAnd, bOr, bNot, tst, allD, viewT, viewL, viewX, tyD, isiB, hName, hTup, hsCons, hsNil, iSeq, wipeS, sAsg, gLe, gLt, gGe, gGt, gSub, gI20, gIsN, gNotN, gNotB, newL, eCut, ePart, gCut, iZip2, sFor, iAny, gIntA, gInA, gMulA, gEqA, gNeA]
    · have : (n == i) = false := by simpa [eV_app, startS, eIsi, eNot, eAnd, eOr, eChain, sRet, sSeq, sSet, sIf, sNx, sDrop, sRaise, sRetN, aCons, eB, eCall, eTup, eLst, eIf, bAnd, bOr, bNot, tst, allD, viewT, viewL, viewX, tyD, isiB, hName, hTup, hsCons, hsNil, iSeq, wipeS, sAsg, gLe, gLt, gGe, gGt, gSub, gI20, gIsN, gNotN, gNotB, newL, eCut, ePart, gCut, iZip2, sFor, iAny, gIntA, gInA, gMulA, gEqA, gNeA] using h
      have h2 : (i == n) = false := by simpa [eV_app, startS, eIsi, eNot, eAnd, eOr, eChain, sRet, sSeq, sSet, sIf, sNx, sDrop, sRaise, sRetN, aCons, eB, eCall, eTup, eLst, eIf, bAnd, bOr, bNot, tst, allD, viewT, viewL, viewX, tyD, isiB, hName, hTup, hsCons, hsNil, iSeq, wipeS, sAsg, gLe, gLt, gGe, gGt, gSub, gI20, gIsN, gNotN, gNotB, newL, eCut, ePart, gCut, iZip2, sFor, iAny, gIntA, gInA, gMulA, gEqA, gNeA] using fun z => h z.symm
      rw [this, h2]
theorem sortI_of {ns : List Int} (h : ns.Pairwise (· ≤ ·)) : sortI ns = ns := (sortI_eq (List.Perm.refl ns) h).symm
end DL
end

section
set_option linter.all false
set_option maxRecDepth 100000
set_option maxHeartbeats 1000000
namespace DL
open PySem
end DL
end

section
set_option linter.all false
set_option maxRecDepth 100000
set_option maxHeartbeats 1000000
namespace K05
open PySem DL
/-- an int between -/
def inB (v : D) (a b : Int) : Bool := match v with
  | .int i => decide (a ≤ i) && decide (i ≤ b)
  | _ => false
theorem s_is_in {v : D} {a b : Int} {μ : List MO} (hv : tyD v ≠ none) : g_is_in [.d v, .d (.int a), .d (.int b)] μ = some (.ok (.d (.bl (inB v a b))) μ) := by
  cases v <;> simp [eV_app, startS, eIsi, eNot, eAnd, eOr, eChain, sRet, sSeq, sSet, sIf, sNx, sDrop, sRaise, sRetN, aCons, eB, eCall, eTup, eLst, eIf, bAnd, bOr, bNot, tst, allD, viewT, viewL, viewX, tyD, isiB, hName, hTup, hsCons, hsNil, iSeq, wipeS, sAsg, gLe, gLt, gGe, gGt, gSub, gI20, gIsN, gNotN, gNotB, newL, eCut, ePart, gCut, iZip2, sFor, iAny, gIntA, gInA, gMulA, gEqA, gNeA, g_is_in, fb_is_in, inB] at hv ⊢
  rename_i i
  by_cases h : a ≤ i <;> simp [eV_app, startS, eIsi, eNot, eAnd, eOr, eChain, sRet, sSeq, sSet, sIf, sNx, sDrop, sRaise, sRetN, aCons, eB, eCall, eTup, eLst, eIf, bAnd, bOr, bNot, tst, allD, viewT, viewL, viewX, tyD, isiB, hName, hTup, hsCons, hsNil, iSeq, wipeS, sAsg, gLe, gLt, gGe, gGt, gSub, gI20, gIsN, gNotN, gNotB, newL, eCut, ePart, gCut, iZip2, sFor, iAny, gIntA, gInA, gMulA, gEqA, gNeA, h]
theorem ok_ty {n : Nat} {d : D} (h : okD n d = true) : tyD d ≠ none := by
  cases d <;> simp [eV_app, startS, eIsi, eNot, eAnd, eOr, eChain, sRet, sSeq, sSet, sIf, sNx, sDrop, sRaise, sRetN, aCons, eB, eCall, eTup, eLst, eIf, bAnd, bOr, bNot, tst, allD, viewT, viewL, viewX, tyD, isiB, hName, hTup, hsCons, hsNil, iSeq, wipeS, sAsg, gLe, gLt, gGe, gGt, gSub, gI20, gIsN, gNotN, gNotB, newL, eCut, ePart, gCut, iZip2, sFor, iAny, gIntA, gInA, gMulA, gEqA, gNeA, tyD]
  cases n <;> simp [eV_app, startS, eIsi, eNot, eAnd, eOr, eChain, sRet, sSeq, sSet, sIf, sNx, sDrop, sRaise, sRetN, aCons, eB, eCall, eTup, eLst, eIf, bAnd, bOr, bNot, tst, allD, viewT, viewL, viewX, tyD, isiB, hName, hTup, hsCons, hsNil, iSeq, wipeS, sAsg, gLe, gLt, gGe, gGt, gSub, gI20, gIsN, gNotN, gNotB, newL, eCut, ePart, gCut, iZip2, sFor, iAny, gIntA, gInA, gMulA, gEqA, gNeA, okD] at h
theorem ok_mem {n : Nat} : ∀ {ds : List D} {d : D}, okDs n ds = true → d ∈ ds → okD n d = true
  | d' :: ds, d, h, hm => by
    have h : okD n d' = true ∧ okDs n ds = true := by simpa [eV_app, startS, eIsi, eNot, eAnd, eOr, eChain, sRet, sSeq, sSet, sIf, sNx, sDrop, sRaise, sRetN, aCons, eB, eCall, eTup, eLst, eIf, bAnd, bOr, bNot, tst, allD, viewT, viewL, viewX, tyD, isiB, hName, hTup, hsCons, hsNil, iSeq, wipeS, sAsg, gLe, gLt, gGe, gGt, gSub, gI20, gIsN, gNotN, gNotB, newL, eCut, ePart, gCut, iZip2, sFor, iAny, gIntA, gInA, gMulA, gEqA, gNeA, okDs] using h
    rcases List.mem_cons.mp hm with rfl | hm
    · exact h.1
    · exact ok_mem h.2 hm
theorem ok_tup {n : Nat} {ds : List D} (h : okD n (.tup ds) = true) : ∃ m, n = m + 1 ∧ okDs m ds = true := by
  cases n with
  | zero => simp [eV_app, startS, eIsi, eNot, eAnd, eOr, eChain, sRet, sSeq, sSet, sIf, sNx, sDrop, sRaise, sRetN, aCons, eB, eCall, eTup, eLst, eIf, bAnd, bOr, bNot, tst, allD, viewT, viewL, viewX, tyD, isiB, hName, hTup, hsCons, hsNil, iSeq, wipeS, sAsg, gLe, gLt, gGe, gGt, gSub, gI20, gIsN, gNotN, gNotB, newL, eCut, ePart, gCut, iZip2, sFor, iAny, gIntA, gInA, gMulA, gEqA, gNeA, okD] at h
  | succ m => exact ⟨m, rfl, by simpa [eV_app, startS, eIsi, eNot, eAnd, eOr, eChain, sRet, sSeq, sSet, sIf, sNx, sDrop, sRaise, sRetN, aCons, eB, eCall, eTup, eLst, eIf, bAnd, bOr, bNot, tst, allD, viewT, viewL, viewX, tyD, isiB, hName, hTup, hsCons, hsNil, iSeq, wipeS, sAsg, gLe, gLt, gGe, gGt, gSub, gI20, gIsN, gNotN, gNotB, newL, eCut, ePart, gCut, iZip2, sFor, iAny, gIntA, gInA, gMulA, gEqA, gNeA, okD] using h⟩
def areB (v : D) (l m a b : Int) : Bool := match v with
  | .tup ds => decide (l ≤ ds.length) && decide ((ds.length : Int) ≤ m) && ds.all fun d => inB d a b
  | _ => false
theorem s_are_in {n : Nat} {v : D} {l m a b : Int} {μ : List MO} (hv : okD n v = true) (hm : m ≤ 1000) : g_are_in [.d v, .d (.int l), .d (.int m), .d (.int a), .d (.int b)] μ = some (.ok (.d (.bl (areB v l m a b))) μ) := by
  cases v <;> simp [eV_app, startS, eIsi, eNot, eAnd, eOr, eChain, sRet, sSeq, sSet, sIf, sNx, sDrop, sRaise, sRetN, aCons, eB, eCall, eTup, eLst, eIf, bAnd, bOr, bNot, tst, allD, viewT, viewL, viewX, tyD, isiB, hName, hTup, hsCons, hsNil, iSeq, wipeS, sAsg, gLe, gLt, gGe, gGt, gSub, gI20, gIsN, gNotN, gNotB, newL, eCut, ePart, gCut, iZip2, sFor, iAny, gIntA, gInA, gMulA, gEqA, gNeA, g_are_in, fb_are_in, gLen, areB]
  · rename_i ds
    obtain ⟨k, _, hk⟩ := ok_tup hv
    by_cases h1 : l ≤ ds.length
    · by_cases h2 : (ds.length : Int) ≤ m
      · simp [eV_app, startS, eIsi, eNot, eAnd, eOr, eChain, sRet, sSeq, sSet, sIf, sNx, sDrop, sRaise, sRetN, aCons, eB, eCall, eTup, eLst, eIf, bAnd, bOr, bNot, tst, allD, viewT, viewL, viewX, tyD, isiB, hName, hTup, hsCons, hsNil, iSeq, wipeS, sAsg, gLe, gLt, gGe, gGt, gSub, gI20, gIsN, gNotN, gNotB, newL, eCut, ePart, gCut, iZip2, sFor, iAny, gIntA, gInA, gMulA, gEqA, gNeA, h1, h2]
        rw [eLc_m (xs := ds) (it := id) (y := fun d => .bl (inB d a b))]
        · simp [eV_app, startS, eIsi, eNot, eAnd, eOr, eChain, sRet, sSeq, sSet, sIf, sNx, sDrop, sRaise, sRetN, aCons, eB, eCall, eTup, eLst, eIf, bAnd, bOr, bNot, tst, allD, viewT, viewL, viewX, tyD, isiB, hName, hTup, hsCons, hsNil, iSeq, wipeS, sAsg, gLe, gLt, gGe, gGt, gSub, gI20, gIsN, gNotN, gNotB, newL, eCut, ePart, gCut, iZip2, sFor, iAny, gIntA, gInA, gMulA, gEqA, gNeA, gOnBls, all_bls]
        · simp [eV_app, startS, eIsi, eNot, eAnd, eOr, eChain, sRet, sSeq, sSet, sIf, sNx, sDrop, sRaise, sRetN, aCons, eB, eCall, eTup, eLst, eIf, bAnd, bOr, bNot, tst, allD, viewT, viewL, viewX, tyD, isiB, hName, hTup, hsCons, hsNil, iSeq, wipeS, sAsg, gLe, gLt, gGe, gGt, gSub, gI20, gIsN, gNotN, gNotB, newL, eCut, ePart, gCut, iZip2, sFor, iAny, gIntA, gInA, gMulA, gEqA, gNeA]
        · unfold cap; omega
        · intro d hd
          exact ⟨_, rfl, by simp [eV_app, startS, eIsi, eNot, eAnd, eOr, eChain, sRet, sSeq, sSet, sIf, sNx, sDrop, sRaise, sRetN, aCons, eB, eCall, eTup, eLst, eIf, bAnd, bOr, bNot, tst, allD, viewT, viewL, viewX, tyD, isiB, hName, hTup, hsCons, hsNil, iSeq, wipeS, sAsg, gLe, gLt, gGe, gGt, gSub, gI20, gIsN, gNotN, gNotB, newL, eCut, ePart, gCut, iZip2, sFor, iAny, gIntA, gInA, gMulA, gEqA, gNeA, s_is_in (ok_ty (ok_mem hk hd))]⟩
      · simp [eV_app, startS, eIsi, eNot, eAnd, eOr, eChain, sRet, sSeq, sSet, sIf, sNx, sDrop, sRaise, sRetN, aCons, eB, eCall, eTup, eLst, eIf, bAnd, bOr, bNot, tst, allD, viewT, viewL, viewX, tyD, isiB, hName, hTup, hsCons, hsNil, iSeq, wipeS, sAsg, gLe, gLt, gGe, gGt, gSub, gI20, gIsN, gNotN, gNotB, newL, eCut, ePart, gCut, iZip2, sFor, iAny, gIntA, gInA, gMulA, gEqA, gNeA, h1, h2]
    · simp [eV_app, startS, eIsi, eNot, eAnd, eOr, eChain, sRet, sSeq, sSet, sIf, sNx, sDrop, sRaise, sRetN, aCons, eB, eCall, eTup, eLst, eIf, bAnd, bOr, bNot, tst, allD, viewT, viewL, viewX, tyD, isiB, hName, hTup, hsCons, hsNil, iSeq, wipeS, sAsg, gLe, gLt, gGe, gGt, gSub, gI20, gIsN, gNotN, gNotB, newL, eCut, ePart, gCut, iZip2, sFor, iAny, gIntA, gInA, gMulA, gEqA, gNeA, h1]
  · cases n <;> simp [eV_app, startS, eIsi, eNot, eAnd, eOr, eChain, sRet, sSeq, sSet, sIf, sNx, sDrop, sRaise, sRetN, aCons, eB, eCall, eTup, eLst, eIf, bAnd, bOr, bNot, tst, allD, viewT, viewL, viewX, tyD, isiB, hName, hTup, hsCons, hsNil, iSeq, wipeS, sAsg, gLe, gLt, gGe, gGt, gSub, gI20, gIsN, gNotN, gNotB, newL, eCut, ePart, gCut, iZip2, sFor, iAny, gIntA, gInA, gMulA, gEqA, gNeA, okD] at hv
def ascB (ns : List Int) : Bool := (ns.zip ns.tail).all fun p => decide (p.1 < p.2)
theorem s_is_ascending {ns : List Int} {μ : List MO} (hl : ns.length ≤ 1000) : g_is_ascending [.d (.tup (ns.map .int))] μ = some (.ok (.d (.bl (ascB ns))) μ) := by
  simp [eV_app, startS, eIsi, eNot, eAnd, eOr, eChain, sRet, sSeq, sSet, sIf, sNx, sDrop, sRaise, sRetN, aCons, eB, eCall, eTup, eLst, eIf, bAnd, bOr, bNot, tst, allD, viewT, viewL, viewX, tyD, isiB, hName, hTup, hsCons, hsNil, iSeq, wipeS, sAsg, gLe, gLt, gGe, gGt, gSub, gI20, gIsN, gNotN, gNotB, newL, eCut, ePart, gCut, iZip2, sFor, iAny, gIntA, gInA, gMulA, gEqA, gNeA, g_is_ascending, fb_is_ascending, cutD_from]
  rw [eLc_m (xs := ns.zip ns.tail) (it := pairD) (y := fun p => .bl (decide (p.1 < p.2)))]
  · simp [eV_app, startS, eIsi, eNot, eAnd, eOr, eChain, sRet, sSeq, sSet, sIf, sNx, sDrop, sRaise, sRetN, aCons, eB, eCall, eTup, eLst, eIf, bAnd, bOr, bNot, tst, allD, viewT, viewL, viewX, tyD, isiB, hName, hTup, hsCons, hsNil, iSeq, wipeS, sAsg, gLe, gLt, gGe, gGt, gSub, gI20, gIsN, gNotN, gNotB, newL, eCut, ePart, gCut, iZip2, sFor, iAny, gIntA, gInA, gMulA, gEqA, gNeA, gOnBls, all_bls, ascB]
  · simp [eV_app, startS, eIsi, eNot, eAnd, eOr, eChain, sRet, sSeq, sSet, sIf, sNx, sDrop, sRaise, sRetN, aCons, eB, eCall, eTup, eLst, eIf, bAnd, bOr, bNot, tst, allD, viewT, viewL, viewX, tyD, isiB, hName, hTup, hsCons, hsNil, iSeq, wipeS, sAsg, gLe, gLt, gGe, gGt, gSub, gI20, gIsN, gNotN, gNotB, newL, eCut, ePart, gCut, iZip2, sFor, iAny, gIntA, gInA, gMulA, gEqA, gNeA, cutD_from, ← List.map_tail, zipD_ints]
  · have : (ns.zip ns.tail).length ≤ ns.length := by simp [eV_app, startS, eIsi, eNot, eAnd, eOr, eChain, sRet, sSeq, sSet, sIf, sNx, sDrop, sRaise, sRetN, aCons, eB, eCall, eTup, eLst, eIf, bAnd, bOr, bNot, tst, allD, viewT, viewL, viewX, tyD, isiB, hName, hTup, hsCons, hsNil, iSeq, wipeS, sAsg, gLe, gLt, gGe, gGt, gSub, gI20, gIsN, gNotN, gNotB, newL, eCut, ePart, gCut, iZip2, sFor, iAny, gIntA, gInA, gMulA, gEqA, gNeA]
    unfold cap; omega
  · intro p hp
    exact ⟨_, rfl, rfl⟩
theorem s_demand {b : Bool} {x : Str} {μ : List MO} : g_demand [.d (.bl b), .d (.str x)] μ = if b then some (.ok (.d .non) μ) else some (.ex (.arg (.str x)) μ) := by
  cases b <;> simp [eV_app, startS, eIsi, eNot, eAnd, eOr, eChain, sRet, sSeq, sSet, sIf, sNx, sDrop, sRaise, sRetN, aCons, eB, eCall, eTup, eLst, eIf, bAnd, bOr, bNot, tst, allD, viewT, viewL, viewX, tyD, isiB, hName, hTup, hsCons, hsNil, iSeq, wipeS, sAsg, gLe, gLt, gGe, gGt, gSub, gI20, gIsN, gNotN, gNotB, newL, eCut, ePart, gCut, iZip2, sFor, iAny, gIntA, gInA, gMulA, gEqA, gNeA, g_demand, fb_demand]
/-- the ints of a tuple -/
def slotsB (v : D) (least : Int) : Bool := areB v least 8 0 7 && match v with | .tup ds => (match allInts ds with | some ns => ascB ns | none => false) | _ => false
theorem are_ints {n : Nat} {v : D} {l m a b : Int} (h : areB v l m a b = true) : ∃ ns : List Int, v = .tup (ns.map D.int) ∧ l ≤ ns.length ∧ (ns.length : Int) ≤ m ∧ ∀ x ∈ ns, a ≤ x ∧ x ≤ b := by
  cases v <;> simp [eV_app, startS, eIsi, eNot, eAnd, eOr, eChain, sRet, sSeq, sSet, sIf, sNx, sDrop, sRaise, sRetN, aCons, eB, eCall, eTup, eLst, eIf, bAnd, bOr, bNot, tst, allD, viewT, viewL, viewX, tyD, isiB, hName, hTup, hsCons, hsNil, iSeq, wipeS, sAsg, gLe, gLt, gGe, gGt, gSub, gI20, gIsN, gNotN, gNotB, newL, eCut, ePart, gCut, iZip2, sFor, iAny, gIntA, gInA, gMulA, gEqA, gNeA, areB] at h
  rename_i ds
  obtain ⟨⟨h1, h2⟩, h3⟩ := h
  have : ∀ ds : List D, (∀ d ∈ ds, inB d a b = true) → ∃ ns : List Int, ds = ns.map D.int ∧ ∀ x ∈ ns, a ≤ x ∧ x ≤ b := fun ds => by
    induction ds with
    | nil => exact fun _ => ⟨[], rfl, by simp [eV_app, startS, eIsi, eNot, eAnd, eOr, eChain, sRet, sSeq, sSet, sIf, sNx, sDrop, sRaise, sRetN, aCons, eB, eCall, eTup, eLst, eIf, bAnd, bOr, bNot, tst, allD, viewT, viewL, viewX, tyD, isiB, hName, hTup, hsCons, hsNil, iSeq, wipeS, sAsg, gLe, gLt, gGe, gGt, gSub, gI20, gIsN, gNotN, gNotB, newL, eCut, ePart, gCut, iZip2, sFor, iAny, gIntA, gInA, gMulA, gEqA, gNeA]⟩
    | cons d ds ih =>
      intro h
      obtain ⟨ns, e, hn⟩ := ih fun z hz => h z (List.mem_cons_of_mem _ hz)
      have hd := h d List.mem_cons_self
      cases d <;> simp [eV_app, startS, eIsi, eNot, eAnd, eOr, eChain, sRet, sSeq, sSet, sIf, sNx, sDrop, sRaise, sRetN, aCons, eB, eCall, eTup, eLst, eIf, bAnd, bOr, bNot, tst, allD, viewT, viewL, viewX, tyD, isiB, hName, hTup, hsCons, hsNil, iSeq, wipeS, sAsg, gLe, gLt, gGe, gGt, gSub, gI20, gIsN, gNotN, gNotB, newL, eCut, ePart, gCut, iZip2, sFor, iAny, gIntA, gInA, gMulA, gEqA, gNeA, inB] at hd
      rename_i i
      refine ⟨i :: ns, by rw [e]; rfl, fun x hx => ?_⟩
      rcases List.mem_cons.mp hx with rfl | hx
      · exact hd
      · exact hn x hx
  obtain ⟨ns, e, hn⟩ := this ds h3
  subst e
  rw [List.length_map] at h1 h2
  exact ⟨ns, rfl, h1, h2, hn⟩
theorem s_are_slots {n : Nat} {v : D} {least : Int} {μ : List MO} (hv : okD n v = true) : g_are_slots [.d v, .d (.int least)] μ = some (.ok (.d (.bl (slotsB v least))) μ) := by
  simp [eV_app, startS, eIsi, eNot, eAnd, eOr, eChain, sRet, sSeq, sSet, sIf, sNx, sDrop, sRaise, sRetN, aCons, eB, eCall, eTup, eLst, eIf, bAnd, bOr, bNot, tst, allD, viewT, viewL, viewX, tyD, isiB, hName, hTup, hsCons, hsNil, iSeq, wipeS, sAsg, gLe, gLt, gGe, gGt, gSub, gI20, gIsN, gNotN, gNotB, newL, eCut, ePart, gCut, iZip2, sFor, iAny, gIntA, gInA, gMulA, gEqA, gNeA, g_are_slots, fb_are_slots, s_are_in hv]
  cases h : areB v least 8 0 7 with
  | false => simp [eV_app, startS, eIsi, eNot, eAnd, eOr, eChain, sRet, sSeq, sSet, sIf, sNx, sDrop, sRaise, sRetN, aCons, eB, eCall, eTup, eLst, eIf, bAnd, bOr, bNot, tst, allD, viewT, viewL, viewX, tyD, isiB, hName, hTup, hsCons, hsNil, iSeq, wipeS, sAsg, gLe, gLt, gGe, gGt, gSub, gI20, gIsN, gNotN, gNotB, newL, eCut, ePart, gCut, iZip2, sFor, iAny, gIntA, gInA, gMulA, gEqA, gNeA, slotsB, h]
  | true =>
    obtain ⟨ns, rfl, h1, h2, h3⟩ := are_ints (n := n) h
    simp [eV_app, startS, eIsi, eNot, eAnd, eOr, eChain, sRet, sSeq, sSet, sIf, sNx, sDrop, sRaise, sRetN, aCons, eB, eCall, eTup, eLst, eIf, bAnd, bOr, bNot, tst, allD, viewT, viewL, viewX, tyD, isiB, hName, hTup, hsCons, hsNil, iSeq, wipeS, sAsg, gLe, gLt, gGe, gGt, gSub, gI20, gIsN, gNotN, gNotB, newL, eCut, ePart, gCut, iZip2, sFor, iAny, gIntA, gInA, gMulA, gEqA, gNeA, slotsB, h, allInts_map, s_is_ascending (ns := ns) (μ := μ) (by omega)]
def machineB : D → Bool
  | .tup ds => decide (1 ≤ ds.length) && decide (ds.length ≤ 6) && ds.all fun d => slotsB d 1
  | _ => false
theorem s_is_machine {n : Nat} {v : D} {μ : List MO} (hv : okD n v = true) : g_is_machine [.d v] μ = some (.ok (.d (.bl (machineB v))) μ) := by
  cases v <;> simp [eV_app, startS, eIsi, eNot, eAnd, eOr, eChain, sRet, sSeq, sSet, sIf, sNx, sDrop, sRaise, sRetN, aCons, eB, eCall, eTup, eLst, eIf, bAnd, bOr, bNot, tst, allD, viewT, viewL, viewX, tyD, isiB, hName, hTup, hsCons, hsNil, iSeq, wipeS, sAsg, gLe, gLt, gGe, gGt, gSub, gI20, gIsN, gNotN, gNotB, newL, eCut, ePart, gCut, iZip2, sFor, iAny, gIntA, gInA, gMulA, gEqA, gNeA, g_is_machine, fb_is_machine, gLen, machineB]
  · rename_i ds
    obtain ⟨k, _, hk⟩ := ok_tup hv
    by_cases h1 : (1 : Int) ≤ ds.length
    · by_cases h2 : (ds.length : Int) ≤ 6
      · have h1' : 1 ≤ ds.length := by omega
        have h2' : ds.length ≤ 6 := by omega
        simp [eV_app, startS, eIsi, eNot, eAnd, eOr, eChain, sRet, sSeq, sSet, sIf, sNx, sDrop, sRaise, sRetN, aCons, eB, eCall, eTup, eLst, eIf, bAnd, bOr, bNot, tst, allD, viewT, viewL, viewX, tyD, isiB, hName, hTup, hsCons, hsNil, iSeq, wipeS, sAsg, gLe, gLt, gGe, gGt, gSub, gI20, gIsN, gNotN, gNotB, newL, eCut, ePart, gCut, iZip2, sFor, iAny, gIntA, gInA, gMulA, gEqA, gNeA, h1, h2, h1', h2']
        rw [eLc_m (xs := ds) (it := id) (y := fun d => .bl (slotsB d 1))]
        · simp [eV_app, startS, eIsi, eNot, eAnd, eOr, eChain, sRet, sSeq, sSet, sIf, sNx, sDrop, sRaise, sRetN, aCons, eB, eCall, eTup, eLst, eIf, bAnd, bOr, bNot, tst, allD, viewT, viewL, viewX, tyD, isiB, hName, hTup, hsCons, hsNil, iSeq, wipeS, sAsg, gLe, gLt, gGe, gGt, gSub, gI20, gIsN, gNotN, gNotB, newL, eCut, ePart, gCut, iZip2, sFor, iAny, gIntA, gInA, gMulA, gEqA, gNeA, gOnBls, all_bls]
        · simp [eV_app, startS, eIsi, eNot, eAnd, eOr, eChain, sRet, sSeq, sSet, sIf, sNx, sDrop, sRaise, sRetN, aCons, eB, eCall, eTup, eLst, eIf, bAnd, bOr, bNot, tst, allD, viewT, viewL, viewX, tyD, isiB, hName, hTup, hsCons, hsNil, iSeq, wipeS, sAsg, gLe, gLt, gGe, gGt, gSub, gI20, gIsN, gNotN, gNotB, newL, eCut, ePart, gCut, iZip2, sFor, iAny, gIntA, gInA, gMulA, gEqA, gNeA]
        · unfold cap; omega
        · intro d hd
          exact ⟨_, rfl, by simp [eV_app, startS, eIsi, eNot, eAnd, eOr, eChain, sRet, sSeq, sSet, sIf, sNx, sDrop, sRaise, sRetN, aCons, eB, eCall, eTup, eLst, eIf, bAnd, bOr, bNot, tst, allD, viewT, viewL, viewX, tyD, isiB, hName, hTup, hsCons, hsNil, iSeq, wipeS, sAsg, gLe, gLt, gGe, gGt, gSub, gI20, gIsN, gNotN, gNotB, newL, eCut, ePart, gCut, iZip2, sFor, iAny, gIntA, gInA, gMulA, gEqA, gNeA, s_are_slots (ok_mem hk hd)]⟩
      · have h2' : ¬ ds.length ≤ 6 := by omega
        simp [eV_app, startS, eIsi, eNot, eAnd, eOr, eChain, sRet, sSeq, sSet, sIf, sNx, sDrop, sRaise, sRetN, aCons, eB, eCall, eTup, eLst, eIf, bAnd, bOr, bNot, tst, allD, viewT, viewL, viewX, tyD, isiB, hName, hTup, hsCons, hsNil, iSeq, wipeS, sAsg, gLe, gLt, gGe, gGt, gSub, gI20, gIsN, gNotN, gNotB, newL, eCut, ePart, gCut, iZip2, sFor, iAny, gIntA, gInA, gMulA, gEqA, gNeA, h1, h2, h2']
    · have h1' : ¬ 1 ≤ ds.length := by omega
      simp [eV_app, startS, eIsi, eNot, eAnd, eOr, eChain, sRet, sSeq, sSet, sIf, sNx, sDrop, sRaise, sRetN, aCons, eB, eCall, eTup, eLst, eIf, bAnd, bOr, bNot, tst, allD, viewT, viewL, viewX, tyD, isiB, hName, hTup, hsCons, hsNil, iSeq, wipeS, sAsg, gLe, gLt, gGe, gGt, gSub, gI20, gIsN, gNotN, gNotB, newL, eCut, ePart, gCut, iZip2, sFor, iAny, gIntA, gInA, gMulA, gEqA, gNeA, h1, h1']
  · cases n <;> simp [eV_app, startS, eIsi, eNot, eAnd, eOr, eChain, sRet, sSeq, sSet, sIf, sNx, sDrop, sRaise, sRetN, aCons, eB, eCall, eTup, eLst, eIf, bAnd, bOr, bNot, tst, allD, viewT, viewL, viewX, tyD, isiB, hName, hTup, hsCons, hsNil, iSeq, wipeS, sAsg, gLe, gLt, gGe, gGt, gSub, gI20, gIsN, gNotN, gNotB, newL, eCut, ePart, gCut, iZip2, sFor, iAny, gIntA, gInA, gMulA, gEqA, gNeA, okD] at hv
abbrev tupI (ns : List Int) : D := .tup (ns.map .int)
theorem okDs_map {α : Type} {n : Nat} (f : α → D) : ∀ (xs : List α), (∀ x ∈ xs, okD n (f x) = true) → okDs n (xs.map f) = true
  | [], _ => by simp [eV_app, startS, eIsi, eNot, eAnd, eOr, eChain, sRet, sSeq, sSet, sIf, sNx, sDrop, sRaise, sRetN, aCons, eB, eCall, eTup, eLst, eIf, bAnd, bOr, bNot, tst, allD, viewT, viewL, viewX, tyD, isiB, hName, hTup, hsCons, hsNil, iSeq, wipeS, sAsg, gLe, gLt, gGe, gGt, gSub, gI20, gIsN, gNotN, gNotB, newL, eCut, ePart, gCut, iZip2, sFor, iAny, gIntA, gInA, gMulA, gEqA, gNeA, okDs]
  | x :: xs, h => by
    simp only [List.map_cons, okDs, h x List.mem_cons_self, okDs_map f xs fun z hz => h z (List.mem_cons_of_mem _ hz), Bool.and_self]
theorem ok_int (n : Nat) (i : Int) : okD n (.int i) = true := by cases n <;> rfl
theorem ok_tupI (n : Nat) (ns : List Int) : okD (n + 1) (tupI ns) = true := by
  simp only [tupI, okD]
  exact okDs_map _ ns fun x _ => ok_int n x
theorem ascB_pw : ∀ {ns : List Int}, ascB ns = true ↔ ns.Pairwise (· < ·)
  | [] => by simp [eV_app, startS, eIsi, eNot, eAnd, eOr, eChain, sRet, sSeq, sSet, sIf, sNx, sDrop, sRaise, sRetN, aCons, eB, eCall, eTup, eLst, eIf, bAnd, bOr, bNot, tst, allD, viewT, viewL, viewX, tyD, isiB, hName, hTup, hsCons, hsNil, iSeq, wipeS, sAsg, gLe, gLt, gGe, gGt, gSub, gI20, gIsN, gNotN, gNotB, newL, eCut, ePart, gCut, iZip2, sFor, iAny, gIntA, gInA, gMulA, gEqA, gNeA, ascB]
  | [x] => by simp [eV_app, startS, eIsi, eNot, eAnd, eOr, eChain, sRet, sSeq, sSet, sIf, sNx, sDrop, sRaise, sRetN, aCons, eB, eCall, eTup, eLst, eIf, bAnd, bOr, bNot, tst, allD, viewT, viewL, viewX, tyD, isiB, hName, hTup, hsCons, hsNil, iSeq, wipeS, sAsg, gLe, gLt, gGe, gGt, gSub, gI20, gIsN, gNotN, gNotB, newL, eCut, ePart, gCut, iZip2, sFor, iAny, gIntA, gInA, gMulA, gEqA, gNeA, ascB]
  | x :: y :: r => by
    have ih := ascB_pw (ns := y :: r)
    have e : ascB (x :: y :: r) = (decide (x < y) && ascB (y :: r)) := by simp [eV_app, startS, eIsi, eNot, eAnd, eOr, eChain, sRet, sSeq, sSet, sIf, sNx, sDrop, sRaise, sRetN, aCons, eB, eCall, eTup, eLst, eIf, bAnd, bOr, bNot, tst, allD, viewT, viewL, viewX, tyD, isiB, hName, hTup, hsCons, hsNil, iSeq, wipeS, sAsg, gLe, gLt, gGe, gGt, gSub, gI20, gIsN, gNotN, gNotB, newL, eCut, ePart, gCut, iZip2, sFor, iAny, gIntA, gInA, gMulA, gEqA, gNeA, ascB]
    rw [e, Bool.and_eq_true, decide_eq_true_eq, ih]
    constructor
    · intro ⟨h1, h2⟩
      refine List.pairwise_cons.mpr ⟨fun z hz => ?_, h2⟩
      rcases List.mem_cons.mp hz with rfl | hz
      · exact h1
      · exact Int.lt_trans h1 ((List.pairwise_cons.mp h2).1 z hz)
    · intro h
      obtain ⟨h1, h2⟩ := List.pairwise_cons.mp h
      exact ⟨h1 y List.mem_cons_self, h2⟩
abbrev mcD (m : List (List Int)) : D := .tup (m.map tupI)
theorem ok_mc (n : Nat) (m : List (List Int)) : okD (n + 2) (mcD m) = true := by
  simp only [mcD, okD]
  exact okDs_map _ m fun p _ => ok_tupI n p
def McOk (m : List (List Int)) : Prop := 1 ≤ m.length ∧ m.length ≤ 6 ∧ ∀ sl ∈ m, 1 ≤ sl.length ∧ sl.length ≤ 8 ∧ (∀ x ∈ sl, 0 ≤ x ∧ x ≤ 7) ∧ ascB sl = true
theorem machineB_typed {m : List (List Int)} (h : McOk m) : machineB (mcD m) = true := by
  obtain ⟨h1, h2, h3⟩ := h
  simp only [machineB, mcD, List.length_map, Bool.and_eq_true, decide_eq_true_eq, List.all_eq_true]
  refine ⟨⟨h1, h2⟩, fun d hd => ?_⟩
  obtain ⟨sl, hs, rfl⟩ := List.mem_map.mp hd
  obtain ⟨a, b, c, e⟩ := h3 sl hs
  simp only [slotsB, tupI, areB, allInts_map, e, List.length_map, Bool.and_eq_true, decide_eq_true_eq, List.all_eq_true, and_true]
  refine ⟨⟨by omega, by omega⟩, fun d hd => ?_⟩
  obtain ⟨x, hx, rfl⟩ := List.mem_map.mp hd
  have := c x hx
  simp only [inB, Bool.and_eq_true, decide_eq_true_eq]
  omega
def IntsIn (ns : List Int) (n : Nat) (a b : Int) : Prop := ns.length = n ∧ ∀ x ∈ ns, a ≤ x ∧ x ≤ b
theorem areB_typed {ns : List Int} {n : Nat} {a b : Int} (h : IntsIn ns n a b) : areB (tupI ns) n n a b = true := by
  obtain ⟨h1, h2⟩ := h
  simp only [areB, tupI, List.length_map, h1, Bool.and_eq_true, decide_eq_true_eq, List.all_eq_true]
  refine ⟨⟨by omega, by omega⟩, fun d hd => ?_⟩
  obtain ⟨x, hx, rfl⟩ := List.mem_map.mp hd
  have := h2 x hx
  simp only [inB, Bool.and_eq_true, decide_eq_true_eq]
  omega
theorem ints_of_all {a b : Int} : ∀ {ys : List D}, (∀ y ∈ ys, ∃ z : Int, y = .int z ∧ a ≤ z ∧ z ≤ b) → ∃ ns : List Int, ys = ns.map D.int ∧ ∀ z ∈ ns, a ≤ z ∧ z ≤ b
  | [], _ => ⟨[], rfl, by simp [eV_app, startS, eIsi, eNot, eAnd, eOr, eChain, sRet, sSeq, sSet, sIf, sNx, sDrop, sRaise, sRetN, aCons, eB, eCall, eTup, eLst, eIf, bAnd, bOr, bNot, tst, allD, viewT, viewL, viewX, tyD, isiB, hName, hTup, hsCons, hsNil, iSeq, wipeS, sAsg, gLe, gLt, gGe, gGt, gSub, gI20, gIsN, gNotN, gNotB, newL, eCut, ePart, gCut, iZip2, sFor, iAny, gIntA, gInA, gMulA, gEqA, gNeA]⟩
  | y :: ys, h => by
    obtain ⟨z, rfl, h1, h2⟩ := h y List.mem_cons_self
    obtain ⟨ns, rfl, hn⟩ := ints_of_all fun w hw => h w (List.mem_cons_of_mem _ hw)
    refine ⟨z :: ns, rfl, fun w hw => ?_⟩
    rcases List.mem_cons.mp hw with rfl | hw
    · exact ⟨h1, h2⟩
    · exact hn w hw
theorem eLc_state {α β : Type} {vs : List Nat} {fi : IF} {h : TF} {e : EF} {ρ : List S} (M : β → List MO) (I : Nat → β → Prop) (it : α → D) (G : α → D → Prop) (xs : List α) (k : Nat) (b : β) (hI : I k b) (hi : fi ρ (M b) = some (.ok (xs.map it) (M b))) (hl : xs.length ≤ cap)
    (hx : ∀ x ∈ xs, ∀ (j : Nat) (b : β), k ≤ j → j < k + xs.length → I j b → ∃ ρ1 y b', h (it x) (wipeS ρ vs) = some ρ1 ∧ e ρ1 (M b) = some (.ok (.d y) (M b')) ∧ G x y ∧ I (j + 1) b') :
    ∃ ys b', eLc false vs fi h bYes e ρ (M b) = some (.ok (.d (.lst ys)) (M b')) ∧ I (k + xs.length) b' ∧ ys.length = xs.length ∧ ∀ (i : Nat) x y, xs[i]? = some x → ys[i]? = some y → G x y := by
  obtain ⟨ys, b', e1, e2, e3, e4⟩ := lcF_state M I it G xs [] k b hI hx
  refine ⟨ys, b', ?_, e2, e3, e4⟩
  unfold eLc
  simp only [hi, List.length_map, if_pos hl, e1, List.nil_append]
  rfl
theorem mem_G {α : Type} {xs : List α} {ys : List D} {G : α → D → Prop} (hl : ys.length = xs.length) (h : ∀ (i : Nat) x y, xs[i]? = some x → ys[i]? = some y → G x y) : ∀ y ∈ ys, ∃ x ∈ xs, G x y := fun y hy => by
  obtain ⟨i, hi⟩ := List.mem_iff_getElem?.mp hy
  have hlt : i < xs.length := by rw [← hl]; exact (List.getElem?_eq_some_iff.mp hi).1
  exact ⟨xs[i], List.getElem_mem _, h i _ _ (List.getElem?_eq_getElem hlt) hi⟩
theorem eqv_ints : ∀ xs ys : List Int, eqvDs (xs.map D.int) (ys.map D.int) = (xs == ys)
  | [], [] => by simp [eV_app, startS, eIsi, eNot, eAnd, eOr, eChain, sRet, sSeq, sSet, sIf, sNx, sDrop, sRaise, sRetN, aCons, eB, eCall, eTup, eLst, eIf, bAnd, bOr, bNot, tst, allD, viewT, viewL, viewX, tyD, isiB, hName, hTup, hsCons, hsNil, iSeq, wipeS, sAsg, gLe, gLt, gGe, gGt, gSub, gI20, gIsN, gNotN, gNotB, newL, eCut, ePart, gCut, iZip2, sFor, iAny, gIntA, gInA, gMulA, gEqA, gNeA, eqvDs]
  | [], _ :: _ => by simp [eV_app, startS, eIsi, eNot, eAnd, eOr, eChain, sRet, sSeq, sSet, sIf, sNx, sDrop, sRaise, sRetN, aCons, eB, eCall, eTup, eLst, eIf, bAnd, bOr, bNot, tst, allD, viewT, viewL, viewX, tyD, isiB, hName, hTup, hsCons, hsNil, iSeq, wipeS, sAsg, gLe, gLt, gGe, gGt, gSub, gI20, gIsN, gNotN, gNotB, newL, eCut, ePart, gCut, iZip2, sFor, iAny, gIntA, gInA, gMulA, gEqA, gNeA, eqvDs]
  | _ :: _, [] => by simp [eV_app, startS, eIsi, eNot, eAnd, eOr, eChain, sRet, sSeq, sSet, sIf, sNx, sDrop, sRaise, sRetN, aCons, eB, eCall, eTup, eLst, eIf, bAnd, bOr, bNot, tst, allD, viewT, viewL, viewX, tyD, isiB, hName, hTup, hsCons, hsNil, iSeq, wipeS, sAsg, gLe, gLt, gGe, gGt, gSub, gI20, gIsN, gNotN, gNotB, newL, eCut, ePart, gCut, iZip2, sFor, iAny, gIntA, gInA, gMulA, gEqA, gNeA, eqvDs]
  | x :: xs, y :: ys => by
    have h := eqv_ints xs ys
    simp only [List.map_cons, eqvDs, eqvD, h]
    rfl
theorem nodup_of_lt {ns : List Int} (h : ns.Pairwise (· < ·)) : ns.Nodup := h.imp fun h => by omega
theorem sorted_set {ns : List Int} : (ns == sortI (dedI ns)) = ascB ns := by
  have key : ns = sortI (dedI ns) ↔ ascB ns = true := by
    rw [ascB_pw]
    constructor
    · intro h
      have h1 := sortI_sorted (dedI ns)
      have h2 : (sortI (dedI ns)).Nodup := (sortI_perm _).nodup_iff.mpr (dedI_nodup ns)
      rw [← h] at h1 h2
      exact (h1.and h2).imp fun ⟨a, b⟩ => by omega
    · intro h
      refine sortI_eq ?_ (h.imp fun h => Int.le_of_lt h)
      exact (List.perm_ext_iff_of_nodup (nodup_of_lt h) (dedI_nodup ns)).mpr fun k => (dedI_mem ns k).symm
  by_cases h : ns = sortI (dedI ns)
  · rw [key.mp h]; simpa [eV_app, startS, eIsi, eNot, eAnd, eOr, eChain, sRet, sSeq, sSet, sIf, sNx, sDrop, sRaise, sRetN, aCons, eB, eCall, eTup, eLst, eIf, bAnd, bOr, bNot, tst, allD, viewT, viewL, viewX, tyD, isiB, hName, hTup, hsCons, hsNil, iSeq, wipeS, sAsg, gLe, gLt, gGe, gGt, gSub, gI20, gIsN, gNotN, gNotB, newL, eCut, ePart, gCut, iZip2, sFor, iAny, gIntA, gInA, gMulA, gEqA, gNeA] using h
  · have : ascB ns = false := by
      cases e : ascB ns with
      | false => rfl
      | true => exact absurd (key.mpr e) h
    rw [this]; simpa [eV_app, startS, eIsi, eNot, eAnd, eOr, eChain, sRet, sSeq, sSet, sIf, sNx, sDrop, sRaise, sRetN, aCons, eB, eCall, eTup, eLst, eIf, bAnd, bOr, bNot, tst, allD, viewT, viewL, viewX, tyD, isiB, hName, hTup, hsCons, hsNil, iSeq, wipeS, sAsg, gLe, gLt, gGe, gGt, gSub, gI20, gIsN, gNotN, gNotB, newL, eCut, ePart, gCut, iZip2, sFor, iAny, gIntA, gInA, gMulA, gEqA, gNeA] using h
theorem dedI_len (ns : List Int) : (dedI ns).length ≤ ns.length := by
  have : ∀ (ns acc : List Int), (ns.foldl (fun acc n => if acc.contains n then acc else acc ++ [n]) acc).length ≤ acc.length + ns.length := fun ns => by
    induction ns with
    | nil => exact fun acc => Nat.le_refl _
    | cons n ns ih =>
      intro acc
      rw [List.foldl_cons]
      by_cases hc : acc.contains n = true
      · rw [if_pos hc]; have := ih acc; simp only [List.length_cons]; omega
      · rw [if_neg hc]; have := ih (acc ++ [n]); simp only [List.length_cons, List.length_append, List.length_nil] at this ⊢; omega
  have h := this ns []
  simpa [eV_app, startS, eIsi, eNot, eAnd, eOr, eChain, sRet, sSeq, sSet, sIf, sNx, sDrop, sRaise, sRetN, aCons, eB, eCall, eTup, eLst, eIf, bAnd, bOr, bNot, tst, allD, viewT, viewL, viewX, tyD, isiB, hName, hTup, hsCons, hsNil, iSeq, wipeS, sAsg, gLe, gLt, gGe, gGt, gSub, gI20, gIsN, gNotN, gNotB, newL, eCut, ePart, gCut, iZip2, sFor, iAny, gIntA, gInA, gMulA, gEqA, gNeA, dedI] using h
theorem eB_1 {g : GF} {f : EF} {ρ : List S} {μ μ1 : List MO} {s : S} {r : Option ER} (h : f ρ μ = some (.ok s μ1)) (hg : g [s] μ1 = r) : eB g (aCons f aNil) ρ μ = r := by
  show bAE (aCons f aNil ρ μ) g = r
  rw [aCons_app h aNil_app]; exact hg
theorem sSeq_nx {a b : SF} {ρ ρ1 : List S} {μ μ1 : List MO} {r : Option SR} (h1 : a ρ μ = some (.nx ρ1 μ1)) (h2 : b ρ1 μ1 = r) : sSeq a b ρ μ = r := by
  unfold sSeq; rw [h1]; exact h2
theorem sSet_ok {k : Nat} {e : EF} {ρ : List S} {μ μ1 : List MO} {s : S} (h : e ρ μ = some (.ok s μ1)) : sSet k e ρ μ = some (.nx (ρ.set k s) μ1) := by
  unfold sSet; rw [h]
mutual
theorem eqvD_refl : ∀ (n : Nat) (d : D), okD n d = true → eqvD d d = true
  | n, .non, _ => rfl
  | n, .bl b, _ => by simp [eV_app, startS, eIsi, eNot, eAnd, eOr, eChain, sRet, sSeq, sSet, sIf, sNx, sDrop, sRaise, sRetN, aCons, eB, eCall, eTup, eLst, eIf, bAnd, bOr, bNot, tst, allD, viewT, viewL, viewX, tyD, isiB, hName, hTup, hsCons, hsNil, iSeq, wipeS, sAsg, gLe, gLt, gGe, gGt, gSub, gI20, gIsN, gNotN, gNotB, newL, eCut, ePart, gCut, iZip2, sFor, iAny, gIntA, gInA, gMulA, gEqA, gNeA, eqvD]
  | n, .int b, _ => by simp [eV_app, startS, eIsi, eNot, eAnd, eOr, eChain, sRet, sSeq, sSet, sIf, sNx, sDrop, sRaise, sRetN, aCons, eB, eCall, eTup, eLst, eIf, bAnd, bOr, bNot, tst, allD, viewT, viewL, viewX, tyD, isiB, hName, hTup, hsCons, hsNil, iSeq, wipeS, sAsg, gLe, gLt, gGe, gGt, gSub, gI20, gIsN, gNotN, gNotB, newL, eCut, ePart, gCut, iZip2, sFor, iAny, gIntA, gInA, gMulA, gEqA, gNeA, eqvD]
  | n, .str b, _ => by simp [eV_app, startS, eIsi, eNot, eAnd, eOr, eChain, sRet, sSeq, sSet, sIf, sNx, sDrop, sRaise, sRetN, aCons, eB, eCall, eTup, eLst, eIf, bAnd, bOr, bNot, tst, allD, viewT, viewL, viewX, tyD, isiB, hName, hTup, hsCons, hsNil, iSeq, wipeS, sAsg, gLe, gLt, gGe, gGt, gSub, gI20, gIsN, gNotN, gNotB, newL, eCut, ePart, gCut, iZip2, sFor, iAny, gIntA, gInA, gMulA, gEqA, gNeA, eqvD]
  | 0, .tup _, h => by simp [eV_app, startS, eIsi, eNot, eAnd, eOr, eChain, sRet, sSeq, sSet, sIf, sNx, sDrop, sRaise, sRetN, aCons, eB, eCall, eTup, eLst, eIf, bAnd, bOr, bNot, tst, allD, viewT, viewL, viewX, tyD, isiB, hName, hTup, hsCons, hsNil, iSeq, wipeS, sAsg, gLe, gLt, gGe, gGt, gSub, gI20, gIsN, gNotN, gNotB, newL, eCut, ePart, gCut, iZip2, sFor, iAny, gIntA, gInA, gMulA, gEqA, gNeA, okD] at h
  | 0, .lst _, h => by simp [eV_app, startS, eIsi, eNot, eAnd, eOr, eChain, sRet, sSeq, sSet, sIf, sNx, sDrop, sRaise, sRetN, aCons, eB, eCall, eTup, eLst, eIf, bAnd, bOr, bNot, tst, allD, viewT, viewL, viewX, tyD, isiB, hName, hTup, hsCons, hsNil, iSeq, wipeS, sAsg, gLe, gLt, gGe, gGt, gSub, gI20, gIsN, gNotN, gNotB, newL, eCut, ePart, gCut, iZip2, sFor, iAny, gIntA, gInA, gMulA, gEqA, gNeA, okD] at h
  | n + 1, .tup ds, h => by simp only [eqvD]; exact eqvDs_refl n ds (by simpa [eV_app, startS, eIsi, eNot, eAnd, eOr, eChain, sRet, sSeq, sSet, sIf, sNx, sDrop, sRaise, sRetN, aCons, eB, eCall, eTup, eLst, eIf, bAnd, bOr, bNot, tst, allD, viewT, viewL, viewX, tyD, isiB, hName, hTup, hsCons, hsNil, iSeq, wipeS, sAsg, gLe, gLt, gGe, gGt, gSub, gI20, gIsN, gNotN, gNotB, newL, eCut, ePart, gCut, iZip2, sFor, iAny, gIntA, gInA, gMulA, gEqA, gNeA, okD] using h)
  | n + 1, .lst ds, h => by simp only [eqvD]; exact eqvDs_refl n ds (by simpa [eV_app, startS, eIsi, eNot, eAnd, eOr, eChain, sRet, sSeq, sSet, sIf, sNx, sDrop, sRaise, sRetN, aCons, eB, eCall, eTup, eLst, eIf, bAnd, bOr, bNot, tst, allD, viewT, viewL, viewX, tyD, isiB, hName, hTup, hsCons, hsNil, iSeq, wipeS, sAsg, gLe, gLt, gGe, gGt, gSub, gI20, gIsN, gNotN, gNotB, newL, eCut, ePart, gCut, iZip2, sFor, iAny, gIntA, gInA, gMulA, gEqA, gNeA, okD] using h)
  | n, .dct _, h => by cases n <;> simp [eV_app, startS, eIsi, eNot, eAnd, eOr, eChain, sRet, sSeq, sSet, sIf, sNx, sDrop, sRaise, sRetN, aCons, eB, eCall, eTup, eLst, eIf, bAnd, bOr, bNot, tst, allD, viewT, viewL, viewX, tyD, isiB, hName, hTup, hsCons, hsNil, iSeq, wipeS, sAsg, gLe, gLt, gGe, gGt, gSub, gI20, gIsN, gNotN, gNotB, newL, eCut, ePart, gCut, iZip2, sFor, iAny, gIntA, gInA, gMulA, gEqA, gNeA, okD] at h
  | n, .scr _, h => by cases n <;> simp [eV_app, startS, eIsi, eNot, eAnd, eOr, eChain, sRet, sSeq, sSet, sIf, sNx, sDrop, sRaise, sRetN, aCons, eB, eCall, eTup, eLst, eIf, bAnd, bOr, bNot, tst, allD, viewT, viewL, viewX, tyD, isiB, hName, hTup, hsCons, hsNil, iSeq, wipeS, sAsg, gLe, gLt, gGe, gGt, gSub, gI20, gIsN, gNotN, gNotB, newL, eCut, ePart, gCut, iZip2, sFor, iAny, gIntA, gInA, gMulA, gEqA, gNeA, okD] at h
theorem eqvDs_refl : ∀ (n : Nat) (ds : List D), okDs n ds = true → eqvDs ds ds = true
  | _, [], _ => rfl
  | n, d :: ds, h => by
    have h : okD n d = true ∧ okDs n ds = true := by simpa [eV_app, startS, eIsi, eNot, eAnd, eOr, eChain, sRet, sSeq, sSet, sIf, sNx, sDrop, sRaise, sRetN, aCons, eB, eCall, eTup, eLst, eIf, bAnd, bOr, bNot, tst, allD, viewT, viewL, viewX, tyD, isiB, hName, hTup, hsCons, hsNil, iSeq, wipeS, sAsg, gLe, gLt, gGe, gGt, gSub, gI20, gIsN, gNotN, gNotB, newL, eCut, ePart, gCut, iZip2, sFor, iAny, gIntA, gInA, gMulA, gEqA, gNeA, okDs] using h
    simp only [eqvDs, eqvD_refl n d h.1, eqvDs_refl n ds h.2, Bool.and_self]
end
theorem gNe_same {x : D} {μ : List MO} (h : okD 20 x = true) : gNe (.d x) (.d x) μ = some (.ok (.d (.bl false)) μ) := by
  simp [eV_app, startS, eIsi, eNot, eAnd, eOr, eChain, sRet, sSeq, sSet, sIf, sNx, sDrop, sRaise, sRetN, aCons, eB, eCall, eTup, eLst, eIf, bAnd, bOr, bNot, tst, allD, viewT, viewL, viewX, tyD, isiB, hName, hTup, hsCons, hsNil, iSeq, wipeS, sAsg, gLe, gLt, gGe, gGt, gSub, gI20, gIsN, gNotN, gNotB, newL, eCut, ePart, gCut, iZip2, sFor, iAny, gIntA, gInA, gMulA, gEqA, gNeA, gNe, toD, h, eqvD_refl 20 x h]
theorem gEq_same {x : D} {μ : List MO} (h : okD 20 x = true) : gEq (.d x) (.d x) μ = some (.ok (.d (.bl true)) μ) := by
  simp [eV_app, startS, eIsi, eNot, eAnd, eOr, eChain, sRet, sSeq, sSet, sIf, sNx, sDrop, sRaise, sRetN, aCons, eB, eCall, eTup, eLst, eIf, bAnd, bOr, bNot, tst, allD, viewT, viewL, viewX, tyD, isiB, hName, hTup, hsCons, hsNil, iSeq, wipeS, sAsg, gLe, gLt, gGe, gGt, gSub, gI20, gIsN, gNotN, gNotB, newL, eCut, ePart, gCut, iZip2, sFor, iAny, gIntA, gInA, gMulA, gEqA, gNeA, gEq, toD, h, eqvD_refl 20 x h]
theorem gNe_bl {x y : Bool} {μ : List MO} : gNe (.d (.bl x)) (.d (.bl y)) μ = some (.ok (.d (.bl (x != y))) μ) := by
  cases x <;> cases y <;> rfl
theorem gEq_bl {x y : Bool} {μ : List MO} : gEq (.d (.bl x)) (.d (.bl y)) μ = some (.ok (.d (.bl (x == y))) μ) := by
  cases x <;> cases y <;> rfl
theorem eLc_st {α β : Type} {vs : List Nat} {fi : IF} {h : TF} {e : EF} {ρ : List S} {μ : List MO} (M : β → List MO) (I : Nat → β → Prop) (it : α → D) (G : α → D → Prop) (xs : List α) (k : Nat) (b : β) (hI : I k b) (hi : fi ρ μ = some (.ok (xs.map it) (M b))) (hl : xs.length ≤ cap)
    (hx : ∀ x ∈ xs, ∀ (j : Nat) (b : β), k ≤ j → j < k + xs.length → I j b → ∃ ρ1 y b', h (it x) (wipeS ρ vs) = some ρ1 ∧ e ρ1 (M b) = some (.ok (.d y) (M b')) ∧ G x y ∧ I (j + 1) b') :
    ∃ ys b', eLc false vs fi h bYes e ρ μ = some (.ok (.d (.lst ys)) (M b')) ∧ I (k + xs.length) b' ∧ ys.length = xs.length ∧ ∀ (i : Nat) x y, xs[i]? = some x → ys[i]? = some y → G x y := by
  obtain ⟨ys, b', e1, e2, e3, e4⟩ := lcF_state M I it G xs [] k b hI hx
  refine ⟨ys, b', ?_, e2, e3, e4⟩
  unfold eLc
  simp only [hi, List.length_map, if_pos hl, e1, List.nil_append]
  rfl
theorem sIf_no {c : BF} {a b : SF} {ρ : List S} {μ μ1 : List MO} {r : Option SR} (h : c ρ μ = some (.ok false μ1)) (hb : b ρ μ1 = r) : sIf c a b ρ μ = r := by
  simp only [sIf, h]; exact hb
end K05
end

section
set_option linter.all false
set_option maxRecDepth 100000
set_option maxHeartbeats 1000000
namespace K05
open PySem DL
/-- the dice: counters up to N -/
structure Dice where
  a : Int
  b : Int
  c : Int
def Dice.mo (d : Dice) : MO := .ml [.int d.a, .int d.b, .int d.c]
def Dice.Ok (N : Nat) (d : Dice) : Prop := 0 ≤ d.a ∧ 0 ≤ d.b ∧ d.b < 2147480009 ∧ 0 ≤ d.c ∧ d.c ≤ N
/-- a store whose i-th object is the dice -/
structure Sto (M : Dice → List MO) (i : Nat) : Prop where
  get : ∀ d, (M d)[i]? = some d.mo
  set : ∀ d e, (M d).set i (Dice.mo e) = M e
theorem Sto.len {M : Dice → List MO} {i : Nat} (h : Sto M i) (d e : Dice) : (M d).length = (M e).length := by rw [← h.set d e, List.length_set]
theorem Sto.take {M : Dice → List MO} {i : Nat} (h : Sto M i) (d e : Dice) : (M e).take (M d).length = M e := by rw [h.len d e, List.take_length]
theorem ixN3 : L2.ixN 3 0 = some 0 ∧ L2.ixN 3 1 = some 1 ∧ L2.ixN 3 2 = some 2 := ⟨rfl, rfl, rfl⟩
theorem ix3 (x y z : D) : L2.atI [x, y, z] 0 = some x ∧ L2.atI [x, y, z] 1 = some y ∧ L2.atI [x, y, z] 2 = some z := ⟨rfl, rfl, rfl⟩
theorem s_roll {M : Dice → List MO} {i : Nat} (hM : Sto M i) {N : Nat} {d : Dice} {t : Int} (hd : d.Ok N) (ht : 0 < t) (ht2 : t < 1073741824) (hN : N < 1000000000) : ∃ r e, g__law_roll [.m i, .d (.int t)] (M d) = some (.ok (.d (.int r)) (M e)) ∧ 0 ≤ r ∧ r < t ∧ e.Ok (N + 1) := by
  obtain ⟨a, b, c⟩ := d
  obtain ⟨h1, h2, h3, h4, h5⟩ := hd
  dsimp only at h1 h2 h3 h4 h5
  have hg := hM.get ⟨a, b, c⟩
  by_cases ha : 0 < a
  · refine ⟨a % t, ⟨a / t, b, c⟩, ?_, Int.emod_nonneg _ (by omega), Int.emod_lt_of_pos _ ht, ⟨Int.ediv_nonneg h1 (by omega), h2, h3, h4, by show c ≤ _; push_cast; omega⟩⟩
    have hs := hM.set ⟨a, b, c⟩ ⟨a / t, b, c⟩
    simp [eV_app, startS, eIsi, eNot, eAnd, eOr, eChain, sRet, sSeq, sSet, sIf, sNx, sDrop, sRaise, sRetN, aCons, eB, eCall, eTup, eLst, eIf, bAnd, bOr, bNot, tst, allD, viewT, viewL, viewX, tyD, isiB, hName, hTup, hsCons, hsNil, iSeq, wipeS, sAsg, gLe, gLt, gGe, gGt, gSub, gI20, gIsN, gNotN, gNotB, newL, eCut, ePart, gCut, iZip2, sFor, iAny, gIntA, gInA, gMulA, gEqA, gNeA, g__law_roll, fb__law_roll, gIx, hg, Dice.mo, ix3, ixN3, ha, gInt, gMod, gI2, ht, sSetItem, gFdiv, ht2] at hs ⊢
    rw [hs]
    simp [eV_app, startS, eIsi, eNot, eAnd, eOr, eChain, sRet, sSeq, sSet, sIf, sNx, sDrop, sRaise, sRetN, aCons, eB, eCall, eTup, eLst, eIf, bAnd, bOr, bNot, tst, allD, viewT, viewL, viewX, tyD, isiB, hName, hTup, hsCons, hsNil, iSeq, wipeS, sAsg, gLe, gLt, gGe, gGt, gSub, gI20, gIsN, gNotN, gNotB, newL, eCut, ePart, gCut, iZip2, sFor, iAny, gIntA, gInA, gMulA, gEqA, gNeA, hM.take]
  · have ha0 : a = 0 := by omega
    subst ha0
    have hs1 := hM.set ⟨0, b, c⟩ ⟨0, b, c + 1⟩
    have hg1 := hM.get ⟨0, b, c + 1⟩
    have e1 : small64B 52501 = true := by decide
    have e2 : small64B 1009 = true := by decide
    have e3 : small64B (c + 1) = true := by
      simp only [small64B, Bool.and_eq_true, decide_eq_true_eq]
      omega
    have hs2 := hM.set ⟨0, b, c + 1⟩ ⟨0, (b * 52501 + (c + 1) * (c + 1) * 1009 + 77) % 2147480009, c + 1⟩
    have hg2 := hM.get ⟨0, (b * 52501 + (c + 1) * (c + 1) * 1009 + 77) % 2147480009, c + 1⟩
    refine ⟨((b * 52501 + (c + 1) * (c + 1) * 1009 + 77) % 2147480009 / 211) % t, ⟨0, (b * 52501 + (c + 1) * (c + 1) * 1009 + 77) % 2147480009, c + 1⟩, ?_, Int.emod_nonneg _ (by omega), Int.emod_lt_of_pos _ ht, ⟨by show (0 : Int) ≤ 0; omega, Int.emod_nonneg _ (by omega), Int.emod_lt_of_pos _ (by omega), by show 0 ≤ c + 1; omega, by show c + 1 ≤ _; push_cast; omega⟩⟩
    simp only [Dice.mo] at hs1 hg1 hs2 hg2 hg
    simp [eV_app, startS, eIsi, eNot, eAnd, eOr, eChain, sRet, sSeq, sSet, sIf, sNx, sDrop, sRaise, sRetN, aCons, eB, eCall, eTup, eLst, eIf, bAnd, bOr, bNot, tst, allD, viewT, viewL, viewX, tyD, isiB, hName, hTup, hsCons, hsNil, iSeq, wipeS, sAsg, gLe, gLt, gGe, gGt, gSub, gI20, gIsN, gNotN, gNotB, newL, eCut, ePart, gCut, iZip2, sFor, iAny, gIntA, gInA, gMulA, gEqA, gNeA, g__law_roll, fb__law_roll, gIx, hg, ix3, ixN3, gInt, gMod, gI2, ht, sSetItem, gFdiv, gAdd]
    rw [hs1]
    simp [eV_app, startS, eIsi, eNot, eAnd, eOr, eChain, sRet, sSeq, sSet, sIf, sNx, sDrop, sRaise, sRetN, aCons, eB, eCall, eTup, eLst, eIf, bAnd, bOr, bNot, tst, allD, viewT, viewL, viewX, tyD, isiB, hName, hTup, hsCons, hsNil, iSeq, wipeS, sAsg, gLe, gLt, gGe, gGt, gSub, gI20, gIsN, gNotN, gNotB, newL, eCut, ePart, gCut, iZip2, sFor, iAny, gIntA, gInA, gMulA, gEqA, gNeA, gIx, hg1, ix3, ixN3, gInt, gMod, gI2, ht, sSetItem, gFdiv, gAdd, gMul, e1, e2, e3]
    rw [hs2]
    simp [eV_app, startS, eIsi, eNot, eAnd, eOr, eChain, sRet, sSeq, sSet, sIf, sNx, sDrop, sRaise, sRetN, aCons, eB, eCall, eTup, eLst, eIf, bAnd, bOr, bNot, tst, allD, viewT, viewL, viewX, tyD, isiB, hName, hTup, hsCons, hsNil, iSeq, wipeS, sAsg, gLe, gLt, gGe, gGt, gSub, gI20, gIsN, gNotN, gNotB, newL, eCut, ePart, gCut, iZip2, sFor, iAny, gIntA, gInA, gMulA, gEqA, gNeA, gIx, hg2, ix3, ixN3, gInt, gMod, gI2, ht, gFdiv, hM.take]
theorem atI_lt {α : Type} {ds : List α} {r : Int} (h0 : 0 ≤ r) (h1 : r < ds.length) : ∃ x, L2.atI ds r = some x ∧ x ∈ ds ∧ ds[r.toNat]? = some x := by
  have hlt : r.toNat < ds.length := by omega
  have e : L2.ixN ds.length r = some r.toNat := by
    unfold L2.ixN
    first
      | (rw [if_pos (by omega)])
      | (simp [eV_app, startS, eIsi, eNot, eAnd, eOr, eChain, sRet, sSeq, sSet, sIf, sNx, sDrop, sRaise, sRetN, aCons, eB, eCall, eTup, eLst, eIf, bAnd, bOr, bNot, tst, allD, viewT, viewL, viewX, tyD, isiB, hName, hTup, hsCons, hsNil, iSeq, wipeS, sAsg, gLe, gLt, gGe, gGt, gSub, gI20, gIsN, gNotN, gNotB, newL, eCut, ePart, gCut, iZip2, sFor, iAny, gIntA, gInA, gMulA, gEqA, gNeA]; omega)
      | skip
    all_goals first | rfl | (simp [eV_app, startS, eIsi, eNot, eAnd, eOr, eChain, sRet, sSeq, sSet, sIf, sNx, sDrop, sRaise, sRetN, aCons, eB, eCall, eTup, eLst, eIf, bAnd, bOr, bNot, tst, allD, viewT, viewL, viewX, tyD, isiB, hName, hTup, hsCons, hsNil, iSeq, wipeS, sAsg, gLe, gLt, gGe, gGt, gSub, gI20, gIsN, gNotN, gNotB, newL, eCut, ePart, gCut, iZip2, sFor, iAny, gIntA, gInA, gMulA, gEqA, gNeA]; omega) | skip
  refine ⟨ds[r.toNat], ?_, List.getElem_mem _, List.getElem?_eq_getElem hlt⟩
  unfold L2.atI
  rw [e]
  exact List.getElem?_eq_getElem hlt
theorem s_pick {M : Dice → List MO} {i : Nat} (hM : Sto M i) {N : Nat} {d : Dice} {ds : List D} (hd : d.Ok N) (hN : N < 1000000000) (h0 : ds ≠ []) (h1 : ds.length ≤ 1000) : ∃ x e, g__law_pick [.m i, .d (.lst ds)] (M d) = some (.ok (.d x) (M e)) ∧ x ∈ ds ∧ e.Ok (N + 1) := by
  have hl : 0 < ds.length := List.length_pos_iff.mpr h0
  obtain ⟨r, e, h2, h3, h4, h5⟩ := s_roll hM (t := ds.length) hd (by omega) (by omega) hN
  obtain ⟨x, hx, hm, _⟩ := atI_lt h3 h4
  refine ⟨x, e, ?_, hm, h5⟩
  simp [eV_app, startS, eIsi, eNot, eAnd, eOr, eChain, sRet, sSeq, sSet, sIf, sNx, sDrop, sRaise, sRetN, aCons, eB, eCall, eTup, eLst, eIf, bAnd, bOr, bNot, tst, allD, viewT, viewL, viewX, tyD, isiB, hName, hTup, hsCons, hsNil, iSeq, wipeS, sAsg, gLe, gLt, gGe, gGt, gSub, gI20, gIsN, gNotN, gNotB, newL, eCut, ePart, gCut, iZip2, sFor, iAny, gIntA, gInA, gMulA, gEqA, gNeA, g__law_pick, fb__law_pick, gLen, h2, gIx, hx, hM.take]
theorem Ok_mono {N N' : Nat} {d : Dice} (h : d.Ok N) (hn : N ≤ N') : d.Ok N' := by
  obtain ⟨a1, a2, a3, a4, a5⟩ := h
  exact ⟨a1, a2, a3, a4, by omega⟩
theorem atI_map {α : Type} (f : α → D) {xs : List α} {r : Int} (h0 : 0 ≤ r) (h1 : r < xs.length) : ∃ x, xs[r.toNat]? = some x ∧ L2.atI (xs.map f) r = some (f x) := by
  obtain ⟨y, b1, _, b2⟩ := atI_lt (ds := xs.map f) (r := r) h0 (by simpa [eV_app, startS, eIsi, eNot, eAnd, eOr, eChain, sRet, sSeq, sSet, sIf, sNx, sDrop, sRaise, sRetN, aCons, eB, eCall, eTup, eLst, eIf, bAnd, bOr, bNot, tst, allD, viewT, viewL, viewX, tyD, isiB, hName, hTup, hsCons, hsNil, iSeq, wipeS, sAsg, gLe, gLt, gGe, gGt, gSub, gI20, gIsN, gNotN, gNotB, newL, eCut, ePart, gCut, iZip2, sFor, iAny, gIntA, gInA, gMulA, gEqA, gNeA] using h1)
  have hlt : r.toNat < xs.length := by omega
  refine ⟨xs[r.toNat], List.getElem?_eq_getElem hlt, ?_⟩
  rw [List.getElem?_map, List.getElem?_eq_getElem hlt] at b2
  rw [b1, ← b2]; rfl
theorem dice_body {a b : S} {own m c : Int} {μ : List MO} : lb__law_dice_0 [a, b, .d (.int own), .d (.int m), .d (.int c)] μ = some (.nx [a, b, .d (.int own), .d (.int ((m * 48271 + c) % 2147480009)), .d (.int c)] μ) := by
  have e1 : small64B 48271 = true := by decide
  simp [eV_app, startS, eIsi, eNot, eAnd, eOr, eChain, sRet, sSeq, sSet, sIf, sNx, sDrop, sRaise, sRetN, aCons, eB, eCall, eTup, eLst, eIf, bAnd, bOr, bNot, tst, allD, viewT, viewL, viewX, tyD, isiB, hName, hTup, hsCons, hsNil, iSeq, wipeS, sAsg, gLe, gLt, gGe, gGt, gSub, gI20, gIsN, gNotN, gNotB, newL, eCut, ePart, gCut, iZip2, sFor, iAny, gIntA, gInA, gMulA, gEqA, gNeA, lb__law_dice_0, gMul, e1, gInt, gMod, gAdd, gI2]
theorem dice_loop {a b : S} {own : Int} {μ : List MO} : ∀ (cs : List Int) (m : Int) (c0 : S), ∃ (m' : Int) (c : S), forF (hName 4) lb__law_dice_0 (cs.map .int) [a, b, .d (.int own), .d (.int m), c0] μ = some (.nx [a, b, .d (.int own), .d (.int m'), c] μ) ∧ (cs ≠ [] → 0 ≤ m' ∧ m' < 2147480009)
  | [], m, c0 => ⟨m, c0, by simp [eV_app, startS, eIsi, eNot, eAnd, eOr, eChain, sRet, sSeq, sSet, sIf, sNx, sDrop, sRaise, sRetN, aCons, eB, eCall, eTup, eLst, eIf, bAnd, bOr, bNot, tst, allD, viewT, viewL, viewX, tyD, isiB, hName, hTup, hsCons, hsNil, iSeq, wipeS, sAsg, gLe, gLt, gGe, gGt, gSub, gI20, gIsN, gNotN, gNotB, newL, eCut, ePart, gCut, iZip2, sFor, iAny, gIntA, gInA, gMulA, gEqA, gNeA, forF], by simp [eV_app, startS, eIsi, eNot, eAnd, eOr, eChain, sRet, sSeq, sSet, sIf, sNx, sDrop, sRaise, sRetN, aCons, eB, eCall, eTup, eLst, eIf, bAnd, bOr, bNot, tst, allD, viewT, viewL, viewX, tyD, isiB, hName, hTup, hsCons, hsNil, iSeq, wipeS, sAsg, gLe, gLt, gGe, gGt, gSub, gI20, gIsN, gNotN, gNotB, newL, eCut, ePart, gCut, iZip2, sFor, iAny, gIntA, gInA, gMulA, gEqA, gNeA]⟩
  | x :: cs, m, c0 => by
    obtain ⟨m', c, h1, h2⟩ := dice_loop (a := a) (b := b) (own := own) (μ := μ) cs ((m * 48271 + x) % 2147480009) (.d (.int x))
    refine ⟨m', c, ?_, fun _ => ?_⟩
    · rw [List.map_cons]
      unfold forF
      simp [eV_app, startS, eIsi, eNot, eAnd, eOr, eChain, sRet, sSeq, sSet, sIf, sNx, sDrop, sRaise, sRetN, aCons, eB, eCall, eTup, eLst, eIf, bAnd, bOr, bNot, tst, allD, viewT, viewL, viewX, tyD, isiB, hName, hTup, hsCons, hsNil, iSeq, wipeS, sAsg, gLe, gLt, gGe, gGt, gSub, gI20, gIsN, gNotN, gNotB, newL, eCut, ePart, gCut, iZip2, sFor, iAny, gIntA, gInA, gMulA, gEqA, gNeA, dice_body, h1]
    · by_cases hc : cs = []
      · subst hc
        simp [eV_app, startS, eIsi, eNot, eAnd, eOr, eChain, sRet, sSeq, sSet, sIf, sNx, sDrop, sRaise, sRetN, aCons, eB, eCall, eTup, eLst, eIf, bAnd, bOr, bNot, tst, allD, viewT, viewL, viewX, tyD, isiB, hName, hTup, hsCons, hsNil, iSeq, wipeS, sAsg, gLe, gLt, gGe, gGt, gSub, gI20, gIsN, gNotN, gNotB, newL, eCut, ePart, gCut, iZip2, sFor, iAny, gIntA, gInA, gMulA, gEqA, gNeA, forF] at h1
        obtain ⟨rfl, _⟩ := h1
        exact ⟨Int.emod_nonneg _ (by omega), Int.emod_lt_of_pos _ (by omega)⟩
      · exact h2 hc
theorem s_dice {ns : List Int} {spot : Nat} {μ : List MO} (hl : ns.length ≤ 63) (hs : spot ≤ 10) : ∃ d : Dice, d.Ok 0 ∧ g__law_dice [.d (.scr ns), .d (.int spot)] μ = some (.ok (.m μ.length) (μ ++ [d.mo])) := by
  have e1 : small64B 733 = true := by decide
  have e3 : small64B 7907 = true := by decide
  have key : ∀ own : Int, (if (spot : Int) < ns.length then L2.atI ns spot = some own else own = 733 * spot + 29) → ∃ d : Dice, d.Ok 0 ∧ g__law_dice [.d (.scr ns), .d (.int spot)] μ = some (.ok (.m μ.length) (μ ++ [d.mo])) := fun own ho => by
    obtain ⟨m', c, h1, h2⟩ := dice_loop (a := .d (.scr ns)) (b := .d (.int spot)) (own := own) (μ := μ) (ns.take 6 ++ [own]) (910003 + 7907 * spot) .un
    obtain ⟨h2, h3⟩ := h2 (by simp [eV_app, startS, eIsi, eNot, eAnd, eOr, eChain, sRet, sSeq, sSet, sIf, sNx, sDrop, sRaise, sRetN, aCons, eB, eCall, eTup, eLst, eIf, bAnd, bOr, bNot, tst, allD, viewT, viewL, viewX, tyD, isiB, hName, hTup, hsCons, hsNil, iSeq, wipeS, sAsg, gLe, gLt, gGe, gGt, gSub, gI20, gIsN, gNotN, gNotB, newL, eCut, ePart, gCut, iZip2, sFor, iAny, gIntA, gInA, gMulA, gEqA, gNeA])
    have ecut : cutD (ns.map D.int) none (some 6) = (ns.take 6).map D.int := by rw [cutD_to (by decide), List.map_take]; rfl
    have h24 : min 6 ns.length + 1 ≤ small24 := by unfold small24; omega
    simp only [List.map_append, List.map_cons, List.map_nil] at h1
    have hown : (eIf (tst (e2 gLt (eV 1) (eB gLen (aCons (eV 0) aNil)))) (e2 gIx (eV 0) (eV 1)) (e2 (gAdd false) (e2 (gMulA false) (eC (.int 733)) (eV 1)) (eC (.int 29)))) [.d (.scr ns), .d (.int spot), .un, .un, .un] μ = some (.ok (.d (.int own)) μ) := by
      by_cases h : (spot : Int) < ns.length
      · rw [if_pos h] at ho
        have : L2.atI (ns.map D.int) spot = some (.int own) := by
          obtain ⟨x, a1, _, a2⟩ := atI_lt (ds := ns) (by omega) h
          obtain ⟨y, b1, _, b2⟩ := atI_lt (ds := ns.map D.int) (r := spot) (by omega) (by simpa [eV_app, startS, eIsi, eNot, eAnd, eOr, eChain, sRet, sSeq, sSet, sIf, sNx, sDrop, sRaise, sRetN, aCons, eB, eCall, eTup, eLst, eIf, bAnd, bOr, bNot, tst, allD, viewT, viewL, viewX, tyD, isiB, hName, hTup, hsCons, hsNil, iSeq, wipeS, sAsg, gLe, gLt, gGe, gGt, gSub, gI20, gIsN, gNotN, gNotB, newL, eCut, ePart, gCut, iZip2, sFor, iAny, gIntA, gInA, gMulA, gEqA, gNeA] using h)
          rw [ho] at a1; cases a1
          rw [List.getElem?_map, a2] at b2
          rw [b1, ← b2]; rfl
        simp [eV_app, startS, eIsi, eNot, eAnd, eOr, eChain, sRet, sSeq, sSet, sIf, sNx, sDrop, sRaise, sRetN, aCons, eB, eCall, eTup, eLst, eIf, bAnd, bOr, bNot, tst, allD, viewT, viewL, viewX, tyD, isiB, hName, hTup, hsCons, hsNil, iSeq, wipeS, sAsg, gLe, gLt, gGe, gGt, gSub, gI20, gIsN, gNotN, gNotB, newL, eCut, ePart, gCut, iZip2, sFor, iAny, gIntA, gInA, gMulA, gEqA, gNeA, gLen, h, gIx, this]
      · rw [if_neg h] at ho
        subst ho
        simp [eV_app, startS, eIsi, eNot, eAnd, eOr, eChain, sRet, sSeq, sSet, sIf, sNx, sDrop, sRaise, sRetN, aCons, eB, eCall, eTup, eLst, eIf, bAnd, bOr, bNot, tst, allD, viewT, viewL, viewX, tyD, isiB, hName, hTup, hsCons, hsNil, iSeq, wipeS, sAsg, gLe, gLt, gGe, gGt, gSub, gI20, gIsN, gNotN, gNotB, newL, eCut, ePart, gCut, iZip2, sFor, iAny, gIntA, gInA, gMulA, gEqA, gNeA, gLen, h, gMul, e1, gAdd]
    have hv : (eIf (bOr (tst (e2 gLt (eV 2) (eC (.int 0)))) (tst (e2 gGe (eV 2) (e2 (gPow) (eC (.int 10)) (eC (.int 16)))))) (eB (gAbs) (aCons (eV 2) aNil)) (eC (.int 0))) [.d (.scr ns), .d (.int spot), .d (.int own), .d (.int m'), c] μ = some (.ok (.d (.int (if own < 0 ∨ 10 ^ 16 ≤ own then own.natAbs else 0))) μ) := by
      by_cases h5 : own < 0
      · simp [eV_app, startS, eIsi, eNot, eAnd, eOr, eChain, sRet, sSeq, sSet, sIf, sNx, sDrop, sRaise, sRetN, aCons, eB, eCall, eTup, eLst, eIf, bAnd, bOr, bNot, tst, allD, viewT, viewL, viewX, tyD, isiB, hName, hTup, hsCons, hsNil, iSeq, wipeS, sAsg, gLe, gLt, gGe, gGt, gSub, gI20, gIsN, gNotN, gNotB, newL, eCut, ePart, gCut, iZip2, sFor, iAny, gIntA, gInA, gMulA, gEqA, gNeA, h5, gAbs]
      · by_cases h6 : (10000000000000000 : Int) ≤ own
        · simp [eV_app, startS, eIsi, eNot, eAnd, eOr, eChain, sRet, sSeq, sSet, sIf, sNx, sDrop, sRaise, sRetN, aCons, eB, eCall, eTup, eLst, eIf, bAnd, bOr, bNot, tst, allD, viewT, viewL, viewX, tyD, isiB, hName, hTup, hsCons, hsNil, iSeq, wipeS, sAsg, gLe, gLt, gGe, gGt, gSub, gI20, gIsN, gNotN, gNotB, newL, eCut, ePart, gCut, iZip2, sFor, iAny, gIntA, gInA, gMulA, gEqA, gNeA, h5, h6, gAbs, gPow, gI2]
        · simp [eV_app, startS, eIsi, eNot, eAnd, eOr, eChain, sRet, sSeq, sSet, sIf, sNx, sDrop, sRaise, sRetN, aCons, eB, eCall, eTup, eLst, eIf, bAnd, bOr, bNot, tst, allD, viewT, viewL, viewX, tyD, isiB, hName, hTup, hsCons, hsNil, iSeq, wipeS, sAsg, gLe, gLt, gGe, gGt, gSub, gI20, gIsN, gNotN, gNotB, newL, eCut, ePart, gCut, iZip2, sFor, iAny, gIntA, gInA, gMulA, gEqA, gNeA, h5, h6, gAbs, gPow, gI2]
    refine ⟨⟨if own < 0 ∨ 10 ^ 16 ≤ own then own.natAbs else 0, m', 0⟩, ⟨?_, h2, h3, by show (0 : Int) ≤ 0; omega, by show (0 : Int) ≤ _; omega⟩, ?_⟩
    · show (0 : Int) ≤ if own < 0 ∨ 10 ^ 16 ≤ own then (own.natAbs : Int) else 0
      split <;> omega
    · show finM μ.length (fb__law_dice [.d (.scr ns), .d (.int spot), .un, .un, .un] μ) = _
      generalize (if own < 0 ∨ 10 ^ 16 ≤ own then (own.natAbs : Int) else 0) = w at hv ⊢
      unfold fb__law_dice
      simp only [sSeq, sSet, hown, List.set_cons_succ, List.set_cons_zero]
      have hm : (e2 (gAdd false) (eC (.int 910003)) (e2 (gMulA false) (eC (.int 7907)) (eV 1))) [.d (.scr ns), .d (.int spot), .d (.int own), .un, .un] μ = some (.ok (.d (.int (910003 + 7907 * spot))) μ) := by simp [eV_app, startS, eIsi, eNot, eAnd, eOr, eChain, sRet, sSeq, sSet, sIf, sNx, sDrop, sRaise, sRetN, aCons, eB, eCall, eTup, eLst, eIf, bAnd, bOr, bNot, tst, allD, viewT, viewL, viewX, tyD, isiB, hName, hTup, hsCons, hsNil, iSeq, wipeS, sAsg, gLe, gLt, gGe, gGt, gSub, gI20, gIsN, gNotN, gNotB, newL, eCut, ePart, gCut, iZip2, sFor, iAny, gIntA, gInA, gMulA, gEqA, gNeA, gMul, e3, gAdd]
      have hi : iAny (e2 (gAdd false) (eCut false (eV 0) none (some (eC (.int 6)))) (eLst false (aCons (eV 2) aNil))) [.d (.scr ns), .d (.int spot), .d (.int own), .d (.int (910003 + 7907 * spot)), .un] μ = some (.ok ((ns.take 6).map .int ++ [.int own]) μ) := by
        simp [eV_app, startS, eIsi, eNot, eAnd, eOr, eChain, sRet, sSeq, sSet, sIf, sNx, sDrop, sRaise, sRetN, aCons, eB, eCall, eTup, eLst, eIf, bAnd, bOr, bNot, tst, allD, viewT, viewL, viewX, tyD, isiB, hName, hTup, hsCons, hsNil, iSeq, wipeS, sAsg, gLe, gLt, gGe, gGt, gSub, gI20, gIsN, gNotN, gNotB, newL, eCut, ePart, gCut, iZip2, sFor, iAny, gIntA, gInA, gMulA, gEqA, gNeA, ecut, gAdd, h24]
      simp only [hm, sFor, hi, h1, List.set_cons_succ, List.set_cons_zero]
      have ha := aCons_app (g := aCons (eV 3) (aCons (eC (.int 0)) aNil)) (ss := [.d (.int m'), .d (.int 0)]) (μ2 := μ) hv (by simp [eV_app, startS, eIsi, eNot, eAnd, eOr, eChain, sRet, sSeq, sSet, sIf, sNx, sDrop, sRaise, sRetN, aCons, eB, eCall, eTup, eLst, eIf, bAnd, bOr, bNot, tst, allD, viewT, viewL, viewX, tyD, isiB, hName, hTup, hsCons, hsNil, iSeq, wipeS, sAsg, gLe, gLt, gGe, gGt, gSub, gI20, gIsN, gNotN, gNotB, newL, eCut, ePart, gCut, iZip2, sFor, iAny, gIntA, gInA, gMulA, gEqA, gNeA])
      unfold sRet eLst
      simp only [ha]
      simp [eV_app, startS, eIsi, eNot, eAnd, eOr, eChain, sRet, sSeq, sSet, sIf, sNx, sDrop, sRaise, sRetN, aCons, eB, eCall, eTup, eLst, eIf, bAnd, bOr, bNot, tst, allD, viewT, viewL, viewX, tyD, isiB, hName, hTup, hsCons, hsNil, iSeq, wipeS, sAsg, gLe, gLt, gGe, gGt, gSub, gI20, gIsN, gNotN, gNotB, newL, eCut, ePart, gCut, iZip2, sFor, iAny, gIntA, gInA, gMulA, gEqA, gNeA, finM, Dice.mo]
  by_cases h : (spot : Int) < ns.length
  · obtain ⟨x, hx, _⟩ := atI_lt (ds := ns) (by omega) h
    exact key x (by rw [if_pos h]; exact hx)
  · exact key _ (by rw [if_neg h])
theorem sto_last (μ : List MO) : Sto (fun d => μ ++ [d.mo]) μ.length := ⟨fun d => get_last μ _, fun d e => set_last μ _ _⟩

/-! ### drawn machines -/
def b2i (b : Bool) : Int := if b then 1 else 0
theorem gMul_one {x : Int} {b : Bool} {μ : List MO} : gMul false (.d (.lst [.int x])) (.d (.int (if b = true then 1 else 0))) μ = some (.ok (.d (.lst ((if b then [x] else []).map .int))) μ) := by
  cases b <;> simp [eV_app, startS, eIsi, eNot, eAnd, eOr, eChain, sRet, sSeq, sSet, sIf, sNx, sDrop, sRaise, sRetN, aCons, eB, eCall, eTup, eLst, eIf, bAnd, bOr, bNot, tst, allD, viewT, viewL, viewX, tyD, isiB, hName, hTup, hsCons, hsNil, iSeq, wipeS, sAsg, gLe, gLt, gGe, gGt, gSub, gI20, gIsN, gNotN, gNotB, newL, eCut, ePart, gCut, iZip2, sFor, iAny, gIntA, gInA, gMulA, gEqA, gNeA, gMul]
def slotsOk (sl : List Int) : Prop := 1 ≤ sl.length ∧ sl.length ≤ 3 ∧ (∀ x ∈ sl, 0 ≤ x ∧ x ≤ 7) ∧ sl.Pairwise (· < ·)
theorem sorted_ok {l : List Int} (h1 : 1 ≤ l.length) (h3 : l.length ≤ 3) (hv : ∀ x ∈ l, 0 ≤ x ∧ x ≤ 7) : slotsOk (sortI (dedI l)) := by
  have hd := dedI_len l
  have hp := sortI_perm (dedI l)
  refine ⟨?_, ?_, fun x hx => hv x ((dedI_mem l x).mp (hp.mem_iff.mp hx)), ?_⟩
  · rw [hp.length_eq]
    obtain ⟨x, hx⟩ := List.exists_mem_of_length_pos (show 0 < l.length by omega)
    exact List.length_pos_of_mem ((dedI_mem l x).mpr hx)
  · rw [hp.length_eq]; omega
  · have h1 := sortI_sorted (dedI l)
    have h2 : (sortI (dedI l)).Nodup := hp.nodup_iff.mpr (dedI_nodup l)
    exact (h1.and h2).imp fun ⟨a, b⟩ => by omega
/-- a machine as it is drawn -/
def DrOk (m : List (List Int)) : Prop := ∀ sl ∈ m, slotsOk sl
theorem DrOk.mc {m : List (List Int)} (h : DrOk m) (h1 : 1 ≤ m.length) (h2 : m.length ≤ 6) : McOk m := ⟨h1, h2, fun sl hs => by
  obtain ⟨a, b, c, e⟩ := h sl hs
  exact ⟨a, by omega, c, ascB_pw.mpr e⟩⟩
theorem mach_body {M : Dice → List MO} {i : Nat} (hM : Sto M i) {N j : Nat} {d : Dice} {m : List (List Int)} {k x a4 a5 : S} (hd : d.Ok N) (hN : N + 10 < 1000000) (hj : ∀ e, (M e)[j]? = some (.ml (m.map tupI))) (hm : m.length < 1000) : ∃ e sl b4 b5, slotsOk sl ∧ e.Ok (N + 4) ∧
    lb__law_b_machine_0 [.m i, k, .m j, x, a4, a5] (M d) = some (.nx [.m i, k, .m j, x, b4, b5] ((M e).set j (.ml ((m ++ [sl]).map tupI)))) := by
  obtain ⟨r, d1, r1, r2, r3, r4⟩ := s_roll hM (t := 8) hd (by omega) (by omega) (by omega)
  obtain ⟨p, d2, p1, p2, p3, p4⟩ := s_roll hM (t := 2) r4 (by omega) (by omega) (by omega)
  obtain ⟨q, d3, q1, q2, q3, q4⟩ := s_roll hM (t := 8) p4 (by omega) (by omega) (by omega)
  obtain ⟨z, d4, z1, z2, z3, z4⟩ := s_roll hM (t := 4) q4 (by omega) (by omega) (by omega)
  have hl : ∀ (a b : Bool), (([r] ++ (if a then [min 7 (r + 1)] else [])) ++ (if b then [q] else [])).length ≤ 3 ∧ 1 ≤ (([r] ++ (if a then [min 7 (r + 1)] else [])) ++ (if b then [q] else [])).length := fun a b => by cases a <;> cases b <;> simp [eV_app, startS, eIsi, eNot, eAnd, eOr, eChain, sRet, sSeq, sSet, sIf, sNx, sDrop, sRaise, sRetN, aCons, eB, eCall, eTup, eLst, eIf, bAnd, bOr, bNot, tst, allD, viewT, viewL, viewX, tyD, isiB, hName, hTup, hsCons, hsNil, iSeq, wipeS, sAsg, gLe, gLt, gGe, gGt, gSub, gI20, gIsN, gNotN, gNotB, newL, eCut, ePart, gCut, iZip2, sFor, iAny, gIntA, gInA, gMulA, gEqA, gNeA]
  have hv : ∀ (a b : Bool), ∀ y ∈ (([r] ++ (if a then [min 7 (r + 1)] else [])) ++ (if b then [q] else [])), 0 ≤ y ∧ y ≤ 7 := fun a b y hy => by
    rcases List.mem_append.mp hy with hy | hy
    · rcases List.mem_append.mp hy with hy | hy
      · simp [eV_app, startS, eIsi, eNot, eAnd, eOr, eChain, sRet, sSeq, sSet, sIf, sNx, sDrop, sRaise, sRetN, aCons, eB, eCall, eTup, eLst, eIf, bAnd, bOr, bNot, tst, allD, viewT, viewL, viewX, tyD, isiB, hName, hTup, hsCons, hsNil, iSeq, wipeS, sAsg, gLe, gLt, gGe, gGt, gSub, gI20, gIsN, gNotN, gNotB, newL, eCut, ePart, gCut, iZip2, sFor, iAny, gIntA, gInA, gMulA, gEqA, gNeA] at hy; omega
      · cases a <;> simp [eV_app, startS, eIsi, eNot, eAnd, eOr, eChain, sRet, sSeq, sSet, sIf, sNx, sDrop, sRaise, sRetN, aCons, eB, eCall, eTup, eLst, eIf, bAnd, bOr, bNot, tst, allD, viewT, viewL, viewX, tyD, isiB, hName, hTup, hsCons, hsNil, iSeq, wipeS, sAsg, gLe, gLt, gGe, gGt, gSub, gI20, gIsN, gNotN, gNotB, newL, eCut, ePart, gCut, iZip2, sFor, iAny, gIntA, gInA, gMulA, gEqA, gNeA] at hy; omega
    · cases b <;> simp [eV_app, startS, eIsi, eNot, eAnd, eOr, eChain, sRet, sSeq, sSet, sIf, sNx, sDrop, sRaise, sRetN, aCons, eB, eCall, eTup, eLst, eIf, bAnd, bOr, bNot, tst, allD, viewT, viewL, viewX, tyD, isiB, hName, hTup, hsCons, hsNil, iSeq, wipeS, sAsg, gLe, gLt, gGe, gGt, gSub, gI20, gIsN, gNotN, gNotB, newL, eCut, ePart, gCut, iZip2, sFor, iAny, gIntA, gInA, gMulA, gEqA, gNeA] at hy; omega
  generalize hb1 : (p == 0) = b1 at *
  generalize hb2 : (z == 0) = b2 at *
  have ok := sorted_ok (hl b1 b2).2 (hl b1 b2).1 (hv b1 b2)
  generalize hL : (([r] ++ (if b1 then [min 7 (r + 1)] else [])) ++ (if b2 then [q] else [])) = l at *
  have hlen : l.length ≤ 3 := by rw [← hL]; exact (hl b1 b2).1
  have hde := dedI_len l
  refine ⟨d4, sortI (dedI l), .d (.int r), .d (.lst (l.map .int)), ok, z4, ?_⟩
  unfold lb__law_b_machine_0
  refine sSeq_nx (sSet_ok (s := .d (.int r)) (μ1 := M d1) (by simp [eV_app, startS, eIsi, eNot, eAnd, eOr, eChain, sRet, sSeq, sSet, sIf, sNx, sDrop, sRaise, sRetN, aCons, eB, eCall, eTup, eLst, eIf, bAnd, bOr, bNot, tst, allD, viewT, viewL, viewX, tyD, isiB, hName, hTup, hsCons, hsNil, iSeq, wipeS, sAsg, gLe, gLt, gGe, gGt, gSub, gI20, gIsN, gNotN, gNotB, newL, eCut, ePart, gCut, iZip2, sFor, iAny, gIntA, gInA, gMulA, gEqA, gNeA, r1])) ?_
  simp only [List.set_cons_succ, List.set_cons_zero]
  refine sSeq_nx (sSet_ok (s := .d (.lst (l.map .int))) (μ1 := M d4) ?_) ?_
  · have h1 : ∀ μ, gMul false (.d (.lst [.int (min 7 (r + 1))])) (.d (.int (if b1 = true then 1 else 0))) μ = _ := fun μ => gMul_one
    have h2 : ∀ μ, gMul false (.d (.lst [.int q])) (.d (.int (if b2 = true then 1 else 0))) μ = _ := fun μ => gMul_one
    have a1 : ∀ (xs ys : List Int) (μ : List MO), xs.length + ys.length ≤ 1000 → gAdd false (.d (.lst (xs.map .int))) (.d (.lst (ys.map .int))) μ = some (.ok (.d (.lst ((xs ++ ys).map .int))) μ) := fun xs ys μ hx => by
      have : xs.length + ys.length ≤ small24 := by unfold small24; omega
      simp [eV_app, startS, eIsi, eNot, eAnd, eOr, eChain, sRet, sSeq, sSet, sIf, sNx, sDrop, sRaise, sRetN, aCons, eB, eCall, eTup, eLst, eIf, bAnd, bOr, bNot, tst, allD, viewT, viewL, viewX, tyD, isiB, hName, hTup, hsCons, hsNil, iSeq, wipeS, sAsg, gLe, gLt, gGe, gGt, gSub, gI20, gIsN, gNotN, gNotB, newL, eCut, ePart, gCut, iZip2, sFor, iAny, gIntA, gInA, gMulA, gEqA, gNeA, gAdd, this]
    have e1 := a1 [r] (if b1 then [min 7 (r + 1)] else []) 
    have e2 := a1 ([r] ++ (if b1 then [min 7 (r + 1)] else [])) (if b2 then [q] else [])
    have l1 : [r].length + (if b1 then [min 7 (r + 1)] else []).length ≤ 1000 := by cases b1 <;> simp [eV_app, startS, eIsi, eNot, eAnd, eOr, eChain, sRet, sSeq, sSet, sIf, sNx, sDrop, sRaise, sRetN, aCons, eB, eCall, eTup, eLst, eIf, bAnd, bOr, bNot, tst, allD, viewT, viewL, viewX, tyD, isiB, hName, hTup, hsCons, hsNil, iSeq, wipeS, sAsg, gLe, gLt, gGe, gGt, gSub, gI20, gIsN, gNotN, gNotB, newL, eCut, ePart, gCut, iZip2, sFor, iAny, gIntA, gInA, gMulA, gEqA, gNeA]
    have l2 : ([r] ++ (if b1 then [min 7 (r + 1)] else [])).length + (if b2 then [q] else []).length ≤ 1000 := by cases b1 <;> cases b2 <;> simp [eV_app, startS, eIsi, eNot, eAnd, eOr, eChain, sRet, sSeq, sSet, sIf, sNx, sDrop, sRaise, sRetN, aCons, eB, eCall, eTup, eLst, eIf, bAnd, bOr, bNot, tst, allD, viewT, viewL, viewX, tyD, isiB, hName, hTup, hsCons, hsNil, iSeq, wipeS, sAsg, gLe, gLt, gGe, gGt, gSub, gI20, gIsN, gNotN, gNotB, newL, eCut, ePart, gCut, iZip2, sFor, iAny, gIntA, gInA, gMulA, gEqA, gNeA]
    simp only [List.map_cons, List.map_nil] at e1
    have g0 : ∀ (a b : Int) (μ : List MO), gEq (.d (.int a)) (.d (.int b)) μ = some (.ok (.d (.bl (a == b))) μ) := fun a b μ => by simp [eV_app, startS, eIsi, eNot, eAnd, eOr, eChain, sRet, sSeq, sSet, sIf, sNx, sDrop, sRaise, sRetN, aCons, eB, eCall, eTup, eLst, eIf, bAnd, bOr, bNot, tst, allD, viewT, viewL, viewX, tyD, isiB, hName, hTup, hsCons, hsNil, iSeq, wipeS, sAsg, gLe, gLt, gGe, gGt, gSub, gI20, gIsN, gNotN, gNotB, newL, eCut, ePart, gCut, iZip2, sFor, iAny, gIntA, gInA, gMulA, gEqA, gNeA, gEq, toD, ok_int, eqvD]
    have ga : ∀ (a b : Int) (μ : List MO), gAdd false (.d (.int a)) (.d (.int b)) μ = some (.ok (.d (.int (a + b))) μ) := fun _ _ _ => rfl
    simp only [e2_app, eLst, aCons, eV_app, eC_app, eB, eCall, aNil_app, bAE_ok, bE_ok, allD, Option.map_some, List.length_cons, List.length_nil, newL, List.getElem?_cons_succ, List.getElem?_cons_zero, p1, q1, z1, gMin, ga, onlyD_ok, gEqA, g0, gIntA, gInt, gMulA, hb1, hb2, h1, h2, e1 _ l1, e2 _ l2, hL, if_true, Nat.reduceAdd, Nat.reduceLeDiff]
  · simp only [List.set_cons_succ, List.set_cons_zero]
    have c1 : l.length ≤ 4000 := by omega
    have c2 : (dedI l).length < 64 := by omega
    have c3 : m.length < cap := by unfold cap; omega
    have gj := hj d4
    simp [eV_app, startS, eIsi, eNot, eAnd, eOr, eChain, sRet, sSeq, sSet, sIf, sNx, sDrop, sRaise, sRetN, aCons, eB, eCall, eTup, eLst, eIf, bAnd, bOr, bNot, tst, allD, viewT, viewL, viewX, tyD, isiB, hName, hTup, hsCons, hsNil, iSeq, wipeS, sAsg, gLe, gLt, gGe, gGt, gSub, gI20, gIsN, gNotN, gNotB, newL, eCut, ePart, gCut, iZip2, sFor, iAny, gIntA, gInA, gMulA, gEqA, gNeA, eSortedSet, viewS, allInts_map, c1, c2, eAppend, gj, isML, gTup, c3, tupI]
theorem s_b_machine {M : Dice → List MO} {i : Nat} (hM : Sto M i) {N : Nat} {d : Dice} {kinds : Int} (hd : d.Ok N) (hN : N + 100 < 1000000) (h0 : 1 ≤ kinds) (h6 : kinds ≤ 6) : ∃ e m, DrOk m ∧ (m.length : Int) = kinds ∧ e.Ok (N + 24) ∧ g__law_b_machine [.m i, .d (.int kinds)] (M d) = some (.ok (.d (mcD m)) (M e)) := by
  have hlen : ∀ a b, (M a).length = (M b).length := fun a b => hM.len a b
  have hi : i < (M d).length := (List.getElem?_eq_some_iff.mp (hM.get d)).1
  obtain ⟨ρ', μ', e1, e2⟩ := forF_inv (h := hName 3) (b := lb__law_b_machine_0) D.int (full := rgI 0 kinds)
    (fun done ρ μ' => ∃ e m b3 b4 b5, ρ = [.m i, .d (.int kinds), .m (M d).length, b3, b4, b5] ∧ μ' = M e ++ [.ml (m.map tupI)] ∧ m.length = done.length ∧ DrOk m ∧ e.Ok (N + 4 * done.length))
    (fun done x rest ρ μ' hf hI => by
      obtain ⟨e, m, b3, b4, b5, rfl, rfl, h1, h2, h3⟩ := hI
      obtain ⟨hx, hx2⟩ := rgI_split hf
      have hM2 : Sto (fun e => M e ++ [.ml (m.map tupI)]) i := ⟨fun d' => by
          have : i < (M d').length := by rw [hlen d' d]; exact hi
          rw [List.getElem?_append_left this]; exact hM.get d', fun d' e' => by
          have : i < (M d').length := by rw [hlen d' d]; exact hi
          rw [List.set_append_left _ _ this, hM.set]⟩
      obtain ⟨e', sl, c4, c5, s1, s2, s3⟩ := mach_body hM2 (j := (M d).length) (m := m) (k := .d (.int kinds)) (x := .d (.int x)) (a4 := b4) (a5 := b5) h3 (by omega) (fun e'' => by rw [hlen d e'']; exact get_last _ _) (by omega)
      refine ⟨_, _, _, rfl, s3, e', m ++ [sl], .d (.int x), c4, c5, rfl, ?_, by simp [eV_app, startS, eIsi, eNot, eAnd, eOr, eChain, sRet, sSeq, sSet, sIf, sNx, sDrop, sRaise, sRetN, aCons, eB, eCall, eTup, eLst, eIf, bAnd, bOr, bNot, tst, allD, viewT, viewL, viewX, tyD, isiB, hName, hTup, hsCons, hsNil, iSeq, wipeS, sAsg, gLe, gLt, gGe, gGt, gSub, gI20, gIsN, gNotN, gNotB, newL, eCut, ePart, gCut, iZip2, sFor, iAny, gIntA, gInA, gMulA, gEqA, gNeA, h1], fun y hy => ?_, ?_⟩
      · show (M e' ++ [_]).set (M d).length _ = _
        rw [hlen d e']; exact set_last _ _ _
      · rcases List.mem_append.mp hy with hy | hy
        · exact h2 y hy
        · rw [List.mem_singleton.mp hy]; exact s1
      · rw [List.length_append, List.length_singleton, Nat.mul_add]; exact s2)
    (rgI 0 kinds) [] [.m i, .d (.int kinds), .m (M d).length, .un, .un, .un] (M d ++ [.ml []]) rfl ⟨d, [], .un, .un, .un, rfl, rfl, rfl, (by intro y hy; cases hy), by simpa [eV_app, startS, eIsi, eNot, eAnd, eOr, eChain, sRet, sSeq, sSet, sIf, sNx, sDrop, sRaise, sRetN, aCons, eB, eCall, eTup, eLst, eIf, bAnd, bOr, bNot, tst, allD, viewT, viewL, viewX, tyD, isiB, hName, hTup, hsCons, hsNil, iSeq, wipeS, sAsg, gLe, gLt, gGe, gGt, gSub, gI20, gIsN, gNotN, gNotB, newL, eCut, ePart, gCut, iZip2, sFor, iAny, gIntA, gInA, gMulA, gEqA, gNeA] using hd⟩
  obtain ⟨e, m, b3, b4, b5, rfl, rfl, h1, h2, h3⟩ := e2
  rw [rgI_length] at h1 h3
  refine ⟨e, m, h2, by omega, Ok_mono h3 (by omega), ?_⟩
  have hr : kinds ≤ 2305843009213693952 := by omega
  have hr0 : 0 ≤ kinds := by omega
  have hgl : (M e ++ [MO.ml (m.map tupI)])[(M d).length]? = some (.ml (m.map tupI)) := by rw [hlen d e]; exact get_last _ _
  have htk : (M e ++ [MO.ml (m.map tupI)]).take (M d).length = M e := by rw [hlen d e, List.take_left]
  simp [eV_app, startS, eIsi, eNot, eAnd, eOr, eChain, sRet, sSeq, sSet, sIf, sNx, sDrop, sRaise, sRetN, aCons, eB, eCall, eTup, eLst, eIf, bAnd, bOr, bNot, tst, allD, viewT, viewL, viewX, tyD, isiB, hName, hTup, hsCons, hsNil, iSeq, wipeS, sAsg, gLe, gLt, gGe, gGt, gSub, gI20, gIsN, gNotN, gNotB, newL, eCut, ePart, gCut, iZip2, sFor, iAny, gIntA, gInA, gMulA, gEqA, gNeA, g__law_b_machine, fb__law_b_machine, iRg, hr, hr0, e1, gTup, hgl, htk, mcD]
end K05
end

section
set_option linter.all false
set_option maxRecDepth 100000
set_option maxHeartbeats 1000000
namespace K05
open PySem DL
abbrev tl (x : Str) : List Nat := x.cps.toList
theorem ext_tl {x y : Str} (h : tl x = tl y) : x = y := Str.ext' (Array.toList_inj.mp h)
theorem len_tl (x : Str) : x.length = (tl x).length := by simp [eV_app, startS, eIsi, eNot, eAnd, eOr, eChain, sRet, sSeq, sSet, sIf, sNx, sDrop, sRaise, sRetN, aCons, eB, eCall, eTup, eLst, eIf, bAnd, bOr, bNot, tst, allD, viewT, viewL, viewX, tyD, isiB, hName, hTup, hsCons, hsNil, iSeq, wipeS, sAsg, gLe, gLt, gGe, gGt, gSub, gI20, gIsN, gNotN, gNotB, newL, eCut, ePart, gCut, iZip2, sFor, iAny, gIntA, gInA, gMulA, gEqA, gNeA, tl, Str.length]
theorem tl_app (x y : Str) : tl (x ++ y) = tl x ++ tl y := TL.tl_append x y
/-! ### parts -/
def prt (z : Str) : List Str := Txt.split z " "
theorem sp_tl : tl (" " : Str) = [32] := by decide
theorem dash_tl : tl ("-" : Str) = [45] := by decide
theorem prt_spl (z : Str) : (prt z).map tl = TL.spl [32] 0 [] (tl z) := by
  have h := TL.split_spl z " " (by decide) (TL.kind_ok (by decide +kernel))
  exact h
theorem pre1 (c : Nat) (r : List Nat) : TL.pre [32] (c :: r) = (c == 32) := by
  unfold TL.pre
  simp [eV_app, startS, eIsi, eNot, eAnd, eOr, eChain, sRet, sSeq, sSet, sIf, sNx, sDrop, sRaise, sRetN, aCons, eB, eCall, eTup, eLst, eIf, bAnd, bOr, bNot, tst, allD, viewT, viewL, viewX, tyD, isiB, hName, hTup, hsCons, hsNil, iSeq, wipeS, sAsg, gLe, gLt, gGe, gGt, gSub, gI20, gIsN, gNotN, gNotB, newL, eCut, ePart, gCut, iZip2, sFor, iAny, gIntA, gInA, gMulA, gEqA, gNeA]
theorem spl_back : ∀ (l acc : List Nat), TL.joinL [32] (TL.spl [32] 0 acc l) = acc ++ l ∧ TL.spl [32] 0 acc l ≠ [] ∧ (TL.spl [32] 0 acc l).length ≤ l.length + 1
  | [], acc => by rw [TL.spl_nil]; simp [eV_app, startS, eIsi, eNot, eAnd, eOr, eChain, sRet, sSeq, sSet, sIf, sNx, sDrop, sRaise, sRetN, aCons, eB, eCall, eTup, eLst, eIf, bAnd, bOr, bNot, tst, allD, viewT, viewL, viewX, tyD, isiB, hName, hTup, hsCons, hsNil, iSeq, wipeS, sAsg, gLe, gLt, gGe, gGt, gSub, gI20, gIsN, gNotN, gNotB, newL, eCut, ePart, gCut, iZip2, sFor, iAny, gIntA, gInA, gMulA, gEqA, gNeA, TL.joinL]
  | c :: r, acc => by
    by_cases h : c = 32
    · subst h
      obtain ⟨h1, h2, h3⟩ := spl_back r []
      have e : TL.spl [32] 0 acc (32 :: r) = acc :: TL.spl [32] 0 [] r := TL.spl_hit (S := [32]) (by rw [pre1]; rfl)
      rw [e]
      refine ⟨?_, by simp [eV_app, startS, eIsi, eNot, eAnd, eOr, eChain, sRet, sSeq, sSet, sIf, sNx, sDrop, sRaise, sRetN, aCons, eB, eCall, eTup, eLst, eIf, bAnd, bOr, bNot, tst, allD, viewT, viewL, viewX, tyD, isiB, hName, hTup, hsCons, hsNil, iSeq, wipeS, sAsg, gLe, gLt, gGe, gGt, gSub, gI20, gIsN, gNotN, gNotB, newL, eCut, ePart, gCut, iZip2, sFor, iAny, gIntA, gInA, gMulA, gEqA, gNeA], by simp [eV_app, startS, eIsi, eNot, eAnd, eOr, eChain, sRet, sSeq, sSet, sIf, sNx, sDrop, sRaise, sRetN, aCons, eB, eCall, eTup, eLst, eIf, bAnd, bOr, bNot, tst, allD, viewT, viewL, viewX, tyD, isiB, hName, hTup, hsCons, hsNil, iSeq, wipeS, sAsg, gLe, gLt, gGe, gGt, gSub, gI20, gIsN, gNotN, gNotB, newL, eCut, ePart, gCut, iZip2, sFor, iAny, gIntA, gInA, gMulA, gEqA, gNeA]; omega⟩
      cases hs : TL.spl [32] 0 [] r with
      | nil => exact absurd hs h2
      | cons p ps =>
        rw [hs] at h1
        show acc ++ ([32] ++ TL.joinL [32] (p :: ps)) = _
        rw [h1]; simp [eV_app, startS, eIsi, eNot, eAnd, eOr, eChain, sRet, sSeq, sSet, sIf, sNx, sDrop, sRaise, sRetN, aCons, eB, eCall, eTup, eLst, eIf, bAnd, bOr, bNot, tst, allD, viewT, viewL, viewX, tyD, isiB, hName, hTup, hsCons, hsNil, iSeq, wipeS, sAsg, gLe, gLt, gGe, gGt, gSub, gI20, gIsN, gNotN, gNotB, newL, eCut, ePart, gCut, iZip2, sFor, iAny, gIntA, gInA, gMulA, gEqA, gNeA]
    · obtain ⟨h1, h2, h3⟩ := spl_back r (acc ++ [c])
      have e : TL.spl [32] 0 acc (c :: r) = TL.spl [32] 0 (acc ++ [c]) r := TL.spl_miss (S := [32]) (by rw [pre1]; simpa [eV_app, startS, eIsi, eNot, eAnd, eOr, eChain, sRet, sSeq, sSet, sIf, sNx, sDrop, sRaise, sRetN, aCons, eB, eCall, eTup, eLst, eIf, bAnd, bOr, bNot, tst, allD, viewT, viewL, viewX, tyD, isiB, hName, hTup, hsCons, hsNil, iSeq, wipeS, sAsg, gLe, gLt, gGe, gGt, gSub, gI20, gIsN, gNotN, gNotB, newL, eCut, ePart, gCut, iZip2, sFor, iAny, gIntA, gInA, gMulA, gEqA, gNeA] using h)
      rw [e]
      exact ⟨by rw [h1]; simp [eV_app, startS, eIsi, eNot, eAnd, eOr, eChain, sRet, sSeq, sSet, sIf, sNx, sDrop, sRaise, sRetN, aCons, eB, eCall, eTup, eLst, eIf, bAnd, bOr, bNot, tst, allD, viewT, viewL, viewX, tyD, isiB, hName, hTup, hsCons, hsNil, iSeq, wipeS, sAsg, gLe, gLt, gGe, gGt, gSub, gI20, gIsN, gNotN, gNotB, newL, eCut, ePart, gCut, iZip2, sFor, iAny, gIntA, gInA, gMulA, gEqA, gNeA], h2, by simp [eV_app, startS, eIsi, eNot, eAnd, eOr, eChain, sRet, sSeq, sSet, sIf, sNx, sDrop, sRaise, sRetN, aCons, eB, eCall, eTup, eLst, eIf, bAnd, bOr, bNot, tst, allD, viewT, viewL, viewX, tyD, isiB, hName, hTup, hsCons, hsNil, iSeq, wipeS, sAsg, gLe, gLt, gGe, gGt, gSub, gI20, gIsN, gNotN, gNotB, newL, eCut, ePart, gCut, iZip2, sFor, iAny, gIntA, gInA, gMulA, gEqA, gNeA]; omega⟩
theorem joinL_mem : ∀ {ps : List (List Nat)} {p : List Nat} {c : Nat}, p ∈ ps → c ∈ p → c ∈ TL.joinL [32] ps
  | [q], p, c, hp, hc => by
    rw [List.mem_singleton.mp hp] at hc; exact hc
  | q :: r :: ps, p, c, hp, hc => by
    show c ∈ q ++ ([32] ++ TL.joinL [32] (r :: ps))
    rcases List.mem_cons.mp hp with rfl | hp
    · exact List.mem_append_left _ hc
    · exact List.mem_append_right _ (List.mem_append_right _ (joinL_mem hp hc))
theorem joinL_len : ∀ {ps : List (List Nat)} {p : List Nat}, p ∈ ps → p.length ≤ (TL.joinL [32] ps).length
  | [q], p, hp => by rw [List.mem_singleton.mp hp]; exact Nat.le_refl _
  | q :: r :: ps, p, hp => by
    show _ ≤ (q ++ ([32] ++ TL.joinL [32] (r :: ps))).length
    rcases List.mem_cons.mp hp with rfl | hp
    · simp [eV_app, startS, eIsi, eNot, eAnd, eOr, eChain, sRet, sSeq, sSet, sIf, sNx, sDrop, sRaise, sRetN, aCons, eB, eCall, eTup, eLst, eIf, bAnd, bOr, bNot, tst, allD, viewT, viewL, viewX, tyD, isiB, hName, hTup, hsCons, hsNil, iSeq, wipeS, sAsg, gLe, gLt, gGe, gGt, gSub, gI20, gIsN, gNotN, gNotB, newL, eCut, ePart, gCut, iZip2, sFor, iAny, gIntA, gInA, gMulA, gEqA, gNeA]
    · have := joinL_len hp
      simp only [List.length_append]; omega
theorem prt_mem {z p : Str} (h : p ∈ prt z) : (∀ c ∈ tl p, c ∈ tl z) ∧ p.length ≤ z.length := by
  have hm : tl p ∈ TL.spl [32] 0 [] (tl z) := by rw [← prt_spl]; exact List.mem_map_of_mem h
  have e := (spl_back (tl z) []).1
  rw [List.nil_append] at e
  refine ⟨fun c hc => ?_, ?_⟩
  · rw [← e]; exact joinL_mem hm hc
  · rw [len_tl, len_tl]
    have := joinL_len hm
    rw [e] at this; exact this
theorem prt_len (z : Str) : (prt z).length ≤ z.length + 1 := by
  have := (spl_back (tl z) []).2.2
  rw [← prt_spl, List.length_map] at this
  rw [len_tl]; exact this
theorem map_tl_inj : ∀ {l m : List Str}, l.map tl = m.map tl → l = m
  | [], [], _ => rfl
  | [], _ :: _, h => by simp [eV_app, startS, eIsi, eNot, eAnd, eOr, eChain, sRet, sSeq, sSet, sIf, sNx, sDrop, sRaise, sRetN, aCons, eB, eCall, eTup, eLst, eIf, bAnd, bOr, bNot, tst, allD, viewT, viewL, viewX, tyD, isiB, hName, hTup, hsCons, hsNil, iSeq, wipeS, sAsg, gLe, gLt, gGe, gGt, gSub, gI20, gIsN, gNotN, gNotB, newL, eCut, ePart, gCut, iZip2, sFor, iAny, gIntA, gInA, gMulA, gEqA, gNeA] at h
  | _ :: _, [], h => by simp [eV_app, startS, eIsi, eNot, eAnd, eOr, eChain, sRet, sSeq, sSet, sIf, sNx, sDrop, sRaise, sRetN, aCons, eB, eCall, eTup, eLst, eIf, bAnd, bOr, bNot, tst, allD, viewT, viewL, viewX, tyD, isiB, hName, hTup, hsCons, hsNil, iSeq, wipeS, sAsg, gLe, gLt, gGe, gGt, gSub, gI20, gIsN, gNotN, gNotB, newL, eCut, ePart, gCut, iZip2, sFor, iAny, gIntA, gInA, gMulA, gEqA, gNeA] at h
  | x :: l, y :: m, h => by
    simp only [List.map_cons, List.cons.injEq] at h
    rw [ext_tl h.1, map_tl_inj h.2]
theorem prt_dash (z : Str) : prt z = [("-" : Str)] ↔ z = "-" := by
  constructor
  · intro h
    have e := (spl_back (tl z) []).1
    rw [← prt_spl, h] at e
    exact ext_tl e.symm
  · rintro rfl
    apply map_tl_inj
    rw [prt_spl]
    decide
theorem prt_join {ps : List Str} (hne : ps ≠ []) (h : ∀ p ∈ ps, 32 ∉ tl p) : prt (Txt.join " " ps) = ps :=
  TL.split_join (s := 32) (S := []) sp_tl (by decide +kernel) hne h
theorem prt_empty : prt "" = [("" : Str)] := by
  apply map_tl_inj
  rw [prt_spl]
  decide
/-- real signs -/
def Real (z : Str) : Prop := ∀ c ∈ tl z, c < 0x110000
theorem Real.ok {z : Str} (h : Real z) : PyData.strOk z = true := by
  unfold PyData.strOk
  rw [← Array.all_toList, List.all_eq_true]
  exact fun c hc => decide_eq_true (h c hc)
theorem Real.part {z p : Str} (h : Real z) (hp : p ∈ prt z) : Real p := fun c hc => h c ((prt_mem hp).1 c hc)
theorem Real.okD {z : Str} (h : Real z) (n : Nat) : okD n (.str z) = true := by
  cases n <;> simp only [DL.okD] <;> exact h.ok
theorem Real.app {x y : Str} (hx : Real x) (hy : Real y) : Real (x ++ y) := fun c hc => by
  rw [tl_app] at hc
  rcases List.mem_append.mp hc with h | h
  · exact hx c h
  · exact hy c h
/-! ### figures -/
abbrev FIG : Str := "0123456789"
theorem fig_tl : tl FIG = [48, 49, 50, 51, 52, 53, 54, 55, 56, 57] := by decide
theorem fig8_tl : tl ("01234567" : Str) = [48, 49, 50, 51, 52, 53, 54, 55] := by decide
theorem fig_mem (c : Nat) : c ∈ tl FIG ↔ 48 ≤ c ∧ c ≤ 57 := by
  rw [fig_tl]; simp [eV_app, startS, eIsi, eNot, eAnd, eOr, eChain, sRet, sSeq, sSet, sIf, sNx, sDrop, sRaise, sRetN, aCons, eB, eCall, eTup, eLst, eIf, bAnd, bOr, bNot, tst, allD, viewT, viewL, viewX, tyD, isiB, hName, hTup, hsCons, hsNil, iSeq, wipeS, sAsg, gLe, gLt, gGe, gGt, gSub, gI20, gIsN, gNotN, gNotB, newL, eCut, ePart, gCut, iZip2, sFor, iAny, gIntA, gInA, gMulA, gEqA, gNeA]; omega
theorem fig8_mem (c : Nat) : c ∈ tl ("01234567" : Str) ↔ 48 ≤ c ∧ c ≤ 55 := by
  rw [fig8_tl]; simp [eV_app, startS, eIsi, eNot, eAnd, eOr, eChain, sRet, sSeq, sSet, sIf, sNx, sDrop, sRaise, sRetN, aCons, eB, eCall, eTup, eLst, eIf, bAnd, bOr, bNot, tst, allD, viewT, viewL, viewX, tyD, isiB, hName, hTup, hsCons, hsNil, iSeq, wipeS, sAsg, gLe, gLt, gGe, gGt, gSub, gI20, gIsN, gNotN, gNotB, newL, eCut, ePart, gCut, iZip2, sFor, iAny, gIntA, gInA, gMulA, gEqA, gNeA]; omega
abbrev sgn (c : Nat) : Str := ⟨#[c]⟩
theorem gInS_sgn {neg : Bool} {c : Nat} {z : Str} {μ : List MO} : gInS neg (.d (.str (sgn c))) (.d (.str z)) μ = some (.ok (.d (.bl (if neg then !decide (c ∈ tl z) else decide (c ∈ tl z)))) μ) := rfl
theorem idx_all : ∀ k : Fin 10, Builtin.Str.occurrences FIG (sgn (48 + k.val)) 0 FIG.length 1 = [k.val] := by decide +kernel
theorem gIndex_fig {c : Nat} {μ : List MO} (h : 48 ≤ c ∧ c ≤ 57) : gIndex FIG (.d (.str (sgn c))) μ = some (.ok (.d (.int ((c : Int) - 48))) μ) := by
  have := idx_all ⟨c - 48, by omega⟩
  simp only at this
  rw [show 48 + (c - 48) = c by omega] at this
  unfold gIndex
  simp only [this]
  congr 4
  omega
theorem int_sgn {c : Nat} (h : 48 ≤ c ∧ c ≤ 57) : PySem.intText? (sgn c) = some ((c : Int) - 48) := by
  rw [intText_digits (x := sgn c) (by intro d hd; simp [eV_app, startS, eIsi, eNot, eAnd, eOr, eChain, sRet, sSeq, sSet, sIf, sNx, sDrop, sRaise, sRetN, aCons, eB, eCall, eTup, eLst, eIf, bAnd, bOr, bNot, tst, allD, viewT, viewL, viewX, tyD, isiB, hName, hTup, hsCons, hsNil, iSeq, wipeS, sAsg, gLe, gLt, gGe, gGt, gSub, gI20, gIsN, gNotN, gNotB, newL, eCut, ePart, gCut, iZip2, sFor, iAny, gIntA, gInA, gMulA, gEqA, gNeA] at hd; subst hd; exact h) (by simp [eV_app, startS, eIsi, eNot, eAnd, eOr, eChain, sRet, sSeq, sSet, sIf, sNx, sDrop, sRaise, sRetN, aCons, eB, eCall, eTup, eLst, eIf, bAnd, bOr, bNot, tst, allD, viewT, viewL, viewX, tyD, isiB, hName, hTup, hsCons, hsNil, iSeq, wipeS, sAsg, gLe, gLt, gGe, gGt, gSub, gI20, gIsN, gNotN, gNotB, newL, eCut, ePart, gCut, iZip2, sFor, iAny, gIntA, gInA, gMulA, gEqA, gNeA]) (by show 1 ≤ 4300; omega)]
  simp [eV_app, startS, eIsi, eNot, eAnd, eOr, eChain, sRet, sSeq, sSet, sIf, sNx, sDrop, sRaise, sRetN, aCons, eB, eCall, eTup, eLst, eIf, bAnd, bOr, bNot, tst, allD, viewT, viewL, viewX, tyD, isiB, hName, hTup, hsCons, hsNil, iSeq, wipeS, sAsg, gLe, gLt, gGe, gGt, gSub, gI20, gIsN, gNotN, gNotB, newL, eCut, ePart, gCut, iZip2, sFor, iAny, gIntA, gInA, gMulA, gEqA, gNeA, NumText.digitsVal]
  omega
theorem gIntS_sgn {c : Nat} {μ : List MO} (h : 48 ≤ c ∧ c ≤ 57) : gIntS [.d (.str (sgn c))] μ = some (.ok (.d (.int ((c : Int) - 48))) μ) := by
  unfold gIntS
  simp only [int_sgn h]
  rw [if_pos (by show 1 ≤ 640; omega)]
end K05
end

section
set_option linter.all false
set_option maxRecDepth 100000
set_option maxHeartbeats 1000000
namespace K05
open PySem DL
def enumK : Nat → List D → List D
  | _, [] => []
  | k, d :: ds => .tup [.int (k : Int), d] :: enumK (k + 1) ds
theorem enumK_get : ∀ (ds : List D) (k i : Nat), (enumK k ds)[i]? = (ds[i]?).map fun d => .tup [.int ((k + i : Nat) : Int), d]
  | [], k, i => by simp [eV_app, startS, eIsi, eNot, eAnd, eOr, eChain, sRet, sSeq, sSet, sIf, sNx, sDrop, sRaise, sRetN, aCons, eB, eCall, eTup, eLst, eIf, bAnd, bOr, bNot, tst, allD, viewT, viewL, viewX, tyD, isiB, hName, hTup, hsCons, hsNil, iSeq, wipeS, sAsg, gLe, gLt, gGe, gGt, gSub, gI20, gIsN, gNotN, gNotB, newL, eCut, ePart, gCut, iZip2, sFor, iAny, gIntA, gInA, gMulA, gEqA, gNeA, enumK]
  | d :: ds, k, 0 => by simp [eV_app, startS, eIsi, eNot, eAnd, eOr, eChain, sRet, sSeq, sSet, sIf, sNx, sDrop, sRaise, sRetN, aCons, eB, eCall, eTup, eLst, eIf, bAnd, bOr, bNot, tst, allD, viewT, viewL, viewX, tyD, isiB, hName, hTup, hsCons, hsNil, iSeq, wipeS, sAsg, gLe, gLt, gGe, gGt, gSub, gI20, gIsN, gNotN, gNotB, newL, eCut, ePart, gCut, iZip2, sFor, iAny, gIntA, gInA, gMulA, gEqA, gNeA, enumK]
  | d :: ds, k, i + 1 => by
    simp only [enumK, List.getElem?_cons_succ, enumK_get ds (k + 1) i]
    rw [show k + 1 + i = k + (i + 1) by omega]
theorem enumD_K (ds : List D) : enumD ds = enumK 0 ds := by
  apply List.ext_getElem?
  intro i
  rw [enumK_get]
  unfold enumD
  rw [List.getElem?_zipWith]
  by_cases h : i < ds.length
  · rw [List.getElem?_range h, List.getElem?_eq_getElem h]
    simp [eV_app, startS, eIsi, eNot, eAnd, eOr, eChain, sRet, sSeq, sSet, sIf, sNx, sDrop, sRaise, sRetN, aCons, eB, eCall, eTup, eLst, eIf, bAnd, bOr, bNot, tst, allD, viewT, viewL, viewX, tyD, isiB, hName, hTup, hsCons, hsNil, iSeq, wipeS, sAsg, gLe, gLt, gGe, gGt, gSub, gI20, gIsN, gNotN, gNotB, newL, eCut, ePart, gCut, iZip2, sFor, iAny, gIntA, gInA, gMulA, gEqA, gNeA]
  · rw [List.getElem?_eq_none (by simpa [eV_app, startS, eIsi, eNot, eAnd, eOr, eChain, sRet, sSeq, sSet, sIf, sNx, sDrop, sRaise, sRetN, aCons, eB, eCall, eTup, eLst, eIf, bAnd, bOr, bNot, tst, allD, viewT, viewL, viewX, tyD, isiB, hName, hTup, hsCons, hsNil, iSeq, wipeS, sAsg, gLe, gLt, gGe, gGt, gSub, gI20, gIsN, gNotN, gNotB, newL, eCut, ePart, gCut, iZip2, sFor, iAny, gIntA, gInA, gMulA, gEqA, gNeA] using h), List.getElem?_eq_none (show ds.length ≤ i by omega)]
    rfl
theorem asc_len : ∀ {ns : List Int} {a b : Int}, ns.Pairwise (· < ·) → (∀ x ∈ ns, a ≤ x ∧ x < b) → a ≤ b → (ns.length : Int) ≤ b - a
  | [], a, b, _, _, h => by simp [eV_app, startS, eIsi, eNot, eAnd, eOr, eChain, sRet, sSeq, sSet, sIf, sNx, sDrop, sRaise, sRetN, aCons, eB, eCall, eTup, eLst, eIf, bAnd, bOr, bNot, tst, allD, viewT, viewL, viewX, tyD, isiB, hName, hTup, hsCons, hsNil, iSeq, wipeS, sAsg, gLe, gLt, gGe, gGt, gSub, gI20, gIsN, gNotN, gNotB, newL, eCut, ePart, gCut, iZip2, sFor, iAny, gIntA, gInA, gMulA, gEqA, gNeA]; omega
  | x :: xs, a, b, hp, hv, h => by
    obtain ⟨h1, h2⟩ := List.pairwise_cons.mp hp
    have hx := hv x List.mem_cons_self
    have := asc_len (a := x + 1) (b := b) h2 (fun y hy => ⟨by have := h1 y hy; omega, (hv y (List.mem_cons_of_mem _ hy)).2⟩) (by omega)
    simp only [List.length_cons]
    omega
def slM (p : Str) : List Int := (tl p).map fun (c : Nat) => (c : Int) - 48
def okM (p : Str) : Bool := decide (tl p ≠ []) && (tl p).all (fun c => decide (48 ≤ c) && decide (c ≤ 55)) && ascB (slM p)
def slX (p : Str) : List Int := (tl p).map fun (c : Nat) => if 48 ≤ c ∧ c ≤ 57 then (c : Int) - 48 else 8
theorem slX_eq {p : Str} (h : ∀ c ∈ tl p, 48 ≤ c ∧ c ≤ 55) : slX p = slM p := by
  unfold slX slM
  apply List.map_congr_left
  intro c hc
  have := h c hc
  rw [if_pos (by omega)]
theorem okM_iff {p : Str} : okM p = true ↔ tl p ≠ [] ∧ (∀ c ∈ tl p, 48 ≤ c ∧ c ≤ 55) ∧ ascB (slM p) = true := by
  simp only [okM, Bool.and_eq_true, decide_eq_true_eq, List.all_eq_true]
  constructor
  · rintro ⟨⟨a, b⟩, c⟩; exact ⟨a, b, c⟩
  · rintro ⟨a, b, c⟩; exact ⟨⟨a, b⟩, c⟩
theorem slM_in {p : Str} (h : ∀ c ∈ tl p, 48 ≤ c ∧ c ≤ 55) : ∀ x ∈ slM p, 0 ≤ x ∧ x < 8 := fun x hx => by
  unfold slM at hx
  obtain ⟨c, hc, rfl⟩ := List.mem_map.mp hx
  have := h c hc
  omega
theorem slM_len (p : Str) : (slM p).length = (tl p).length := by simp [eV_app, startS, eIsi, eNot, eAnd, eOr, eChain, sRet, sSeq, sSet, sIf, sNx, sDrop, sRaise, sRetN, aCons, eB, eCall, eTup, eLst, eIf, bAnd, bOr, bNot, tst, allD, viewT, viewL, viewX, tyD, isiB, hName, hTup, hsCons, hsNil, iSeq, wipeS, sAsg, gLe, gLt, gGe, gGt, gSub, gI20, gIsN, gNotN, gNotB, newL, eCut, ePart, gCut, iZip2, sFor, iAny, gIntA, gInA, gMulA, gEqA, gNeA, slM]
theorem okM_len {p : Str} (h : okM p = true) : (slM p).length ≤ 8 := by
  obtain ⟨_, h2, h3⟩ := okM_iff.mp h
  have := asc_len (ascB_pw.mp h3) (slM_in h2) (by omega)
  omega
theorem slots_okM (p : Str) : slotsB (tupI (slX p)) 1 = okM p := by
  cases h : okM p with
  | true =>
    obtain ⟨h1, h2, h3⟩ := okM_iff.mp h
    have h8 := okM_len h
    rw [slX_eq h2]
    have hn : 1 ≤ (slM p).length := by rw [slM_len]; exact List.length_pos_iff.mpr h1
    simp only [slotsB, tupI, areB, allInts_map, h3, List.length_map, Bool.and_true, Bool.and_eq_true, decide_eq_true_eq, List.all_eq_true]
    refine ⟨⟨by omega, by omega⟩, fun d hd => ?_⟩
    obtain ⟨x, hx, rfl⟩ := List.mem_map.mp hd
    have := slM_in h2 x hx
    simp only [inB, Bool.and_eq_true, decide_eq_true_eq]
    omega
  | false =>
    cases hs : slotsB (tupI (slX p)) 1 with
    | false => rfl
    | true =>
      simp only [slotsB, Bool.and_eq_true] at hs
      obtain ⟨ns, e, l1, l2, l3⟩ := are_ints (n := 20) hs.1
      have en : slX p = ns := by
        have := congrArg (fun d => match d with | D.tup ds => allInts ds | _ => none) e
        simpa [eV_app, startS, eIsi, eNot, eAnd, eOr, eChain, sRet, sSeq, sSet, sIf, sNx, sDrop, sRaise, sRetN, aCons, eB, eCall, eTup, eLst, eIf, bAnd, bOr, bNot, tst, allD, viewT, viewL, viewX, tyD, isiB, hName, hTup, hsCons, hsNil, iSeq, wipeS, sAsg, gLe, gLt, gGe, gGt, gSub, gI20, gIsN, gNotN, gNotB, newL, eCut, ePart, gCut, iZip2, sFor, iAny, gIntA, gInA, gMulA, gEqA, gNeA, allInts_map] using this
      subst en
      have h3 := hs.2
      simp only [tupI, allInts_map] at h3
      have h2 : ∀ c ∈ tl p, 48 ≤ c ∧ c ≤ 55 := fun c hc => by
        have := l3 (if 48 ≤ c ∧ c ≤ 57 then (c : Int) - 48 else 8) (List.mem_map.mpr ⟨c, hc, rfl⟩)
        by_cases hd : 48 ≤ c ∧ c ≤ 57
        · rw [if_pos hd] at this; omega
        · rw [if_neg hd] at this; omega
      rw [slX_eq h2] at h3
      have h1 : tl p ≠ [] := fun z => by
        have : (slX p).length = 0 := by simp [eV_app, startS, eIsi, eNot, eAnd, eOr, eChain, sRet, sSeq, sSet, sIf, sNx, sDrop, sRaise, sRetN, aCons, eB, eCall, eTup, eLst, eIf, bAnd, bOr, bNot, tst, allD, viewT, viewL, viewX, tyD, isiB, hName, hTup, hsCons, hsNil, iSeq, wipeS, sAsg, gLe, gLt, gGe, gGt, gSub, gI20, gIsN, gNotN, gNotB, newL, eCut, ePart, gCut, iZip2, sFor, iAny, gIntA, gInA, gMulA, gEqA, gNeA, slX, z]
        omega
      rw [okM_iff.mpr ⟨h1, h2, h3⟩] at h
      cases h
def resM : Nat → List Str → List (List Int) → List (List Int) ⊕ Nat
  | _, [], acc => .inl acc
  | k, p :: ps, acc => if okM p = true ∧ k ≤ 5 then resM (k + 1) ps (acc ++ [slM p]) else .inr k
theorem s_parts_of {z : Str} {μ : List MO} (h : z.length ≤ 1000) : g_parts_of [.d (.str z)] μ = some (.ok (.d (.lst ((prt z).map .str))) μ) := by
  have h1 : ¬ (1000 : Int) < (z.length : Int) := by omega
  have h24 : z.length ≤ small24 := by unfold small24; omega
  have hs : ((" " : Str).length == 0) = false := by decide
  have hg : gSplit false z (.d (.str " ")) μ = some (.ok (.d (.lst ((prt z).map .str))) μ) := by
    unfold gSplit
    simp only [hs, h24, and_self, if_true]
    rfl
  simp [eV_app, startS, eIsi, eNot, eAnd, eOr, eChain, sRet, sSeq, sSet, sIf, sNx, sDrop, sRaise, sRetN, aCons, eB, eCall, eTup, eLst, eIf, bAnd, bOr, bNot, tst, allD, viewT, viewL, viewX, tyD, isiB, hName, hTup, hsCons, hsNil, iSeq, wipeS, sAsg, gLe, gLt, gGe, gGt, gSub, gI20, gIsN, gNotN, gNotB, newL, eCut, ePart, gCut, iZip2, sFor, iAny, gIntA, gInA, gMulA, gEqA, gNeA, g_parts_of, fb_parts_of, gLen, h24, h1, eM1, hg]
theorem x_parts_of {v : D} {μ : List MO} (hv : tyD v ≠ none) (h : tyD v ≠ some "str") : g_parts_of [.d v] μ = some (.ex (.txt (.int (-1))) μ) := by
  cases v <;> simp [eV_app, startS, eIsi, eNot, eAnd, eOr, eChain, sRet, sSeq, sSet, sIf, sNx, sDrop, sRaise, sRetN, aCons, eB, eCall, eTup, eLst, eIf, bAnd, bOr, bNot, tst, allD, viewT, viewL, viewX, tyD, isiB, hName, hTup, hsCons, hsNil, iSeq, wipeS, sAsg, gLe, gLt, gGe, gGt, gSub, gI20, gIsN, gNotN, gNotB, newL, eCut, ePart, gCut, iZip2, sFor, iAny, gIntA, gInA, gMulA, gEqA, gNeA] at hv h <;> simp [eV_app, startS, eIsi, eNot, eAnd, eOr, eChain, sRet, sSeq, sSet, sIf, sNx, sDrop, sRaise, sRetN, aCons, eB, eCall, eTup, eLst, eIf, bAnd, bOr, bNot, tst, allD, viewT, viewL, viewX, tyD, isiB, hName, hTup, hsCons, hsNil, iSeq, wipeS, sAsg, gLe, gLt, gGe, gGt, gSub, gI20, gIsN, gNotN, gNotB, newL, eCut, ePart, gCut, iZip2, sFor, iAny, gIntA, gInA, gMulA, gEqA, gNeA, g_parts_of, fb_parts_of, eNeg]
theorem x_parts_long {z : Str} {μ : List MO} (h : 1000 < z.length) (h2 : z.length ≤ 2000) : g_parts_of [.d (.str z)] μ = some (.ex (.txt (.int (-1))) μ) := by
  have h1 : (1000 : Int) < (z.length : Int) := by omega
  have h24 : z.length ≤ small24 := by unfold small24; omega
  simp [eV_app, startS, eIsi, eNot, eAnd, eOr, eChain, sRet, sSeq, sSet, sIf, sNx, sDrop, sRaise, sRetN, aCons, eB, eCall, eTup, eLst, eIf, bAnd, bOr, bNot, tst, allD, viewT, viewL, viewX, tyD, isiB, hName, hTup, hsCons, hsNil, iSeq, wipeS, sAsg, gLe, gLt, gGe, gGt, gSub, gI20, gIsN, gNotN, gNotB, newL, eCut, ePart, gCut, iZip2, sFor, iAny, gIntA, gInA, gMulA, gEqA, gNeA, g_parts_of, fb_parts_of, gLen, h24, h1, eNeg]
theorem slX_comp {p : Str} {ρ : List S} {μ : List MO} (hl : p.length ≤ 1000) (hρ : ρ[3]? = some (.d (.str p))) (h5 : 5 < ρ.length) : eLc false [5] (iAny (eV 3)) (hName 5) bYes (eIf (tst (e2 (gInA false) (eV 5) (eC (.str "0123456789")))) (eM1 gIndex (eC (.str "0123456789")) (eV 5)) (eC (.int (8)))) ρ μ = some (.ok (.d (.lst ((slX p).map .int))) μ) := by
  rw [eLc_m (xs := tl p) (it := fun c => .str (sgn c)) (y := fun c => .int (if 48 ≤ c ∧ c ≤ 57 then (c : Int) - 48 else 8))]
  · simp [eV_app, startS, eIsi, eNot, eAnd, eOr, eChain, sRet, sSeq, sSet, sIf, sNx, sDrop, sRaise, sRetN, aCons, eB, eCall, eTup, eLst, eIf, bAnd, bOr, bNot, tst, allD, viewT, viewL, viewX, tyD, isiB, hName, hTup, hsCons, hsNil, iSeq, wipeS, sAsg, gLe, gLt, gGe, gGt, gSub, gI20, gIsN, gNotN, gNotB, newL, eCut, ePart, gCut, iZip2, sFor, iAny, gIntA, gInA, gMulA, gEqA, gNeA, slX, List.map_map]
  · simp [eV_app, startS, eIsi, eNot, eAnd, eOr, eChain, sRet, sSeq, sSet, sIf, sNx, sDrop, sRaise, sRetN, aCons, eB, eCall, eTup, eLst, eIf, bAnd, bOr, bNot, tst, allD, viewT, viewL, viewX, tyD, isiB, hName, hTup, hsCons, hsNil, iSeq, wipeS, sAsg, gLe, gLt, gGe, gGt, gSub, gI20, gIsN, gNotN, gNotB, newL, eCut, ePart, gCut, iZip2, sFor, iAny, gIntA, gInA, gMulA, gEqA, gNeA, hρ, charsD]
  · rw [← len_tl]; unfold cap; omega
  · intro c hc
    refine ⟨_, rfl, ?_⟩
    have hf := fig_mem c
    have g5 : ((ρ.set 5 S.un).set 5 (S.d (D.str (sgn c))))[5]? = some (.d (.str (sgn c))) := by
      rw [List.getElem?_set_self (by simpa [eV_app, startS, eIsi, eNot, eAnd, eOr, eChain, sRet, sSeq, sSet, sIf, sNx, sDrop, sRaise, sRetN, aCons, eB, eCall, eTup, eLst, eIf, bAnd, bOr, bNot, tst, allD, viewT, viewL, viewX, tyD, isiB, hName, hTup, hsCons, hsNil, iSeq, wipeS, sAsg, gLe, gLt, gGe, gGt, gSub, gI20, gIsN, gNotN, gNotB, newL, eCut, ePart, gCut, iZip2, sFor, iAny, gIntA, gInA, gMulA, gEqA, gNeA] using h5)]
    by_cases h : 48 ≤ c ∧ c ≤ 57
    · have hm := hf.mpr h
      simp only [eIf, tst, e2_app, eV_app, eC_app, bE_ok, wipeS, g5, gInA, gInS_sgn, hm, decide_true, toB_ok, bB_ok, eM1, gIndex_fig h, if_pos h, Bool.false_eq_true, if_false]
    · have hm : ¬ c ∈ tl FIG := fun z => h (hf.mp z)
      simp only [eIf, tst, e2_app, eV_app, eC_app, bE_ok, wipeS, g5, gInA, gInS_sgn, hm, decide_false, toB_ok, bB_ok, if_neg h, Bool.false_eq_true, if_false]
theorem read_step {z s4 s5 : S} {k : Nat} {p : Str} {acc : List (List Int)} {μ : List MO} (hl : p.length ≤ 1000) (ha : acc.length ≤ 10) : lb_read_machine_0 [z, .m μ.length, .d (.int (k : Int)), .d (.str p), s4, s5] (μ ++ [.ml (acc.map tupI)]) =
    if okM p = true ∧ k ≤ 5 then some (.nx [z, .m μ.length, .d (.int (k : Int)), .d (.str p), .d (tupI (slX p)), s5] (μ ++ [.ml ((acc ++ [slM p]).map tupI)])) else some (.ex (.txt (.int (k : Int))) (μ ++ [.ml (acc.map tupI)])) := by
  have hc := slX_comp (ρ := [z, .m μ.length, .d (.int (k : Int)), .d (.str p), s4, s5]) (μ := μ ++ [.ml (acc.map tupI)]) hl rfl (by simp [eV_app, startS, eIsi, eNot, eAnd, eOr, eChain, sRet, sSeq, sSet, sIf, sNx, sDrop, sRaise, sRetN, aCons, eB, eCall, eTup, eLst, eIf, bAnd, bOr, bNot, tst, allD, viewT, viewL, viewX, tyD, isiB, hName, hTup, hsCons, hsNil, iSeq, wipeS, sAsg, gLe, gLt, gGe, gGt, gSub, gI20, gIsN, gNotN, gNotB, newL, eCut, ePart, gCut, iZip2, sFor, iAny, gIntA, gInA, gMulA, gEqA, gNeA])
  have hs := s_are_slots (v := tupI (slX p)) (least := 1) (μ := μ ++ [.ml (acc.map tupI)]) (ok_tupI 5 (slX p))
  rw [slots_okM] at hs
  unfold lb_read_machine_0
  refine sSeq_nx (sSet_ok (s := .d (tupI (slX p))) (μ1 := μ ++ [.ml (acc.map tupI)]) (eB_1 hc (by simp [eV_app, startS, eIsi, eNot, eAnd, eOr, eChain, sRet, sSeq, sSet, sIf, sNx, sDrop, sRaise, sRetN, aCons, eB, eCall, eTup, eLst, eIf, bAnd, bOr, bNot, tst, allD, viewT, viewL, viewX, tyD, isiB, hName, hTup, hsCons, hsNil, iSeq, wipeS, sAsg, gLe, gLt, gGe, gGt, gSub, gI20, gIsN, gNotN, gNotB, newL, eCut, ePart, gCut, iZip2, sFor, iAny, gIntA, gInA, gMulA, gEqA, gNeA, gTup, tupI]))) ?_
  simp only [List.set_cons_succ, List.set_cons_zero]
  have hcap : acc.length < cap := by unfold cap; omega
  cases h : okM p with
  | false =>
    rw [h] at hs
    simp [eV_app, startS, eIsi, eNot, eAnd, eOr, eChain, sRet, sSeq, sSet, sIf, sNx, sDrop, sRaise, sRetN, aCons, eB, eCall, eTup, eLst, eIf, bAnd, bOr, bNot, tst, allD, viewT, viewL, viewX, tyD, isiB, hName, hTup, hsCons, hsNil, iSeq, wipeS, sAsg, gLe, gLt, gGe, gGt, gSub, gI20, gIsN, gNotN, gNotB, newL, eCut, ePart, gCut, iZip2, sFor, iAny, gIntA, gInA, gMulA, gEqA, gNeA, hs]
  | true =>
    rw [h] at hs
    have ex : slX p = slM p := slX_eq (okM_iff.mp h).2.1
    rw [ex] at hs ⊢
    by_cases h5 : k ≤ 5
    · have h6 : ¬ (6 : Int) ≤ (k : Int) := by omega
      simp [eV_app, startS, eIsi, eNot, eAnd, eOr, eChain, sRet, sSeq, sSet, sIf, sNx, sDrop, sRaise, sRetN, aCons, eB, eCall, eTup, eLst, eIf, bAnd, bOr, bNot, tst, allD, viewT, viewL, viewX, tyD, isiB, hName, hTup, hsCons, hsNil, iSeq, wipeS, sAsg, gLe, gLt, gGe, gGt, gSub, gI20, gIsN, gNotN, gNotB, newL, eCut, ePart, gCut, iZip2, sFor, iAny, gIntA, gInA, gMulA, gEqA, gNeA, hs, h5, h6, eAppend, isML, hcap]
    · have h6 : (6 : Int) ≤ (k : Int) := by omega
      simp [eV_app, startS, eIsi, eNot, eAnd, eOr, eChain, sRet, sSeq, sSet, sIf, sNx, sDrop, sRaise, sRetN, aCons, eB, eCall, eTup, eLst, eIf, bAnd, bOr, bNot, tst, allD, viewT, viewL, viewX, tyD, isiB, hName, hTup, hsCons, hsNil, iSeq, wipeS, sAsg, gLe, gLt, gGe, gGt, gSub, gI20, gIsN, gNotN, gNotB, newL, eCut, ePart, gCut, iZip2, sFor, iAny, gIntA, gInA, gMulA, gEqA, gNeA, hs, h5, h6]
theorem read_loop {z : S} {μ : List MO} : ∀ (ps : List Str) (k : Nat) (acc : List (List Int)) (s2 s3 s4 s5 : S), (∀ p ∈ ps, p.length ≤ 1000) → acc.length = k → k ≤ 6 →
    (∃ acc' b2 b3 b4, resM k ps acc = .inl acc' ∧ forF (hTup 2 (hsCons (hName 2) (hsCons (hName 3) hsNil))) lb_read_machine_0 (enumK k (ps.map .str)) [z, .m μ.length, s2, s3, s4, s5] (μ ++ [.ml (acc.map tupI)]) = some (.nx [z, .m μ.length, b2, b3, b4, s5] (μ ++ [.ml (acc'.map tupI)]))) ∨
    (∃ at' x, resM k ps acc = .inr at' ∧ forF (hTup 2 (hsCons (hName 2) (hsCons (hName 3) hsNil))) lb_read_machine_0 (enumK k (ps.map .str)) [z, .m μ.length, s2, s3, s4, s5] (μ ++ [.ml (acc.map tupI)]) = some (.ex (.txt (.int (at' : Nat))) (μ ++ [x])))
  | [], k, acc, s2, s3, s4, s5, _, _, _ => .inl ⟨acc, s2, s3, s4, rfl, rfl⟩
  | p :: ps, k, acc, s2, s3, s4, s5, hp, ha, hk => by
    have hst := read_step (z := z) (s4 := s4) (s5 := s5) (k := k) (p := p) (acc := acc) (μ := μ) (hp p List.mem_cons_self) (by omega)
    have e0 : hTup 2 (hsCons (hName 2) (hsCons (hName 3) hsNil)) (.tup [.int (k : Int), .str p]) [z, .m μ.length, s2, s3, s4, s5] = some [z, .m μ.length, .d (.int (k : Int)), .d (.str p), s4, s5] := rfl
    rw [List.map_cons]
    unfold enumK forF resM
    simp only [e0, hst]
    by_cases h : okM p = true ∧ k ≤ 5
    · simp only [if_pos h]
      exact read_loop ps (k + 1) (acc ++ [slM p]) _ _ _ _ (fun q hq => hp q (List.mem_cons_of_mem _ hq)) (by simp [eV_app, startS, eIsi, eNot, eAnd, eOr, eChain, sRet, sSeq, sSet, sIf, sNx, sDrop, sRaise, sRetN, aCons, eB, eCall, eTup, eLst, eIf, bAnd, bOr, bNot, tst, allD, viewT, viewL, viewX, tyD, isiB, hName, hTup, hsCons, hsNil, iSeq, wipeS, sAsg, gLe, gLt, gGe, gGt, gSub, gI20, gIsN, gNotN, gNotB, newL, eCut, ePart, gCut, iZip2, sFor, iAny, gIntA, gInA, gMulA, gEqA, gNeA, ha]) (by omega)
    · simp only [if_neg h]
      exact .inr ⟨k, _, rfl, rfl⟩
/-- what reading a machine comes to -/
theorem s_read_machine {z : Str} {μ : List MO} (h : z.length ≤ 1000) : (∃ m, resM 0 (prt z) [] = .inl m ∧ g_read_machine [.d (.str z)] μ = some (.ok (.d (mcD m)) μ)) ∨ (∃ k, resM 0 (prt z) [] = .inr k ∧ g_read_machine [.d (.str z)] μ = some (.ex (.txt (.int (k : Nat))) μ)) := by
  have hp := s_parts_of (z := z) (μ := μ ++ [.ml []]) h
  rcases read_loop (z := .d (.str z)) (μ := μ) (prt z) 0 [] .un .un .un .un (fun p hp => Nat.le_trans (prt_mem hp).2 h) rfl (by omega) with ⟨acc, b2, b3, b4, e1, e2⟩ | ⟨k, x, e1, e2⟩
  · refine .inl ⟨acc, e1, ?_⟩
    simp only [List.map_nil, ← enumD_K] at e2
    simp [eV_app, startS, eIsi, eNot, eAnd, eOr, eChain, sRet, sSeq, sSet, sIf, sNx, sDrop, sRaise, sRetN, aCons, eB, eCall, eTup, eLst, eIf, bAnd, bOr, bNot, tst, allD, viewT, viewL, viewX, tyD, isiB, hName, hTup, hsCons, hsNil, iSeq, wipeS, sAsg, gLe, gLt, gGe, gGt, gSub, gI20, gIsN, gNotN, gNotB, newL, eCut, ePart, gCut, iZip2, sFor, iAny, gIntA, gInA, gMulA, gEqA, gNeA, g_read_machine, fb_read_machine, iEnm, hp, e2, gTup, mcD]
  · refine .inr ⟨k, e1, ?_⟩
    simp only [List.map_nil, ← enumD_K] at e2
    simp [eV_app, startS, eIsi, eNot, eAnd, eOr, eChain, sRet, sSeq, sSet, sIf, sNx, sDrop, sRaise, sRetN, aCons, eB, eCall, eTup, eLst, eIf, bAnd, bOr, bNot, tst, allD, viewT, viewL, viewX, tyD, isiB, hName, hTup, hsCons, hsNil, iSeq, wipeS, sAsg, gLe, gLt, gGe, gGt, gSub, gI20, gIsN, gNotN, gNotB, newL, eCut, ePart, gCut, iZip2, sFor, iAny, gIntA, gInA, gMulA, gEqA, gNeA, g_read_machine, fb_read_machine, iEnm, hp, e2]
end K05
end

section
set_option linter.all false
set_option maxRecDepth 100000
set_option maxHeartbeats 1000000
namespace K05
open PySem DL
theorem rgI_cons {a b : Int} (h : a < b) : rgI a b = a :: rgI (a + 1) b := by
  unfold rgI
  have : (b - a).toNat = (b - (a + 1)).toNat + 1 := by omega
  rw [this, List.range_succ_eq_map, List.map_cons, List.map_map]
  congr 1
  · simp [eV_app, startS, eIsi, eNot, eAnd, eOr, eChain, sRet, sSeq, sSet, sIf, sNx, sDrop, sRaise, sRetN, aCons, eB, eCall, eTup, eLst, eIf, bAnd, bOr, bNot, tst, allD, viewT, viewL, viewX, tyD, isiB, hName, hTup, hsCons, hsNil, iSeq, wipeS, sAsg, gLe, gLt, gGe, gGt, gSub, gI20, gIsN, gNotN, gNotB, newL, eCut, ePart, gCut, iZip2, sFor, iAny, gIntA, gInA, gMulA, gEqA, gNeA]
  · apply List.map_congr_left
    intro x _
    simp only [Function.comp]
    omega
theorem dedI_small {ns : List Int} {a b : Int} (h : ∀ x ∈ ns, a ≤ x ∧ x < b) (hab : a ≤ b) : ((dedI ns).length : Int) ≤ b - a := by
  have hp := sortI_perm (dedI ns)
  have h1 := sortI_sorted (dedI ns)
  have h2 : (sortI (dedI ns)).Nodup := hp.nodup_iff.mpr (dedI_nodup ns)
  have h3 : (sortI (dedI ns)).Pairwise (· < ·) := (h1.and h2).imp fun ⟨a, b⟩ => by omega
  have := asc_len h3 (fun x hx => h x ((dedI_mem ns x).mp (hp.mem_iff.mp hx))) hab
  rw [hp.length_eq] at this
  exact this
theorem str_beq {a b : Str} : (a == b) = decide (tl a = tl b) := by
  by_cases h : a = b
  · subst h; simp [eV_app, startS, eIsi, eNot, eAnd, eOr, eChain, sRet, sSeq, sSet, sIf, sNx, sDrop, sRaise, sRetN, aCons, eB, eCall, eTup, eLst, eIf, bAnd, bOr, bNot, tst, allD, viewT, viewL, viewX, tyD, isiB, hName, hTup, hsCons, hsNil, iSeq, wipeS, sAsg, gLe, gLt, gGe, gGt, gSub, gI20, gIsN, gNotN, gNotB, newL, eCut, ePart, gCut, iZip2, sFor, iAny, gIntA, gInA, gMulA, gEqA, gNeA]
  · have h' : ¬ tl a = tl b := fun z => h (ext_tl z)
    rw [decide_eq_false h']
    simpa [eV_app, startS, eIsi, eNot, eAnd, eOr, eChain, sRet, sSeq, sSet, sIf, sNx, sDrop, sRaise, sRetN, aCons, eB, eCall, eTup, eLst, eIf, bAnd, bOr, bNot, tst, allD, viewT, viewL, viewX, tyD, isiB, hName, hTup, hsCons, hsNil, iSeq, wipeS, sAsg, gLe, gLt, gGe, gGt, gSub, gI20, gIsN, gNotN, gNotB, newL, eCut, ePart, gCut, iZip2, sFor, iAny, gIntA, gInA, gMulA, gEqA, gNeA] using h
theorem ok_sgns {p : Str} (h : Real p) (q : Nat → Bool) : okD 20 (.lst (((tl p).filter q).map fun c => .str (sgn c))) = true := by
  simp only [okD]
  refine okDs_map _ _ fun c hc => ?_
  have : Real (sgn c) := fun d hd => by
    have hd : d = c := by simpa [eV_app, startS, eIsi, eNot, eAnd, eOr, eChain, sRet, sSeq, sSet, sIf, sNx, sDrop, sRaise, sRetN, aCons, eB, eCall, eTup, eLst, eIf, bAnd, bOr, bNot, tst, allD, viewT, viewL, viewX, tyD, isiB, hName, hTup, hsCons, hsNil, iSeq, wipeS, sAsg, gLe, gLt, gGe, gGt, gSub, gI20, gIsN, gNotN, gNotB, newL, eCut, ePart, gCut, iZip2, sFor, iAny, gIntA, gInA, gMulA, gEqA, gNeA, tl, sgn] using hd
    subst hd
    exact h d (List.mem_filter.mp hc).1
  exact this.okD _
theorem eqv_nil (xs : List D) : eqvDs xs [] = xs.isEmpty := by cases xs <;> simp [eV_app, startS, eIsi, eNot, eAnd, eOr, eChain, sRet, sSeq, sSet, sIf, sNx, sDrop, sRaise, sRetN, aCons, eB, eCall, eTup, eLst, eIf, bAnd, bOr, bNot, tst, allD, viewT, viewL, viewX, tyD, isiB, hName, hTup, hsCons, hsNil, iSeq, wipeS, sAsg, gLe, gLt, gGe, gGt, gSub, gI20, gIsN, gNotN, gNotB, newL, eCut, ePart, gCut, iZip2, sFor, iAny, gIntA, gInA, gMulA, gEqA, gNeA, eqvDs]
/-- the signs of a part that are none of some others -/
theorem odd_comp {p u : Str} {fe : EF} {k : Nat} {ρ : List S} {μ : List MO} (hl : p.length ≤ 1000) (hr : Real p) (he : fe ρ μ = some (.ok (.d (.str p)) μ)) (hk : k < ρ.length) :
    e2 gNeA (eLc false [k] (iAny fe) (hName k) (tst (e2 (gInA true) (eV k) (eC (.str u)))) (eV k)) (eLst false aNil) ρ μ = some (.ok (.d (.bl (!decide (∀ c ∈ tl p, c ∈ tl u)))) μ) := by
  have g : ∀ c : Nat, ((ρ.set k S.un).set k (S.d (D.str (sgn c))))[k]? = some (.d (.str (sgn c))) := fun c => by
    rw [List.getElem?_set_self (by simpa [eV_app, startS, eIsi, eNot, eAnd, eOr, eChain, sRet, sSeq, sSet, sIf, sNx, sDrop, sRaise, sRetN, aCons, eB, eCall, eTup, eLst, eIf, bAnd, bOr, bNot, tst, allD, viewT, viewL, viewX, tyD, isiB, hName, hTup, hsCons, hsNil, iSeq, wipeS, sAsg, gLe, gLt, gGe, gGt, gSub, gI20, gIsN, gNotN, gNotB, newL, eCut, ePart, gCut, iZip2, sFor, iAny, gIntA, gInA, gMulA, gEqA, gNeA] using hk)]
  have h1 := eLc_p (vs := [k]) (fi := iAny fe) (h := hName k) (c := tst (e2 (gInA true) (eV k) (eC (.str u)))) (e := eV k) (ρ := ρ) (μ := μ) (tl p) (fun c => .str (sgn c)) (fun c => !decide (c ∈ tl u)) (fun c => .str (sgn c))
    (by unfold iAny; simp only [he]; rfl) (by rw [← len_tl]; unfold cap; omega) (fun c hc => ⟨_, rfl, by simp only [tst, e2_app, eV_app, eC_app, bE_ok, wipeS, g, gInA, gInS_sgn, toB_ok, if_true], fun _ => by simp only [eV_app, wipeS, g]⟩)
  have ok1 := ok_sgns hr (fun c => !decide (c ∈ tl u))
  have ok2 : okD 20 (.lst []) = true := rfl
  have ee : (((tl p).filter fun c => !decide (c ∈ tl u)).map fun c => D.str (sgn c)).isEmpty = decide (∀ c ∈ tl p, c ∈ tl u) := by
    rw [List.isEmpty_map, Bool.eq_iff_iff, List.isEmpty_iff, List.filter_eq_nil_iff, decide_eq_true_eq]
    simp [eV_app, startS, eIsi, eNot, eAnd, eOr, eChain, sRet, sSeq, sSet, sIf, sNx, sDrop, sRaise, sRetN, aCons, eB, eCall, eTup, eLst, eIf, bAnd, bOr, bNot, tst, allD, viewT, viewL, viewX, tyD, isiB, hName, hTup, hsCons, hsNil, iSeq, wipeS, sAsg, gLe, gLt, gGe, gGt, gSub, gI20, gIsN, gNotN, gNotB, newL, eCut, ePart, gCut, iZip2, sFor, iAny, gIntA, gInA, gMulA, gEqA, gNeA]
  rw [e2_app, h1, bE_ok]
  have hl0 : eLst false aNil ρ μ = some (.ok (.d (.lst [])) μ) := by simp [eV_app, startS, eIsi, eNot, eAnd, eOr, eChain, sRet, sSeq, sSet, sIf, sNx, sDrop, sRaise, sRetN, aCons, eB, eCall, eTup, eLst, eIf, bAnd, bOr, bNot, tst, allD, viewT, viewL, viewX, tyD, isiB, hName, hTup, hsCons, hsNil, iSeq, wipeS, sAsg, gLe, gLt, gGe, gGt, gSub, gI20, gIsN, gNotN, gNotB, newL, eCut, ePart, gCut, iZip2, sFor, iAny, gIntA, gInA, gMulA, gEqA, gNeA]
  rw [hl0, bE_ok]
  simp only [gNeA, gNe, toD, ok1, ok2, and_self, if_true, eqvD, eqv_nil, ee]
theorem int_comp {p : Str} {fe : EF} {k : Nat} {ρ : List S} {μ : List MO} (hl : p.length ≤ 1000) (hd : ∀ c ∈ tl p, 48 ≤ c ∧ c ≤ 57) (he : fe ρ μ = some (.ok (.d (.str p)) μ)) (hk : k < ρ.length) :
    eLc false [k] (iAny fe) (hName k) bYes (eB gIntA (aCons (eV k) aNil)) ρ μ = some (.ok (.d (.lst ((slM p).map .int))) μ) := by
  have g : ∀ c : Nat, ((ρ.set k S.un).set k (S.d (D.str (sgn c))))[k]? = some (.d (.str (sgn c))) := fun c => by
    rw [List.getElem?_set_self (by simpa [eV_app, startS, eIsi, eNot, eAnd, eOr, eChain, sRet, sSeq, sSet, sIf, sNx, sDrop, sRaise, sRetN, aCons, eB, eCall, eTup, eLst, eIf, bAnd, bOr, bNot, tst, allD, viewT, viewL, viewX, tyD, isiB, hName, hTup, hsCons, hsNil, iSeq, wipeS, sAsg, gLe, gLt, gGe, gGt, gSub, gI20, gIsN, gNotN, gNotB, newL, eCut, ePart, gCut, iZip2, sFor, iAny, gIntA, gInA, gMulA, gEqA, gNeA] using hk)]
  rw [eLc_m (xs := tl p) (it := fun c => .str (sgn c)) (y := fun (c : Nat) => .int ((c : Int) - 48))]
  · simp [eV_app, startS, eIsi, eNot, eAnd, eOr, eChain, sRet, sSeq, sSet, sIf, sNx, sDrop, sRaise, sRetN, aCons, eB, eCall, eTup, eLst, eIf, bAnd, bOr, bNot, tst, allD, viewT, viewL, viewX, tyD, isiB, hName, hTup, hsCons, hsNil, iSeq, wipeS, sAsg, gLe, gLt, gGe, gGt, gSub, gI20, gIsN, gNotN, gNotB, newL, eCut, ePart, gCut, iZip2, sFor, iAny, gIntA, gInA, gMulA, gEqA, gNeA, slM, List.map_map]
  · unfold iAny; simp only [he]; rfl
  · rw [← len_tl]; unfold cap; omega
  · intro c hc
    refine ⟨_, rfl, ?_⟩
    simp only [eB, aCons, eV_app, aNil_app, wipeS, g, bAE_ok, gIntA, gIntS_sgn (hd c hc)]
theorem due_step {z s4 s5 : S} {k : Nat} {p : Str} {parts : List Str} {acc : List (List Int)} {μ : List MO} (hl : p.length ≤ 1000) (hr : Real p) (ha : acc.length ≤ 10) (hk : parts[k]? = some p) :
    (okM p = true ∧ k ≤ 5 → ∃ b5, lb__law_machine_due_0 [z, .m μ.length, .d (.lst (parts.map .str)), .d (.int (k : Int)), s4, s5] (μ ++ [.ml (acc.map tupI)]) = some (.nx [z, .m μ.length, .d (.lst (parts.map .str)), .d (.int (k : Int)), s4, b5] (μ ++ [.ml ((acc ++ [slM p]).map tupI)]))) ∧
    (¬ (okM p = true ∧ k ≤ 5) → lb__law_machine_due_0 [z, .m μ.length, .d (.lst (parts.map .str)), .d (.int (k : Int)), s4, s5] (μ ++ [.ml (acc.map tupI)]) = some (.ret (.d (.tup [.str "bad", .int (k : Int)])) (μ ++ [.ml (acc.map tupI)]))) := by
  have hat : L2.atI (parts.map D.str) (k : Int) = some (.str p) := by
    obtain ⟨x, x1, x2⟩ := atI_map D.str (xs := parts) (r := (k : Int)) (by omega) (by have := (List.getElem?_eq_some_iff.mp hk).1; omega)
    rw [Int.toNat_natCast, hk] at x1
    cases x1; exact x2
  generalize hμ : μ ++ [MO.ml (acc.map tupI)] = μ1
  have hp : ∀ s5, (e2 gIx (eV 2) (eV 3)) [z, .m μ.length, .d (.lst (parts.map .str)), .d (.int (k : Int)), s4, s5] μ1 = some (.ok (.d (.str p)) μ1) := fun s5 => by simp [eV_app, startS, eIsi, eNot, eAnd, eOr, eChain, sRet, sSeq, sSet, sIf, sNx, sDrop, sRaise, sRetN, aCons, eB, eCall, eTup, eLst, eIf, bAnd, bOr, bNot, tst, allD, viewT, viewL, viewX, tyD, isiB, hName, hTup, hsCons, hsNil, iSeq, wipeS, sAsg, gLe, gLt, gGe, gGt, gSub, gI20, gIsN, gNotN, gNotB, newL, eCut, ePart, gCut, iZip2, sFor, iAny, gIntA, gInA, gMulA, gEqA, gNeA, gIx, hat]
  have hodd := odd_comp (u := "01234567") (k := 4) (ρ := [z, .m μ.length, .d (.lst (parts.map .str)), .d (.int (k : Int)), s4, s5]) hl hr (hp s5) (by simp [eV_app, startS, eIsi, eNot, eAnd, eOr, eChain, sRet, sSeq, sSet, sIf, sNx, sDrop, sRaise, sRetN, aCons, eB, eCall, eTup, eLst, eIf, bAnd, bOr, bNot, tst, allD, viewT, viewL, viewX, tyD, isiB, hName, hTup, hsCons, hsNil, iSeq, wipeS, sAsg, gLe, gLt, gGe, gGt, gSub, gI20, gIsN, gNotN, gNotB, newL, eCut, ePart, gCut, iZip2, sFor, iAny, gIntA, gInA, gMulA, gEqA, gNeA])
  have h8 : (∀ c ∈ tl p, c ∈ tl ("01234567" : Str)) ↔ ∀ c ∈ tl p, 48 ≤ c ∧ c ≤ 55 := by
    constructor
    · exact fun h c hc => (fig8_mem c).mp (h c hc)
    · exact fun h c hc => (fig8_mem c).mpr (h c hc)
  have hret : ∀ s5, (sRet (eTup (aCons (eC (.str "bad")) (aCons (eV 3) aNil)))) [z, .m μ.length, .d (.lst (parts.map .str)), .d (.int (k : Int)), s4, s5] μ1 = some (.ret (.d (.tup [.str "bad", .int (k : Int)])) μ1) := fun s5 => by simp [eV_app, startS, eIsi, eNot, eAnd, eOr, eChain, sRet, sSeq, sSet, sIf, sNx, sDrop, sRaise, sRetN, aCons, eB, eCall, eTup, eLst, eIf, bAnd, bOr, bNot, tst, allD, viewT, viewL, viewX, tyD, isiB, hName, hTup, hsCons, hsNil, iSeq, wipeS, sAsg, gLe, gLt, gGe, gGt, gSub, gI20, gIsN, gNotN, gNotB, newL, eCut, ePart, gCut, iZip2, sFor, iAny, gIntA, gInA, gMulA, gEqA, gNeA]
  have hem : (e2 gEqA (e2 gIx (eV 2) (eV 3)) (eC (.str ""))) [z, .m μ.length, .d (.lst (parts.map .str)), .d (.int (k : Int)), s4, s5] μ1 = some (.ok (.d (.bl (decide (tl p = [])))) μ1) := by
    rw [e2_app, hp s5, bE_ok, eC_app, bE_ok]
    show some (ER.ok (.d (.bl (p == ""))) μ1) = _
    rw [str_beq]
    rfl
  have hgt : (e2 gGt (eV 3) (eC (.int 5))) [z, .m μ.length, .d (.lst (parts.map .str)), .d (.int (k : Int)), s4, s5] μ1 = some (.ok (.d (.bl (decide ((5 : Int) < (k : Int))))) μ1) := by simp [eV_app, startS, eIsi, eNot, eAnd, eOr, eChain, sRet, sSeq, sSet, sIf, sNx, sDrop, sRaise, sRetN, aCons, eB, eCall, eTup, eLst, eIf, bAnd, bOr, bNot, tst, allD, viewT, viewL, viewX, tyD, isiB, hName, hTup, hsCons, hsNil, iSeq, wipeS, sAsg, gLe, gLt, gGe, gGt, gSub, gI20, gIsN, gNotN, gNotB, newL, eCut, ePart, gCut, iZip2, sFor, iAny, gIntA, gInA, gMulA, gEqA, gNeA]
  unfold lb__law_machine_due_0
  by_cases hne : tl p = []
  · have hno : ¬ (okM p = true ∧ k ≤ 5) := fun h => (okM_iff.mp h.1).1 hne
    refine ⟨fun h => absurd h hno, fun _ => ?_⟩
    simp only [sSeq, sIf, bOr, tst, hem, hne, decide_true, toB_ok, bBB_ok, hret]
  · by_cases hsg : ∀ c ∈ tl p, 48 ≤ c ∧ c ≤ 55
    · have hc := int_comp (fe := e2 gIx (eV 2) (eV 3)) (k := 4) (ρ := [z, .m μ.length, .d (.lst (parts.map .str)), .d (.int (k : Int)), s4, s5]) hl (fun c hc => by have := hsg c hc; omega) (hp s5) (by simp [eV_app, startS, eIsi, eNot, eAnd, eOr, eChain, sRet, sSeq, sSet, sIf, sNx, sDrop, sRaise, sRetN, aCons, eB, eCall, eTup, eLst, eIf, bAnd, bOr, bNot, tst, allD, viewT, viewL, viewX, tyD, isiB, hName, hTup, hsCons, hsNil, iSeq, wipeS, sAsg, gLe, gLt, gGe, gGt, gSub, gI20, gIsN, gNotN, gNotB, newL, eCut, ePart, gCut, iZip2, sFor, iAny, gIntA, gInA, gMulA, gEqA, gNeA])
      rw [decide_eq_true (h8.mpr hsg)] at hodd
      by_cases h5 : k ≤ 5
      · have h5' : ¬ (5 : Int) < (k : Int) := by omega
        have hds := dedI_small (slM_in hsg) (by omega)
        have hln : (slM p).length ≤ 4000 := by rw [slM_len, ← len_tl]; omega
        have hd64 : (dedI (slM p)).length < 64 := by omega
        have ok3 : okD 20 (.lst ((slM p).map D.int)) = true := by simp only [okD]; exact okDs_map _ _ fun x _ => ok_int _ x
        have ok4 : okD 20 (.lst ((sortI (dedI (slM p))).map D.int)) = true := by simp only [okD]; exact okDs_map _ _ fun x _ => ok_int _ x
        have hne2 : (e2 gNeA (eV 5) (eSortedSet false (eV 5))) [z, .m μ.length, .d (.lst (parts.map .str)), .d (.int (k : Int)), s4, .d (.lst ((slM p).map .int))] μ1 = some (.ok (.d (.bl (!ascB (slM p)))) μ1) := by
          simp [eV_app, startS, eIsi, eNot, eAnd, eOr, eChain, sRet, sSeq, sSet, sIf, sNx, sDrop, sRaise, sRetN, aCons, eB, eCall, eTup, eLst, eIf, bAnd, bOr, bNot, tst, allD, viewT, viewL, viewX, tyD, isiB, hName, hTup, hsCons, hsNil, iSeq, wipeS, sAsg, gLe, gLt, gGe, gGt, gSub, gI20, gIsN, gNotN, gNotB, newL, eCut, ePart, gCut, iZip2, sFor, iAny, gIntA, gInA, gMulA, gEqA, gNeA, eSortedSet, viewS, allInts_map, hln, hd64, gNe, toD, ok3, ok4, eqvD, eqv_ints, sorted_set]
        have hcap : acc.length < cap := by unfold cap; omega
        have hst : ∀ (f : SF), sSeq (sIf (bOr (tst (e2 gEqA (e2 gIx (eV 2) (eV 3)) (eC (.str "")))) (bOr (tst (e2 gNeA (eLc false [4] (iAny (e2 gIx (eV 2) (eV 3))) (hName 4) (tst (e2 (gInA true) (eV 4) (eC (.str "01234567")))) (eV 4)) (eLst false aNil))) (tst (e2 gGt (eV 3) (eC (.int 5)))))) (sRet (eTup (aCons (eC (.str "bad")) (aCons (eV 3) aNil)))) sNx) f [z, .m μ.length, .d (.lst (parts.map .str)), .d (.int (k : Int)), s4, s5] μ1 = f [z, .m μ.length, .d (.lst (parts.map .str)), .d (.int (k : Int)), s4, s5] μ1 := fun f => by
          simp only [sSeq, sIf, bOr, tst, hem, hne, decide_false, toB_ok, bBB_ok, hodd, Bool.not_true, hgt, h5', sNx]
        refine ⟨fun h => ⟨.d (.lst ((slM p).map .int)), ?_⟩, fun h => ?_⟩
        · have h3 : ascB (slM p) = true := (okM_iff.mp h.1).2.2
          rw [h3] at hne2
          rw [hst]
          refine sSeq_nx (sSet_ok hc) ?_
          simp only [List.set_cons_succ, List.set_cons_zero]
          refine sSeq_nx (ρ1 := [z, .m μ.length, .d (.lst (parts.map .str)), .d (.int (k : Int)), s4, .d (.lst ((slM p).map .int))]) (μ1 := μ1) (by simp only [sIf, tst, hne2, Bool.not_true, toB_ok, sNx]) ?_
          rw [← hμ]
          simp [eV_app, startS, eIsi, eNot, eAnd, eOr, eChain, sRet, sSeq, sSet, sIf, sNx, sDrop, sRaise, sRetN, aCons, eB, eCall, eTup, eLst, eIf, bAnd, bOr, bNot, tst, allD, viewT, viewL, viewX, tyD, isiB, hName, hTup, hsCons, hsNil, iSeq, wipeS, sAsg, gLe, gLt, gGe, gGt, gSub, gI20, gIsN, gNotN, gNotB, newL, eCut, ePart, gCut, iZip2, sFor, iAny, gIntA, gInA, gMulA, gEqA, gNeA, eAppend, isML, hcap, gTup, tupI]
        · have h3 : ascB (slM p) = false := by
            cases ha : ascB (slM p) with
            | false => rfl
            | true => exact absurd ⟨okM_iff.mpr ⟨hne, hsg, ha⟩, h5⟩ h
          rw [h3] at hne2
          rw [hst]
          refine sSeq_nx (sSet_ok hc) ?_
          simp only [List.set_cons_succ, List.set_cons_zero]
          simp only [sSeq, sIf, tst, hne2, Bool.not_false, toB_ok, hret]
      · have h5' : (5 : Int) < (k : Int) := by omega
        refine ⟨fun h => absurd h.2 h5, fun _ => ?_⟩
        simp only [sSeq, sIf, bOr, tst, hem, hne, decide_false, toB_ok, bBB_ok, hodd, Bool.not_true, hgt, h5', decide_true, hret]
    · have hno : ¬ (okM p = true ∧ k ≤ 5) := fun h => hsg (okM_iff.mp h.1).2.1
      refine ⟨fun h => absurd h hno, fun _ => ?_⟩
      rw [decide_eq_false (fun z => hsg (h8.mp z))] at hodd
      simp only [sSeq, sIf, bOr, tst, hem, hne, decide_false, toB_ok, bBB_ok, hodd, Bool.not_false, hret]
theorem due_loop {z s4 : S} {parts : List Str} {μ : List MO} : ∀ (ps : List Str) (k : Nat) (acc : List (List Int)) (s3 s5 : S), (∀ i, parts[k + i]? = ps[i]?) → parts.length = k + ps.length → (∀ p ∈ ps, p.length ≤ 1000 ∧ Real p) → acc.length = k → k ≤ 6 →
    (∃ acc' b3 b5, resM k ps acc = .inl acc' ∧ forF (hName 3) lb__law_machine_due_0 ((rgI k (k + ps.length)).map .int) [z, .m μ.length, .d (.lst (parts.map .str)), s3, s4, s5] (μ ++ [.ml (acc.map tupI)]) = some (.nx [z, .m μ.length, .d (.lst (parts.map .str)), b3, s4, b5] (μ ++ [.ml (acc'.map tupI)]))) ∨
    (∃ at' x, resM k ps acc = .inr at' ∧ forF (hName 3) lb__law_machine_due_0 ((rgI k (k + ps.length)).map .int) [z, .m μ.length, .d (.lst (parts.map .str)), s3, s4, s5] (μ ++ [.ml (acc.map tupI)]) = some (.ret (.d (.tup [.str "bad", .int (at' : Nat)])) (μ ++ [x])))
  | [], k, acc, s3, s5, _, _, _, _, _ => .inl ⟨acc, s3, s5, rfl, by rw [rgI_nil (by simp [eV_app, startS, eIsi, eNot, eAnd, eOr, eChain, sRet, sSeq, sSet, sIf, sNx, sDrop, sRaise, sRetN, aCons, eB, eCall, eTup, eLst, eIf, bAnd, bOr, bNot, tst, allD, viewT, viewL, viewX, tyD, isiB, hName, hTup, hsCons, hsNil, iSeq, wipeS, sAsg, gLe, gLt, gGe, gGt, gSub, gI20, gIsN, gNotN, gNotB, newL, eCut, ePart, gCut, iZip2, sFor, iAny, gIntA, gInA, gMulA, gEqA, gNeA])]; rfl⟩
  | p :: ps, k, acc, s3, s5, hi, hn, hp, ha, hk => by
    have h0 := hi 0
    simp only [Nat.add_zero, List.getElem?_cons_zero] at h0
    obtain ⟨st1, st2⟩ := due_step (z := z) (s4 := s4) (s5 := s5) (k := k) (p := p) (parts := parts) (acc := acc) (μ := μ) (hp p List.mem_cons_self).1 (hp p List.mem_cons_self).2 (by omega) h0
    rw [List.length_cons, show ((k : Int) + ((ps.length + 1 : Nat) : Int)) = ((k + 1 : Nat) : Int) + (ps.length : Int) by omega, rgI_cons (by omega), List.map_cons]
    have e0 : hName 3 (.int (k : Int)) [z, .m μ.length, .d (.lst (parts.map .str)), s3, s4, s5] = some [z, .m μ.length, .d (.lst (parts.map .str)), .d (.int (k : Int)), s4, s5] := rfl
    unfold forF resM
    by_cases h : okM p = true ∧ k ≤ 5
    · obtain ⟨b5, e1⟩ := st1 h
      simp only [e0, e1, if_pos h]
      have := due_loop (z := z) (s4 := s4) (parts := parts) (μ := μ) ps (k + 1) (acc ++ [slM p]) (.d (.int (k : Int))) b5 (fun i => by rw [show k + 1 + i = k + (i + 1) by omega, hi (i + 1)]; rfl) (by rw [hn, List.length_cons]; omega) (fun q hq => hp q (List.mem_cons_of_mem _ hq)) (by simp [eV_app, startS, eIsi, eNot, eAnd, eOr, eChain, sRet, sSeq, sSet, sIf, sNx, sDrop, sRaise, sRetN, aCons, eB, eCall, eTup, eLst, eIf, bAnd, bOr, bNot, tst, allD, viewT, viewL, viewX, tyD, isiB, hName, hTup, hsCons, hsNil, iSeq, wipeS, sAsg, gLe, gLt, gGe, gGt, gSub, gI20, gIsN, gNotN, gNotB, newL, eCut, ePart, gCut, iZip2, sFor, iAny, gIntA, gInA, gMulA, gEqA, gNeA, ha]) (by omega)
      simpa [eV_app, startS, eIsi, eNot, eAnd, eOr, eChain, sRet, sSeq, sSet, sIf, sNx, sDrop, sRaise, sRetN, aCons, eB, eCall, eTup, eLst, eIf, bAnd, bOr, bNot, tst, allD, viewT, viewL, viewX, tyD, isiB, hName, hTup, hsCons, hsNil, iSeq, wipeS, sAsg, gLe, gLt, gGe, gGt, gSub, gI20, gIsN, gNotN, gNotB, newL, eCut, ePart, gCut, iZip2, sFor, iAny, gIntA, gInA, gMulA, gEqA, gNeA] using this
    · simp only [e0, st2 h, if_neg h]
      exact .inr ⟨k, _, rfl, rfl⟩
theorem s_machine_due {z : Str} {μ : List MO} (h : z.length ≤ 1000) (hr : Real z) : (∃ m, resM 0 (prt z) [] = .inl m ∧ g__law_machine_due [.d (.str z)] μ = some (.ok (.d (.tup [.str "read", mcD m])) μ)) ∨ (∃ k, resM 0 (prt z) [] = .inr k ∧ g__law_machine_due [.d (.str z)] μ = some (.ok (.d (.tup [.str "bad", .int (k : Nat)])) μ)) := by
  have h24 : z.length ≤ small24 := by unfold small24; omega
  have hs : ((" " : Str).length == 0) = false := by decide
  have hg : ∀ μ, gSplit false z (.d (.str " ")) μ = some (.ok (.d (.lst ((prt z).map .str))) μ) := fun μ => by
    unfold gSplit
    simp only [hs, h24, and_self, if_true]
    rfl
  have hpl := prt_len z
  have hn : 0 ≤ ((prt z).length : Int) ∧ ((prt z).length : Int) ≤ 2 ^ 61 := by omega
  have hn2 : ((prt z).length : Int) ≤ 2305843009213693952 := by omega
  rcases due_loop (z := .d (.str z)) (s4 := .un) (parts := prt z) (μ := μ) (prt z) 0 [] .un .un (fun i => by rw [Nat.zero_add]) (by omega) (fun p hp => ⟨Nat.le_trans (prt_mem hp).2 h, hr.part hp⟩) rfl (by omega) with ⟨acc, b3, b5, e1, e2⟩ | ⟨k, x, e1, e2⟩
  · refine .inl ⟨acc, e1, ?_⟩
    simp only [List.map_nil, Int.natCast_zero, Int.zero_add] at e2
    simp [eV_app, startS, eIsi, eNot, eAnd, eOr, eChain, sRet, sSeq, sSet, sIf, sNx, sDrop, sRaise, sRetN, aCons, eB, eCall, eTup, eLst, eIf, bAnd, bOr, bNot, tst, allD, viewT, viewL, viewX, tyD, isiB, hName, hTup, hsCons, hsNil, iSeq, wipeS, sAsg, gLe, gLt, gGe, gGt, gSub, gI20, gIsN, gNotN, gNotB, newL, eCut, ePart, gCut, iZip2, sFor, iAny, gIntA, gInA, gMulA, gEqA, gNeA, g__law_machine_due, fb__law_machine_due, sPar, eM1, hg, iRg, gLen, hn, hn2, e2, gTup, mcD]
  · refine .inr ⟨k, e1, ?_⟩
    simp only [List.map_nil, Int.natCast_zero, Int.zero_add] at e2
    simp [eV_app, startS, eIsi, eNot, eAnd, eOr, eChain, sRet, sSeq, sSet, sIf, sNx, sDrop, sRaise, sRetN, aCons, eB, eCall, eTup, eLst, eIf, bAnd, bOr, bNot, tst, allD, viewT, viewL, viewX, tyD, isiB, hName, hTup, hsCons, hsNil, iSeq, wipeS, sAsg, gLe, gLt, gGe, gGt, gSub, gI20, gIsN, gNotN, gNotB, newL, eCut, ePart, gCut, iZip2, sFor, iAny, gIntA, gInA, gMulA, gEqA, gNeA, g__law_machine_due, fb__law_machine_due, sPar, eM1, hg, iRg, gLen, hn, hn2, e2]
end K05
end

section
set_option linter.all false
set_option maxRecDepth 100000
set_option maxHeartbeats 1000000
namespace K05
open PySem DL
/-! ### slices of a text -/
theorem cutS_to (z : Str) (k : Nat) : tl (L2.cutS z none (some (k : Int))) = (tl z).take k := by
  show ((tl z).drop (HT.sIx z.length 0 none)).take (HT.sIx z.length z.length (some (k : Int)) - HT.sIx z.length 0 none) = _
  rw [sIx_none, sIx_pos (by omega), len_tl]
  simp only [List.drop_zero, Nat.sub_zero, Int.toNat_natCast]
  rw [← List.take_take, List.take_length]
theorem cutS_from (z : Str) (k : Nat) : tl (L2.cutS z (some (k : Int)) none) = (tl z).drop k := by
  show ((tl z).drop (HT.sIx z.length 0 (some (k : Int)))).take (HT.sIx z.length z.length none - HT.sIx z.length 0 (some (k : Int))) = _
  rw [sIx_none, sIx_pos (by omega), len_tl]
  simp only [Int.toNat_natCast]
  by_cases h : k ≤ (tl z).length
  · rw [Nat.min_eq_left h, List.take_of_length_le]
    simp [eV_app, startS, eIsi, eNot, eAnd, eOr, eChain, sRet, sSeq, sSet, sIf, sNx, sDrop, sRaise, sRetN, aCons, eB, eCall, eTup, eLst, eIf, bAnd, bOr, bNot, tst, allD, viewT, viewL, viewX, tyD, isiB, hName, hTup, hsCons, hsNil, iSeq, wipeS, sAsg, gLe, gLt, gGe, gGt, gSub, gI20, gIsN, gNotN, gNotB, newL, eCut, ePart, gCut, iZip2, sFor, iAny, gIntA, gInA, gMulA, gEqA, gNeA]
  · rw [Nat.min_eq_right (by omega), List.drop_length, List.drop_of_length_le (by omega)]
    simp [eV_app, startS, eIsi, eNot, eAnd, eOr, eChain, sRet, sSeq, sSet, sIf, sNx, sDrop, sRaise, sRetN, aCons, eB, eCall, eTup, eLst, eIf, bAnd, bOr, bNot, tst, allD, viewT, viewL, viewX, tyD, isiB, hName, hTup, hsCons, hsNil, iSeq, wipeS, sAsg, gLe, gLt, gGe, gGt, gSub, gI20, gIsN, gNotN, gNotB, newL, eCut, ePart, gCut, iZip2, sFor, iAny, gIntA, gInA, gMulA, gEqA, gNeA]
theorem cutS_12 (z : Str) : tl (L2.cutS z (some 1) (some 2)) = ((tl z).drop 1).take 1 := by
  show ((tl z).drop (HT.sIx z.length 0 (some 1))).take (HT.sIx z.length z.length (some 2) - HT.sIx z.length 0 (some 1)) = _
  rw [sIx_pos (by omega), sIx_pos (by omega), len_tl]
  match tl z with
  | [] => simp [eV_app, startS, eIsi, eNot, eAnd, eOr, eChain, sRet, sSeq, sSet, sIf, sNx, sDrop, sRaise, sRetN, aCons, eB, eCall, eTup, eLst, eIf, bAnd, bOr, bNot, tst, allD, viewT, viewL, viewX, tyD, isiB, hName, hTup, hsCons, hsNil, iSeq, wipeS, sAsg, gLe, gLt, gGe, gGt, gSub, gI20, gIsN, gNotN, gNotB, newL, eCut, ePart, gCut, iZip2, sFor, iAny, gIntA, gInA, gMulA, gEqA, gNeA]
  | [a] => simp [eV_app, startS, eIsi, eNot, eAnd, eOr, eChain, sRet, sSeq, sSet, sIf, sNx, sDrop, sRaise, sRetN, aCons, eB, eCall, eTup, eLst, eIf, bAnd, bOr, bNot, tst, allD, viewT, viewL, viewX, tyD, isiB, hName, hTup, hsCons, hsNil, iSeq, wipeS, sAsg, gLe, gLt, gGe, gGt, gSub, gI20, gIsN, gNotN, gNotB, newL, eCut, ePart, gCut, iZip2, sFor, iAny, gIntA, gInA, gMulA, gEqA, gNeA]
  | a :: b :: r => simp [eV_app, startS, eIsi, eNot, eAnd, eOr, eChain, sRet, sSeq, sSet, sIf, sNx, sDrop, sRaise, sRetN, aCons, eB, eCall, eTup, eLst, eIf, bAnd, bOr, bNot, tst, allD, viewT, viewL, viewX, tyD, isiB, hName, hTup, hsCons, hsNil, iSeq, wipeS, sAsg, gLe, gLt, gGe, gGt, gSub, gI20, gIsN, gNotN, gNotB, newL, eCut, ePart, gCut, iZip2, sFor, iAny, gIntA, gInA, gMulA, gEqA, gNeA]
theorem gCut_str {mk : Bool} {z : Str} {lo hi : Option Int} {μ : List MO} (h : z.length ≤ 1000) : gCut mk (.d (.str z)) lo hi μ = some (.ok (.d (.str (L2.cutS z lo hi))) μ) := by
  have h24 : z.length ≤ small24 := by unfold small24; omega
  simp [eV_app, startS, eIsi, eNot, eAnd, eOr, eChain, sRet, sSeq, sSet, sIf, sNx, sDrop, sRaise, sRetN, aCons, eB, eCall, eTup, eLst, eIf, bAnd, bOr, bNot, tst, allD, viewT, viewL, viewX, tyD, isiB, hName, hTup, hsCons, hsNil, iSeq, wipeS, sAsg, gLe, gLt, gGe, gGt, gSub, gI20, gIsN, gNotN, gNotB, newL, eCut, ePart, gCut, iZip2, sFor, iAny, gIntA, gInA, gMulA, gEqA, gNeA, gCut, h24]
theorem cut_len (z : Str) (lo hi : Option Int) : (L2.cutS z lo hi).length ≤ z.length := by
  rw [len_tl, len_tl]
  show (((tl z).drop _).take _).length ≤ _
  simp [eV_app, startS, eIsi, eNot, eAnd, eOr, eChain, sRet, sSeq, sSet, sIf, sNx, sDrop, sRaise, sRetN, aCons, eB, eCall, eTup, eLst, eIf, bAnd, bOr, bNot, tst, allD, viewT, viewL, viewX, tyD, isiB, hName, hTup, hsCons, hsNil, iSeq, wipeS, sAsg, gLe, gLt, gGe, gGt, gSub, gI20, gIsN, gNotN, gNotB, newL, eCut, ePart, gCut, iZip2, sFor, iAny, gIntA, gInA, gMulA, gEqA, gNeA]; omega
theorem cut_mem {z : Str} {lo hi : Option Int} {c : Nat} (h : c ∈ tl (L2.cutS z lo hi)) : c ∈ tl z := by
  have h : c ∈ ((tl z).drop (HT.sIx z.length 0 lo)).take (HT.sIx z.length z.length hi - HT.sIx z.length 0 lo) := h
  exact List.mem_of_mem_drop (List.mem_of_mem_take h)
/-! ### numbers -/
def dv (t : List Nat) : Nat := NumText.digitsVal t
def okN (t : List Nat) : Bool := decide (t ≠ []) && t.all (fun c => decide (48 ≤ c) && decide (c ≤ 57)) && decide (t.length ≤ 3) && decide (t.head? ≠ some 48) && decide (dv t ≤ 200)
theorem okN_iff {t : List Nat} : okN t = true ↔ t ≠ [] ∧ (∀ c ∈ t, 48 ≤ c ∧ c ≤ 57) ∧ t.length ≤ 3 ∧ t.head? ≠ some 48 ∧ dv t ≤ 200 := by
  simp only [okN, Bool.and_eq_true, decide_eq_true_eq, List.all_eq_true]
  constructor
  · rintro ⟨⟨⟨⟨a, b⟩, c⟩, d⟩, e⟩; exact ⟨a, b, c, d, e⟩
  · rintro ⟨a, b, c, d, e⟩; exact ⟨⟨⟨⟨a, b⟩, c⟩, d⟩, e⟩
theorem dv_pos : ∀ {t : List Nat}, t ≠ [] → (∀ c ∈ t, 48 ≤ c ∧ c ≤ 57) → t.head? ≠ some 48 → t.length ≤ 4 → 1 ≤ dv t ∧ (t.length = 4 → 1000 ≤ dv t)
  | [], h, _, _, _ => absurd rfl h
  | [a], _, h, h0, _ => by
    have h1 := h a (by simp [eV_app, startS, eIsi, eNot, eAnd, eOr, eChain, sRet, sSeq, sSet, sIf, sNx, sDrop, sRaise, sRetN, aCons, eB, eCall, eTup, eLst, eIf, bAnd, bOr, bNot, tst, allD, viewT, viewL, viewX, tyD, isiB, hName, hTup, hsCons, hsNil, iSeq, wipeS, sAsg, gLe, gLt, gGe, gGt, gSub, gI20, gIsN, gNotN, gNotB, newL, eCut, ePart, gCut, iZip2, sFor, iAny, gIntA, gInA, gMulA, gEqA, gNeA])
    have h0 : a ≠ 48 := by simpa [eV_app, startS, eIsi, eNot, eAnd, eOr, eChain, sRet, sSeq, sSet, sIf, sNx, sDrop, sRaise, sRetN, aCons, eB, eCall, eTup, eLst, eIf, bAnd, bOr, bNot, tst, allD, viewT, viewL, viewX, tyD, isiB, hName, hTup, hsCons, hsNil, iSeq, wipeS, sAsg, gLe, gLt, gGe, gGt, gSub, gI20, gIsN, gNotN, gNotB, newL, eCut, ePart, gCut, iZip2, sFor, iAny, gIntA, gInA, gMulA, gEqA, gNeA] using h0
    simp [eV_app, startS, eIsi, eNot, eAnd, eOr, eChain, sRet, sSeq, sSet, sIf, sNx, sDrop, sRaise, sRetN, aCons, eB, eCall, eTup, eLst, eIf, bAnd, bOr, bNot, tst, allD, viewT, viewL, viewX, tyD, isiB, hName, hTup, hsCons, hsNil, iSeq, wipeS, sAsg, gLe, gLt, gGe, gGt, gSub, gI20, gIsN, gNotN, gNotB, newL, eCut, ePart, gCut, iZip2, sFor, iAny, gIntA, gInA, gMulA, gEqA, gNeA, dv, NumText.digitsVal]; omega
  | [a, b], _, h, h0, _ => by
    have h1 := h a (by simp [eV_app, startS, eIsi, eNot, eAnd, eOr, eChain, sRet, sSeq, sSet, sIf, sNx, sDrop, sRaise, sRetN, aCons, eB, eCall, eTup, eLst, eIf, bAnd, bOr, bNot, tst, allD, viewT, viewL, viewX, tyD, isiB, hName, hTup, hsCons, hsNil, iSeq, wipeS, sAsg, gLe, gLt, gGe, gGt, gSub, gI20, gIsN, gNotN, gNotB, newL, eCut, ePart, gCut, iZip2, sFor, iAny, gIntA, gInA, gMulA, gEqA, gNeA])
    have h2 := h b (by simp [eV_app, startS, eIsi, eNot, eAnd, eOr, eChain, sRet, sSeq, sSet, sIf, sNx, sDrop, sRaise, sRetN, aCons, eB, eCall, eTup, eLst, eIf, bAnd, bOr, bNot, tst, allD, viewT, viewL, viewX, tyD, isiB, hName, hTup, hsCons, hsNil, iSeq, wipeS, sAsg, gLe, gLt, gGe, gGt, gSub, gI20, gIsN, gNotN, gNotB, newL, eCut, ePart, gCut, iZip2, sFor, iAny, gIntA, gInA, gMulA, gEqA, gNeA])
    have h0 : a ≠ 48 := by simpa [eV_app, startS, eIsi, eNot, eAnd, eOr, eChain, sRet, sSeq, sSet, sIf, sNx, sDrop, sRaise, sRetN, aCons, eB, eCall, eTup, eLst, eIf, bAnd, bOr, bNot, tst, allD, viewT, viewL, viewX, tyD, isiB, hName, hTup, hsCons, hsNil, iSeq, wipeS, sAsg, gLe, gLt, gGe, gGt, gSub, gI20, gIsN, gNotN, gNotB, newL, eCut, ePart, gCut, iZip2, sFor, iAny, gIntA, gInA, gMulA, gEqA, gNeA] using h0
    simp [eV_app, startS, eIsi, eNot, eAnd, eOr, eChain, sRet, sSeq, sSet, sIf, sNx, sDrop, sRaise, sRetN, aCons, eB, eCall, eTup, eLst, eIf, bAnd, bOr, bNot, tst, allD, viewT, viewL, viewX, tyD, isiB, hName, hTup, hsCons, hsNil, iSeq, wipeS, sAsg, gLe, gLt, gGe, gGt, gSub, gI20, gIsN, gNotN, gNotB, newL, eCut, ePart, gCut, iZip2, sFor, iAny, gIntA, gInA, gMulA, gEqA, gNeA, dv, NumText.digitsVal]; omega
  | [a, b, c], _, h, h0, _ => by
    have h1 := h a (by simp [eV_app, startS, eIsi, eNot, eAnd, eOr, eChain, sRet, sSeq, sSet, sIf, sNx, sDrop, sRaise, sRetN, aCons, eB, eCall, eTup, eLst, eIf, bAnd, bOr, bNot, tst, allD, viewT, viewL, viewX, tyD, isiB, hName, hTup, hsCons, hsNil, iSeq, wipeS, sAsg, gLe, gLt, gGe, gGt, gSub, gI20, gIsN, gNotN, gNotB, newL, eCut, ePart, gCut, iZip2, sFor, iAny, gIntA, gInA, gMulA, gEqA, gNeA])
    have h0 : a ≠ 48 := by simpa [eV_app, startS, eIsi, eNot, eAnd, eOr, eChain, sRet, sSeq, sSet, sIf, sNx, sDrop, sRaise, sRetN, aCons, eB, eCall, eTup, eLst, eIf, bAnd, bOr, bNot, tst, allD, viewT, viewL, viewX, tyD, isiB, hName, hTup, hsCons, hsNil, iSeq, wipeS, sAsg, gLe, gLt, gGe, gGt, gSub, gI20, gIsN, gNotN, gNotB, newL, eCut, ePart, gCut, iZip2, sFor, iAny, gIntA, gInA, gMulA, gEqA, gNeA] using h0
    simp [eV_app, startS, eIsi, eNot, eAnd, eOr, eChain, sRet, sSeq, sSet, sIf, sNx, sDrop, sRaise, sRetN, aCons, eB, eCall, eTup, eLst, eIf, bAnd, bOr, bNot, tst, allD, viewT, viewL, viewX, tyD, isiB, hName, hTup, hsCons, hsNil, iSeq, wipeS, sAsg, gLe, gLt, gGe, gGt, gSub, gI20, gIsN, gNotN, gNotB, newL, eCut, ePart, gCut, iZip2, sFor, iAny, gIntA, gInA, gMulA, gEqA, gNeA, dv, NumText.digitsVal]; omega
  | [a, b, c, d], _, h, h0, _ => by
    have h1 := h a (by simp [eV_app, startS, eIsi, eNot, eAnd, eOr, eChain, sRet, sSeq, sSet, sIf, sNx, sDrop, sRaise, sRetN, aCons, eB, eCall, eTup, eLst, eIf, bAnd, bOr, bNot, tst, allD, viewT, viewL, viewX, tyD, isiB, hName, hTup, hsCons, hsNil, iSeq, wipeS, sAsg, gLe, gLt, gGe, gGt, gSub, gI20, gIsN, gNotN, gNotB, newL, eCut, ePart, gCut, iZip2, sFor, iAny, gIntA, gInA, gMulA, gEqA, gNeA])
    have h0 : a ≠ 48 := by simpa [eV_app, startS, eIsi, eNot, eAnd, eOr, eChain, sRet, sSeq, sSet, sIf, sNx, sDrop, sRaise, sRetN, aCons, eB, eCall, eTup, eLst, eIf, bAnd, bOr, bNot, tst, allD, viewT, viewL, viewX, tyD, isiB, hName, hTup, hsCons, hsNil, iSeq, wipeS, sAsg, gLe, gLt, gGe, gGt, gSub, gI20, gIsN, gNotN, gNotB, newL, eCut, ePart, gCut, iZip2, sFor, iAny, gIntA, gInA, gMulA, gEqA, gNeA] using h0
    simp [eV_app, startS, eIsi, eNot, eAnd, eOr, eChain, sRet, sSeq, sSet, sIf, sNx, sDrop, sRaise, sRetN, aCons, eB, eCall, eTup, eLst, eIf, bAnd, bOr, bNot, tst, allD, viewT, viewL, viewX, tyD, isiB, hName, hTup, hsCons, hsNil, iSeq, wipeS, sAsg, gLe, gLt, gGe, gGt, gSub, gI20, gIsN, gNotN, gNotB, newL, eCut, ePart, gCut, iZip2, sFor, iAny, gIntA, gInA, gMulA, gEqA, gNeA, dv, NumText.digitsVal]; omega
  | a :: b :: c :: d :: e :: r, _, _, _, h => by simp [eV_app, startS, eIsi, eNot, eAnd, eOr, eChain, sRet, sSeq, sSet, sIf, sNx, sDrop, sRaise, sRetN, aCons, eB, eCall, eTup, eLst, eIf, bAnd, bOr, bNot, tst, allD, viewT, viewL, viewX, tyD, isiB, hName, hTup, hsCons, hsNil, iSeq, wipeS, sAsg, gLe, gLt, gGe, gGt, gSub, gI20, gIsN, gNotN, gNotB, newL, eCut, ePart, gCut, iZip2, sFor, iAny, gIntA, gInA, gMulA, gEqA, gNeA] at h
theorem int_text {t : Str} (h : ∀ c ∈ tl t, 48 ≤ c ∧ c ≤ 57) (hne : tl t ≠ []) (hl : t.length ≤ 600) {μ : List MO} : gIntS [.d (.str t)] μ = some (.ok (.d (.int (dv (tl t) : Nat))) μ) := by
  unfold gIntS
  simp only [intText_digits (x := t) h hne (by omega)]
  rw [if_pos (by omega)]
  rfl
theorem first_sgn {t : Str} {c : Nat} {r : List Nat} (h : tl t = c :: r) (hl : t.length ≤ 1000) {μ : List MO} : gIx (.d (.str t)) (.d (.int 0)) μ = some (.ok (.d (.str (sgn c))) μ) := by
  have h24 : t.length ≤ small24 := by unfold small24; omega
  have : L2.atI (tl t) 0 = some c := by
    obtain ⟨x, x1, _, x2⟩ := atI_lt (ds := tl t) (r := 0) (by omega) (by rw [h]; simp [eV_app, startS, eIsi, eNot, eAnd, eOr, eChain, sRet, sSeq, sSet, sIf, sNx, sDrop, sRaise, sRetN, aCons, eB, eCall, eTup, eLst, eIf, bAnd, bOr, bNot, tst, allD, viewT, viewL, viewX, tyD, isiB, hName, hTup, hsCons, hsNil, iSeq, wipeS, sAsg, gLe, gLt, gGe, gGt, gSub, gI20, gIsN, gNotN, gNotB, newL, eCut, ePart, gCut, iZip2, sFor, iAny, gIntA, gInA, gMulA, gEqA, gNeA])
    rw [h] at x2
    rw [x1]; simpa [eV_app, startS, eIsi, eNot, eAnd, eOr, eChain, sRet, sSeq, sSet, sIf, sNx, sDrop, sRaise, sRetN, aCons, eB, eCall, eTup, eLst, eIf, bAnd, bOr, bNot, tst, allD, viewT, viewL, viewX, tyD, isiB, hName, hTup, hsCons, hsNil, iSeq, wipeS, sAsg, gLe, gLt, gGe, gGt, gSub, gI20, gIsN, gNotN, gNotB, newL, eCut, ePart, gCut, iZip2, sFor, iAny, gIntA, gInA, gMulA, gEqA, gNeA] using x2.symm
  simp only [gIx, h24, if_true, this]
theorem s_integer_of {t : Str} {μ : List MO} (hl : t.length ≤ 1000) : ∃ v : Int, g_integer_of [.d (.str t)] μ = some (.ok (.d (.int v)) μ) ∧ (okN (tl t) = true → v = dv (tl t) ∧ 1 ≤ v ∧ v ≤ 200) ∧ (okN (tl t) = false → ¬ (1 ≤ v ∧ v ≤ 200)) := by
  have h24 : t.length ≤ small24 := by unfold small24; omega
  have hem : (t == ("" : Str)) = decide (tl t = []) := by
    rw [str_beq]; rfl
  obtain ⟨bs, hall, hal⟩ : ∃ bs : List Bool, (eLc false [1] (iAny (eV 0)) (hName 1) bYes (e2 (gInA false) (eV 1) (eC (.str "0123456789")))) [.d (.str t), .un] μ = some (.ok (.d (.lst (bs.map .bl))) μ) ∧ bs.all id = decide (∀ c ∈ tl t, 48 ≤ c ∧ c ≤ 57) := by
    have hall : (eLc false [1] (iAny (eV 0)) (hName 1) bYes (e2 (gInA false) (eV 1) (eC (.str "0123456789")))) [.d (.str t), .un] μ = some (.ok (.d (.lst (((tl t).map fun c => decide (c ∈ tl FIG)).map .bl))) μ) := by
      rw [eLc_m (xs := tl t) (it := fun c => .str (sgn c)) (y := fun c => .bl (decide (c ∈ tl FIG)))]
      · rw [List.map_map]; rfl
      · simp [eV_app, startS, eIsi, eNot, eAnd, eOr, eChain, sRet, sSeq, sSet, sIf, sNx, sDrop, sRaise, sRetN, aCons, eB, eCall, eTup, eLst, eIf, bAnd, bOr, bNot, tst, allD, viewT, viewL, viewX, tyD, isiB, hName, hTup, hsCons, hsNil, iSeq, wipeS, sAsg, gLe, gLt, gGe, gGt, gSub, gI20, gIsN, gNotN, gNotB, newL, eCut, ePart, gCut, iZip2, sFor, iAny, gIntA, gInA, gMulA, gEqA, gNeA, charsD]
      · rw [← len_tl]; unfold cap; omega
      · intro c hc
        refine ⟨_, rfl, ?_⟩
        simp [eV_app, startS, eIsi, eNot, eAnd, eOr, eChain, sRet, sSeq, sSet, sIf, sNx, sDrop, sRaise, sRetN, aCons, eB, eCall, eTup, eLst, eIf, bAnd, bOr, bNot, tst, allD, viewT, viewL, viewX, tyD, isiB, hName, hTup, hsCons, hsNil, iSeq, wipeS, sAsg, gLe, gLt, gGe, gGt, gSub, gI20, gIsN, gNotN, gNotB, newL, eCut, ePart, gCut, iZip2, sFor, iAny, gIntA, gInA, gMulA, gEqA, gNeA, gInS_sgn]
    have hal : ((tl t).map fun c => decide (c ∈ tl FIG)).all id = decide (∀ c ∈ tl t, 48 ≤ c ∧ c ≤ 57) := by
      rw [Bool.eq_iff_iff, List.all_eq_true, decide_eq_true_eq]
      constructor
      · intro h c hc
        have := h (decide (c ∈ tl FIG)) (List.mem_map.mpr ⟨c, hc, rfl⟩)
        exact (fig_mem c).mp (by simpa [eV_app, startS, eIsi, eNot, eAnd, eOr, eChain, sRet, sSeq, sSet, sIf, sNx, sDrop, sRaise, sRetN, aCons, eB, eCall, eTup, eLst, eIf, bAnd, bOr, bNot, tst, allD, viewT, viewL, viewX, tyD, isiB, hName, hTup, hsCons, hsNil, iSeq, wipeS, sAsg, gLe, gLt, gGe, gGt, gSub, gI20, gIsN, gNotN, gNotB, newL, eCut, ePart, gCut, iZip2, sFor, iAny, gIntA, gInA, gMulA, gEqA, gNeA] using this)
      · intro h b hb
        obtain ⟨c, hc, rfl⟩ := List.mem_map.mp hb
        simpa [eV_app, startS, eIsi, eNot, eAnd, eOr, eChain, sRet, sSeq, sSet, sIf, sNx, sDrop, sRaise, sRetN, aCons, eB, eCall, eTup, eLst, eIf, bAnd, bOr, bNot, tst, allD, viewT, viewL, viewX, tyD, isiB, hName, hTup, hsCons, hsNil, iSeq, wipeS, sAsg, gLe, gLt, gGe, gGt, gSub, gI20, gIsN, gNotN, gNotB, newL, eCut, ePart, gCut, iZip2, sFor, iAny, gIntA, gInA, gMulA, gEqA, gNeA] using (fig_mem c).mpr (h c hc)
    exact ⟨_, hall, hal⟩
  by_cases hne : tl t = []
  · refine ⟨0, ?_, fun h => absurd hne (okN_iff.mp h).1, fun _ h => by omega⟩
    simp [eV_app, startS, eIsi, eNot, eAnd, eOr, eChain, sRet, sSeq, sSet, sIf, sNx, sDrop, sRaise, sRetN, aCons, eB, eCall, eTup, eLst, eIf, bAnd, bOr, bNot, tst, allD, viewT, viewL, viewX, tyD, isiB, hName, hTup, hsCons, hsNil, iSeq, wipeS, sAsg, gLe, gLt, gGe, gGt, gSub, gI20, gIsN, gNotN, gNotB, newL, eCut, ePart, gCut, iZip2, sFor, iAny, gIntA, gInA, gMulA, gEqA, gNeA, g_integer_of, fb_integer_of, hem, hne]
  · by_cases h4 : t.length ≤ 4
    · have h4' : ¬ (4 : Int) < (t.length : Int) := by omega
      by_cases hd : ∀ c ∈ tl t, 48 ≤ c ∧ c ≤ 57
      · cases ht : tl t with
        | nil => exact absurd ht hne
        | cons c r =>
          have h0 : (sgn c == ("0" : Str)) = decide (c = 48) := by
            rw [str_beq]
            have : tl ("0" : Str) = [48] := by decide
            rw [this]; simp [eV_app, startS, eIsi, eNot, eAnd, eOr, eChain, sRet, sSeq, sSet, sIf, sNx, sDrop, sRaise, sRetN, aCons, eB, eCall, eTup, eLst, eIf, bAnd, bOr, bNot, tst, allD, viewT, viewL, viewX, tyD, isiB, hName, hTup, hsCons, hsNil, iSeq, wipeS, sAsg, gLe, gLt, gGe, gGt, gSub, gI20, gIsN, gNotN, gNotB, newL, eCut, ePart, gCut, iZip2, sFor, iAny, gIntA, gInA, gMulA, gEqA, gNeA, tl]
          have hi := int_text hd hne (by omega) (μ := μ)
          have hall2 : gOnBls (fun bs => bs.all id) [.d (.lst (bs.map .bl))] μ = some (.ok (.d (.bl true)) μ) := by
            simp only [gOnBls, viewL, Option.bind_some, allBls_map, hal, decide_eq_true hd]
          have hfix : ∀ μ, gIx (.d (.str t)) (.d (.int 0)) μ = some (.ok (.d (.str (sgn c))) μ) := fun μ => first_sgn ht hl
          by_cases hc : c = 48
          · refine ⟨0, ?_, fun h => absurd (by rw [hc]; rfl) (okN_iff.mp h).2.2.2.1, fun _ h => by omega⟩
            subst hc
            rw [decide_eq_true rfl] at h0
            simp [eV_app, startS, eIsi, eNot, eAnd, eOr, eChain, sRet, sSeq, sSet, sIf, sNx, sDrop, sRaise, sRetN, aCons, eB, eCall, eTup, eLst, eIf, bAnd, bOr, bNot, tst, allD, viewT, viewL, viewX, tyD, isiB, hName, hTup, hsCons, hsNil, iSeq, wipeS, sAsg, gLe, gLt, gGe, gGt, gSub, gI20, gIsN, gNotN, gNotB, newL, eCut, ePart, gCut, iZip2, sFor, iAny, gIntA, gInA, gMulA, gEqA, gNeA, g_integer_of, fb_integer_of, hem, hne, gLen, h24, h4', hall, hall2, hfix, h0]
          · have hp := dv_pos hne hd (by rw [ht]; simpa [eV_app, startS, eIsi, eNot, eAnd, eOr, eChain, sRet, sSeq, sSet, sIf, sNx, sDrop, sRaise, sRetN, aCons, eB, eCall, eTup, eLst, eIf, bAnd, bOr, bNot, tst, allD, viewT, viewL, viewX, tyD, isiB, hName, hTup, hsCons, hsNil, iSeq, wipeS, sAsg, gLe, gLt, gGe, gGt, gSub, gI20, gIsN, gNotN, gNotB, newL, eCut, ePart, gCut, iZip2, sFor, iAny, gIntA, gInA, gMulA, gEqA, gNeA] using hc) (by rw [← len_tl]; omega)
            rw [ht] at hp
            refine ⟨dv (tl t), ?_, fun h => ?_, fun h z => ?_⟩
            · simp [eV_app, startS, eIsi, eNot, eAnd, eOr, eChain, sRet, sSeq, sSet, sIf, sNx, sDrop, sRaise, sRetN, aCons, eB, eCall, eTup, eLst, eIf, bAnd, bOr, bNot, tst, allD, viewT, viewL, viewX, tyD, isiB, hName, hTup, hsCons, hsNil, iSeq, wipeS, sAsg, gLe, gLt, gGe, gGt, gSub, gI20, gIsN, gNotN, gNotB, newL, eCut, ePart, gCut, iZip2, sFor, iAny, gIntA, gInA, gMulA, gEqA, gNeA, g_integer_of, fb_integer_of, hem, hne, gLen, h24, h4', hall, hall2, hfix, h0, hc, hi]
            · have := (okN_iff.mp h).2.2.2.2
              rw [ht]
              exact ⟨rfl, by omega, by omega⟩
            · rw [ht] at z
              have hlen : t.length = (c :: r).length := by rw [len_tl, ht]
              have h3 : (c :: r).length ≤ 3 := by
                by_cases h3 : (c :: r).length ≤ 3
                · exact h3
                · have := hp.2 (by omega); omega
              have : okN (c :: r) = true := okN_iff.mpr ⟨by simp [eV_app, startS, eIsi, eNot, eAnd, eOr, eChain, sRet, sSeq, sSet, sIf, sNx, sDrop, sRaise, sRetN, aCons, eB, eCall, eTup, eLst, eIf, bAnd, bOr, bNot, tst, allD, viewT, viewL, viewX, tyD, isiB, hName, hTup, hsCons, hsNil, iSeq, wipeS, sAsg, gLe, gLt, gGe, gGt, gSub, gI20, gIsN, gNotN, gNotB, newL, eCut, ePart, gCut, iZip2, sFor, iAny, gIntA, gInA, gMulA, gEqA, gNeA], by rw [← ht]; exact hd, h3, by simpa [eV_app, startS, eIsi, eNot, eAnd, eOr, eChain, sRet, sSeq, sSet, sIf, sNx, sDrop, sRaise, sRetN, aCons, eB, eCall, eTup, eLst, eIf, bAnd, bOr, bNot, tst, allD, viewT, viewL, viewX, tyD, isiB, hName, hTup, hsCons, hsNil, iSeq, wipeS, sAsg, gLe, gLt, gGe, gGt, gSub, gI20, gIsN, gNotN, gNotB, newL, eCut, ePart, gCut, iZip2, sFor, iAny, gIntA, gInA, gMulA, gEqA, gNeA] using hc, by omega⟩
              rw [h] at this; cases this
      · refine ⟨0, ?_, fun h => absurd (okN_iff.mp h).2.1 hd, fun _ h => by omega⟩
        have hall2 : gOnBls (fun bs => bs.all id) [.d (.lst (bs.map .bl))] μ = some (.ok (.d (.bl false)) μ) := by
          simp only [gOnBls, viewL, Option.bind_some, allBls_map, hal, decide_eq_false hd]
        simp [eV_app, startS, eIsi, eNot, eAnd, eOr, eChain, sRet, sSeq, sSet, sIf, sNx, sDrop, sRaise, sRetN, aCons, eB, eCall, eTup, eLst, eIf, bAnd, bOr, bNot, tst, allD, viewT, viewL, viewX, tyD, isiB, hName, hTup, hsCons, hsNil, iSeq, wipeS, sAsg, gLe, gLt, gGe, gGt, gSub, gI20, gIsN, gNotN, gNotB, newL, eCut, ePart, gCut, iZip2, sFor, iAny, gIntA, gInA, gMulA, gEqA, gNeA, g_integer_of, fb_integer_of, hem, hne, gLen, h24, h4', hall, hall2]
    · have h4' : (4 : Int) < (t.length : Int) := by omega
      refine ⟨0, ?_, fun h => absurd (okN_iff.mp h).2.2.1 (by rw [← len_tl]; omega), fun _ h => by omega⟩
      simp [eV_app, startS, eIsi, eNot, eAnd, eOr, eChain, sRet, sSeq, sSet, sIf, sNx, sDrop, sRaise, sRetN, aCons, eB, eCall, eTup, eLst, eIf, bAnd, bOr, bNot, tst, allD, viewT, viewL, viewX, tyD, isiB, hName, hTup, hsCons, hsNil, iSeq, wipeS, sAsg, gLe, gLt, gGe, gGt, gSub, gI20, gIsN, gNotN, gNotB, newL, eCut, ePart, gCut, iZip2, sFor, iAny, gIntA, gInA, gMulA, gEqA, gNeA, g_integer_of, fb_integer_of, hem, hne, gLen, h24, h4']
end K05
end

section
set_option linter.all false
set_option maxRecDepth 100000
set_option maxHeartbeats 1000000
namespace K05
open PySem DL
/-- a part of a reading: its slot and number -/
def okR (last : Int) : List Nat → Option (Int × Int)
  | s :: c :: num => if c = 58 ∧ 48 ≤ s ∧ s ≤ 55 ∧ last < (s : Int) - 48 ∧ okN num = true then some ((s : Int) - 48, (dv num : Int)) else none
  | _ => none
def resR : Nat → List Str → List Int → Int → List Int ⊕ Nat
  | _, [], fs, _ => .inl fs
  | k, p :: ps, fs, last => match okR last (tl p) with
    | some (s, n) => resR (k + 1) ps (fs.set s.toNat n) s
    | none => .inr k
theorem okR_bound {last : Int} {p : List Nat} {s n : Int} (h : okR last p = some (s, n)) : 0 ≤ s ∧ s ≤ 7 ∧ last < s ∧ 1 ≤ n ∧ n ≤ 200 := by
  match p, h with
  | a :: c :: num, h =>
    simp only [okR] at h
    split at h
    · rename_i hc
      simp only [Option.some.injEq, Prod.mk.injEq] at h
      obtain ⟨h1, h2, h3, h4, h5⟩ := hc
      obtain ⟨n1, n2, n3, n4, n5⟩ := okN_iff.mp h5
      have := dv_pos n1 n2 n4 (by omega)
      omega
    · cases h
theorem figd_tl : tl (FIG ++ "-") = [48, 49, 50, 51, 52, 53, 54, 55, 56, 57, 45] := by decide
theorem find_all : ∀ k : Fin 10, Txt.find (FIG ++ "-") (sgn (48 + k.val)) = k.val := by decide +kernel
theorem find_dash : Txt.find (FIG ++ "-") (sgn 45) = 10 := by decide +kernel
theorem find_sgn (c : Nat) (last : Int) (hl : -1 ≤ last) : (last < Txt.find (FIG ++ "-") (sgn c) ∧ Txt.find (FIG ++ "-") (sgn c) < 8) ↔ (48 ≤ c ∧ c ≤ 55 ∧ last < (c : Int) - 48) := by
  by_cases h : 48 ≤ c ∧ c ≤ 57
  · have := find_all ⟨c - 48, by omega⟩
    simp only at this
    rw [show 48 + (c - 48) = c by omega] at this
    rw [this]
    omega
  · by_cases h2 : c = 45
    · subst h2; rw [find_dash]; omega
    · have hno : ¬ c ∈ tl (FIG ++ "-") := by
        rw [figd_tl]; simp [eV_app, startS, eIsi, eNot, eAnd, eOr, eChain, sRet, sSeq, sSet, sIf, sNx, sDrop, sRaise, sRetN, aCons, eB, eCall, eTup, eLst, eIf, bAnd, bOr, bNot, tst, allD, viewT, viewL, viewX, tyD, isiB, hName, hTup, hsCons, hsNil, iSeq, wipeS, sAsg, gLe, gLt, gGe, gGt, gSub, gI20, gIsN, gNotN, gNotB, newL, eCut, ePart, gCut, iZip2, sFor, iAny, gIntA, gInA, gMulA, gEqA, gNeA]; omega
      have hf := StrLaws.found_one (FIG ++ "-") c
      rw [decide_eq_false hno] at hf
      have : Txt.find (FIG ++ "-") (sgn c) = -1 := by
        unfold Txt.find
        cases ho : Builtin.Str.occurrences (FIG ++ "-") (sgn c) 0 (FIG ++ "-").length 1 with
        | nil => rfl
        | cons a b => rw [ho] at hf; simp [eV_app, startS, eIsi, eNot, eAnd, eOr, eChain, sRet, sSeq, sSet, sIf, sNx, sDrop, sRaise, sRetN, aCons, eB, eCall, eTup, eLst, eIf, bAnd, bOr, bNot, tst, allD, viewT, viewL, viewX, tyD, isiB, hName, hTup, hsCons, hsNil, iSeq, wipeS, sAsg, gLe, gLt, gGe, gGt, gSub, gI20, gIsN, gNotN, gNotB, newL, eCut, ePart, gCut, iZip2, sFor, iAny, gIntA, gInA, gMulA, gEqA, gNeA] at hf
      rw [this]; omega
theorem find_val {c : Nat} (h : 48 ≤ c ∧ c ≤ 55) : Txt.find (FIG ++ "-") (sgn c) = (c : Int) - 48 := by
  have := find_all ⟨c - 48, by omega⟩
  simp only at this
  rw [show 48 + (c - 48) = c by omega] at this
  rw [this]; omega
theorem colon_tl : tl (":" : Str) = [58] := by decide
theorem one_tl {t : Str} {c : Nat} (h : tl t = [c]) : t = sgn c := ext_tl h
theorem ix8 {s : Int} (h : 0 ≤ s ∧ s ≤ 7) : L2.ixN 8 s = some s.toNat := by
  obtain ⟨x, x1, _, x2⟩ := atI_lt (ds := [0, 1, 2, 3, 4, 5, 6, 7]) (r := s) h.1 (by simp [eV_app, startS, eIsi, eNot, eAnd, eOr, eChain, sRet, sSeq, sSet, sIf, sNx, sDrop, sRaise, sRetN, aCons, eB, eCall, eTup, eLst, eIf, bAnd, bOr, bNot, tst, allD, viewT, viewL, viewX, tyD, isiB, hName, hTup, hsCons, hsNil, iSeq, wipeS, sAsg, gLe, gLt, gGe, gGt, gSub, gI20, gIsN, gNotN, gNotB, newL, eCut, ePart, gCut, iZip2, sFor, iAny, gIntA, gInA, gMulA, gEqA, gNeA]; omega)
  have : s = 0 ∨ s = 1 ∨ s = 2 ∨ s = 3 ∨ s = 4 ∨ s = 5 ∨ s = 6 ∨ s = 7 := by omega
  rcases this with rfl | rfl | rfl | rfl | rfl | rfl | rfl | rfl <;> rfl
theorem rr_step {a b s4 s7 : S} {k : Nat} {p : Str} {last : Int} {fs : List Int} {μ : List MO} (hl : p.length ≤ 1000) (hf : fs.length = 8) (hlast : -1 ≤ last) :
    (∀ s n, okR last (tl p) = some (s, n) → ∃ b4 b7, lb_read_reading_0 [a, b, .m μ.length, .d (.int last), s4, .d (.int (k : Int)), .d (.str p), s7] (μ ++ [.ml (fs.map .int)]) = some (.nx [a, b, .m μ.length, .d (.int s), b4, .d (.int (k : Int)), .d (.str p), b7] (μ ++ [.ml ((fs.set s.toNat n).map .int)]))) ∧
    (okR last (tl p) = none → lb_read_reading_0 [a, b, .m μ.length, .d (.int last), s4, .d (.int (k : Int)), .d (.str p), s7] (μ ++ [.ml (fs.map .int)]) = some (.ex (.txt (.int (k : Int))) (μ ++ [.ml (fs.map .int)]))) := by
  have hfind : ∀ q μ, gFind (FIG ++ "-") (.d (.str q)) μ = some (.ok (.d (.int (Txt.find (FIG ++ "-") q))) μ) := fun _ _ => rfl
  have h24 : (10 : Nat) + 1 ≤ small24 := by decide
  have hfl : FIG.length + ("-" : Str).length ≤ small24 := by decide
  have hcut : ∀ lo hi μ, gCut false (.d (.str p)) lo hi μ = some (.ok (.d (.str (L2.cutS p lo hi))) μ) := fun _ _ _ => gCut_str hl
  obtain ⟨v, hv, v1, v2⟩ := s_integer_of (t := L2.cutS p (some 2) none) (μ := μ ++ [.ml (fs.map .int)]) (Nat.le_trans (cut_len _ _ _) hl)
  have t2 : tl (L2.cutS p (some 2) none) = (tl p).drop 2 := cutS_from p 2
  have t1 : tl (L2.cutS p none (some 1)) = (tl p).take 1 := cutS_to p 1
  have t12 := cutS_12 p
  rw [t2] at v1 v2
  generalize hfv : Txt.find (FIG ++ "-") (L2.cutS p none (some 1)) = fv
  have hpar : sPar 4 7 (aCons (eM1 gFind (e2 (gAdd false) (eC (.str "0123456789")) (eC (.str "-"))) (eCut false (eV 6) none (some (eC (.int 1))))) (aCons (eCall 1 g_integer_of (aCons (eCut false (eV 6) (some (eC (.int 2))) none) aNil)) aNil)) [a, b, .m μ.length, .d (.int last), s4, .d (.int (k : Int)), .d (.str p), s7] (μ ++ [.ml (fs.map .int)]) = some (.nx [a, b, .m μ.length, .d (.int last), .d (.int fv), .d (.int (k : Int)), .d (.str p), .d (.int v)] (μ ++ [.ml (fs.map .int)])) := by
    simp only [sPar, aCons, eM1, e2_app, eC_app, bE_ok, gAdd, hfl, if_true, eCut, eV_app, List.getElem?_cons_succ, List.getElem?_cons_zero, ePart, hcut, hfind, hfv, eCall, aNil_app, bAE_ok, List.length_cons, List.length_nil, hv, onlyD_ok, List.set_cons_succ, List.set_cons_zero]
  have hcol : (e2 gNeA (eCut false (eV 6) (some (eC (.int 1))) (some (eC (.int 2)))) (eC (.str ":"))) [a, b, .m μ.length, .d (.int last), .d (.int fv), .d (.int (k : Int)), .d (.str p), .d (.int v)] (μ ++ [.ml (fs.map .int)]) = some (.ok (.d (.bl (!decide (((tl p).drop 1).take 1 = [58])))) (μ ++ [.ml (fs.map .int)])) := by
    have : (L2.cutS p (some 1) (some 2) == (":" : Str)) = decide (((tl p).drop 1).take 1 = [58]) := by
      rw [str_beq, t12, colon_tl]
    simp only [e2_app, eCut, eV_app, List.getElem?_cons_succ, List.getElem?_cons_zero, bE_ok, ePart, eC_app, hcut, gNeA, this]
  have hch1 : (eChain gLt gLt (eV 3) (eV 4) (eC (.int (8)))) [a, b, .m μ.length, .d (.int last), .d (.int fv), .d (.int (k : Int)), .d (.str p), .d (.int v)] (μ ++ [.ml (fs.map .int)]) = some (.ok (.d (.bl (decide (last < fv ∧ fv < 8)))) (μ ++ [.ml (fs.map .int)])) := by
    by_cases h1 : last < fv <;> simp [eV_app, startS, eIsi, eNot, eAnd, eOr, eChain, sRet, sSeq, sSet, sIf, sNx, sDrop, sRaise, sRetN, aCons, eB, eCall, eTup, eLst, eIf, bAnd, bOr, bNot, tst, allD, viewT, viewL, viewX, tyD, isiB, hName, hTup, hsCons, hsNil, iSeq, wipeS, sAsg, gLe, gLt, gGe, gGt, gSub, gI20, gIsN, gNotN, gNotB, newL, eCut, ePart, gCut, iZip2, sFor, iAny, gIntA, gInA, gMulA, gEqA, gNeA, h1]
  have hch2 : (eChain gLe gLe (eC (.int 1)) (eV 7) (eC (.int (200)))) [a, b, .m μ.length, .d (.int last), .d (.int fv), .d (.int (k : Int)), .d (.str p), .d (.int v)] (μ ++ [.ml (fs.map .int)]) = some (.ok (.d (.bl (decide (1 ≤ v ∧ v ≤ 200)))) (μ ++ [.ml (fs.map .int)])) := by
    by_cases h1 : 1 ≤ v <;> simp [eV_app, startS, eIsi, eNot, eAnd, eOr, eChain, sRet, sSeq, sSet, sIf, sNx, sDrop, sRaise, sRetN, aCons, eB, eCall, eTup, eLst, eIf, bAnd, bOr, bNot, tst, allD, viewT, viewL, viewX, tyD, isiB, hName, hTup, hsCons, hsNil, iSeq, wipeS, sAsg, gLe, gLt, gGe, gGt, gSub, gI20, gIsN, gNotN, gNotB, newL, eCut, ePart, gCut, iZip2, sFor, iAny, gIntA, gInA, gMulA, gEqA, gNeA, h1]
  have hra : (sRaise Ex.txt (eV 5)) [a, b, .m μ.length, .d (.int last), .d (.int fv), .d (.int (k : Int)), .d (.str p), .d (.int v)] (μ ++ [.ml (fs.map .int)]) = some (.ex (.txt (.int (k : Int))) (μ ++ [.ml (fs.map .int)])) := by simp [eV_app, startS, eIsi, eNot, eAnd, eOr, eChain, sRet, sSeq, sSet, sIf, sNx, sDrop, sRaise, sRetN, aCons, eB, eCall, eTup, eLst, eIf, bAnd, bOr, bNot, tst, allD, viewT, viewL, viewX, tyD, isiB, hName, hTup, hsCons, hsNil, iSeq, wipeS, sAsg, gLe, gLt, gGe, gGt, gSub, gI20, gIsN, gNotN, gNotB, newL, eCut, ePart, gCut, iZip2, sFor, iAny, gIntA, gInA, gMulA, gEqA, gNeA]
  unfold lb_read_reading_0
  have key : ∀ r, okR last (tl p) = r → (r = none → (((tl p).drop 1).take 1 ≠ [58] ∨ ¬ (last < fv ∧ fv < 8) ∨ ¬ (1 ≤ v ∧ v ≤ 200))) ∧ (∀ s n, r = some (s, n) → ((tl p).drop 1).take 1 = [58] ∧ last < fv ∧ fv < 8 ∧ 1 ≤ v ∧ v ≤ 200 ∧ fv = s ∧ v = n) := by
    intro r hr
    match hp : tl p with
    | [] => rw [hp] at hr; simp [eV_app, startS, eIsi, eNot, eAnd, eOr, eChain, sRet, sSeq, sSet, sIf, sNx, sDrop, sRaise, sRetN, aCons, eB, eCall, eTup, eLst, eIf, bAnd, bOr, bNot, tst, allD, viewT, viewL, viewX, tyD, isiB, hName, hTup, hsCons, hsNil, iSeq, wipeS, sAsg, gLe, gLt, gGe, gGt, gSub, gI20, gIsN, gNotN, gNotB, newL, eCut, ePart, gCut, iZip2, sFor, iAny, gIntA, gInA, gMulA, gEqA, gNeA, okR] at hr; subst hr; simp [eV_app, startS, eIsi, eNot, eAnd, eOr, eChain, sRet, sSeq, sSet, sIf, sNx, sDrop, sRaise, sRetN, aCons, eB, eCall, eTup, eLst, eIf, bAnd, bOr, bNot, tst, allD, viewT, viewL, viewX, tyD, isiB, hName, hTup, hsCons, hsNil, iSeq, wipeS, sAsg, gLe, gLt, gGe, gGt, gSub, gI20, gIsN, gNotN, gNotB, newL, eCut, ePart, gCut, iZip2, sFor, iAny, gIntA, gInA, gMulA, gEqA, gNeA]
    | [x] => rw [hp] at hr; simp [eV_app, startS, eIsi, eNot, eAnd, eOr, eChain, sRet, sSeq, sSet, sIf, sNx, sDrop, sRaise, sRetN, aCons, eB, eCall, eTup, eLst, eIf, bAnd, bOr, bNot, tst, allD, viewT, viewL, viewX, tyD, isiB, hName, hTup, hsCons, hsNil, iSeq, wipeS, sAsg, gLe, gLt, gGe, gGt, gSub, gI20, gIsN, gNotN, gNotB, newL, eCut, ePart, gCut, iZip2, sFor, iAny, gIntA, gInA, gMulA, gEqA, gNeA, okR] at hr; subst hr; simp [eV_app, startS, eIsi, eNot, eAnd, eOr, eChain, sRet, sSeq, sSet, sIf, sNx, sDrop, sRaise, sRetN, aCons, eB, eCall, eTup, eLst, eIf, bAnd, bOr, bNot, tst, allD, viewT, viewL, viewX, tyD, isiB, hName, hTup, hsCons, hsNil, iSeq, wipeS, sAsg, gLe, gLt, gGe, gGt, gSub, gI20, gIsN, gNotN, gNotB, newL, eCut, ePart, gCut, iZip2, sFor, iAny, gIntA, gInA, gMulA, gEqA, gNeA]
    | x :: c :: num =>
      have e1 : L2.cutS p none (some 1) = sgn x := one_tl (by rw [t1, hp]; rfl)
      rw [e1] at hfv
      have hfs := find_sgn x last hlast
      rw [hfv] at hfs
      rw [hp] at hr v1 v2
      simp only [List.drop_succ_cons, List.drop_zero, List.take_succ_cons, List.take_zero] at *
      simp only [okR] at hr
      by_cases hc : c = 58 ∧ 48 ≤ x ∧ x ≤ 55 ∧ last < (x : Int) - 48 ∧ okN num = true
      · rw [if_pos hc] at hr
        subst hr
        obtain ⟨c1, c2, c3, c4, c5⟩ := hc
        have hv1 := v1 c5
        have hff := hfs.mpr ⟨c2, c3, c4⟩
        have := find_val ⟨c2, c3⟩
        refine ⟨fun h => (nomatch h), fun s n h => ?_⟩
        simp only [Option.some.injEq, Prod.mk.injEq] at h
        refine ⟨by rw [c1], hff.1, hff.2, hv1.2.1, hv1.2.2, ?_, ?_⟩
        · rw [← hfv, this]; exact h.1
        · rw [hv1.1]; exact h.2
      · rw [if_neg hc] at hr
        subst hr
        refine ⟨fun _ => ?_, fun s n h => nomatch h⟩
        by_cases h1 : c = 58
        · by_cases h2 : last < fv ∧ fv < 8
          · obtain ⟨q1, q2, q3⟩ := hfs.mp h2
            refine .inr (.inr (v2 ?_))
            cases hn : okN num with
            | false => rfl
            | true => exact absurd ⟨h1, q1, q2, q3, hn⟩ hc
          · exact .inr (.inl h2)
        · exact .inl (by simpa [eV_app, startS, eIsi, eNot, eAnd, eOr, eChain, sRet, sSeq, sSet, sIf, sNx, sDrop, sRaise, sRetN, aCons, eB, eCall, eTup, eLst, eIf, bAnd, bOr, bNot, tst, allD, viewT, viewL, viewX, tyD, isiB, hName, hTup, hsCons, hsNil, iSeq, wipeS, sAsg, gLe, gLt, gGe, gGt, gSub, gI20, gIsN, gNotN, gNotB, newL, eCut, ePart, gCut, iZip2, sFor, iAny, gIntA, gInA, gMulA, gEqA, gNeA] using h1)
  refine ⟨fun s n h => ?_, fun h => ?_⟩
  · obtain ⟨_, k2⟩ := key _ rfl
    obtain ⟨q1, q2, q3, q4, q5, rfl, rfl⟩ := k2 s n h
    obtain ⟨o1, o2, o3, o4, o5⟩ := okR_bound h
    refine ⟨.d (.int fv), .d (.int v), sSeq_nx hpar ?_⟩
    refine sSeq_nx (ρ1 := [a, b, .m μ.length, .d (.int last), .d (.int fv), .d (.int (k : Int)), .d (.str p), .d (.int v)]) (μ1 := μ ++ [.ml (fs.map .int)]) (by simp only [sIf, bOr, bNot, tst, hcol, hch1, hch2, q1, decide_true, Bool.not_true, toB_ok, bBB_ok, q2, q3, q4, q5, and_self, sNx]) ?_
    have h8 := ix8 ⟨o1, o2⟩
    simp [eV_app, startS, eIsi, eNot, eAnd, eOr, eChain, sRet, sSeq, sSet, sIf, sNx, sDrop, sRaise, sRetN, aCons, eB, eCall, eTup, eLst, eIf, bAnd, bOr, bNot, tst, allD, viewT, viewL, viewX, tyD, isiB, hName, hTup, hsCons, hsNil, iSeq, wipeS, sAsg, gLe, gLt, gGe, gGt, gSub, gI20, gIsN, gNotN, gNotB, newL, eCut, ePart, gCut, iZip2, sFor, iAny, gIntA, gInA, gMulA, gEqA, gNeA, sSetItem, hf, h8]
  · obtain ⟨k1, _⟩ := key _ rfl
    refine sSeq_nx hpar ?_
    rcases k1 h with q | q | q
    · simp only [sSeq, sIf, bOr, bNot, tst, hcol, q, decide_false, Bool.not_false, toB_ok, bBB_ok, hra]
    · by_cases h1 : ((tl p).drop 1).take 1 = [58]
      · simp only [sSeq, sIf, bOr, bNot, tst, hcol, h1, decide_true, Bool.not_true, toB_ok, bBB_ok, hch1, q, decide_false, Bool.not_false, hra]
      · simp only [sSeq, sIf, bOr, bNot, tst, hcol, h1, decide_false, Bool.not_false, toB_ok, bBB_ok, hra]
    · by_cases h1 : ((tl p).drop 1).take 1 = [58]
      · by_cases h2 : last < fv ∧ fv < 8
        · simp only [sSeq, sIf, bOr, bNot, tst, hcol, h1, decide_true, Bool.not_true, toB_ok, bBB_ok, hch1, h2, and_self, hch2, q, decide_false, Bool.not_false, hra]
        · simp only [sSeq, sIf, bOr, bNot, tst, hcol, h1, decide_true, Bool.not_true, toB_ok, bBB_ok, hch1, h2, decide_false, Bool.not_false, hra]
      · simp only [sSeq, sIf, bOr, bNot, tst, hcol, h1, decide_false, Bool.not_false, toB_ok, bBB_ok, hra]
theorem rr_loop {a b : S} {μ : List MO} : ∀ (ps : List Str) (k : Nat) (fs : List Int) (last : Int) (s4 s5 s6 s7 : S), (∀ p ∈ ps, p.length ≤ 1000) → fs.length = 8 → -1 ≤ last →
    (∃ fs' b3 b4 b5 b6 b7, resR k ps fs last = .inl fs' ∧ forF (hTup 2 (hsCons (hName 5) (hsCons (hName 6) hsNil))) lb_read_reading_0 (enumK k (ps.map .str)) [a, b, .m μ.length, .d (.int last), s4, s5, s6, s7] (μ ++ [.ml (fs.map .int)]) = some (.nx [a, b, .m μ.length, b3, b4, b5, b6, b7] (μ ++ [.ml (fs'.map .int)]))) ∨
    (∃ at' x, resR k ps fs last = .inr at' ∧ forF (hTup 2 (hsCons (hName 5) (hsCons (hName 6) hsNil))) lb_read_reading_0 (enumK k (ps.map .str)) [a, b, .m μ.length, .d (.int last), s4, s5, s6, s7] (μ ++ [.ml (fs.map .int)]) = some (.ex (.txt (.int (at' : Nat))) (μ ++ [x])))
  | [], k, fs, last, s4, s5, s6, s7, _, _, _ => .inl ⟨fs, .d (.int last), s4, s5, s6, s7, rfl, rfl⟩
  | p :: ps, k, fs, last, s4, s5, s6, s7, hp, hf, hla => by
    obtain ⟨st1, st2⟩ := rr_step (a := a) (b := b) (s4 := s4) (s7 := s7) (k := k) (p := p) (μ := μ) (hp p List.mem_cons_self) hf hla
    have e0 : hTup 2 (hsCons (hName 5) (hsCons (hName 6) hsNil)) (.tup [.int (k : Int), .str p]) [a, b, .m μ.length, .d (.int last), s4, s5, s6, s7] = some [a, b, .m μ.length, .d (.int last), s4, .d (.int (k : Int)), .d (.str p), s7] := rfl
    rw [List.map_cons]
    unfold enumK forF resR
    cases h : okR last (tl p) with
    | some sn =>
      obtain ⟨s, n⟩ := sn
      obtain ⟨b4, b7, e1⟩ := st1 s n h
      obtain ⟨o1, o2, o3, o4, o5⟩ := okR_bound h
      simp only [e0, e1]
      exact rr_loop ps (k + 1) (fs.set s.toNat n) s _ _ _ _ (fun q hq => hp q (List.mem_cons_of_mem _ hq)) (by simp [eV_app, startS, eIsi, eNot, eAnd, eOr, eChain, sRet, sSeq, sSet, sIf, sNx, sDrop, sRaise, sRetN, aCons, eB, eCall, eTup, eLst, eIf, bAnd, bOr, bNot, tst, allD, viewT, viewL, viewX, tyD, isiB, hName, hTup, hsCons, hsNil, iSeq, wipeS, sAsg, gLe, gLt, gGe, gGt, gSub, gI20, gIsN, gNotN, gNotB, newL, eCut, ePart, gCut, iZip2, sFor, iAny, gIntA, gInA, gMulA, gEqA, gNeA, hf]) (by omega)
    | none =>
      simp only [e0, st2 h]
      exact .inr ⟨k, _, rfl, rfl⟩
def zeros : List Int := [0, 0, 0, 0, 0, 0, 0, 0]
def resRR (z : Str) : List Int ⊕ Nat := if z = "-" then .inl zeros else resR 0 (prt z) zeros (-1)
theorem eqv_strs : ∀ xs ys : List Str, eqvDs (xs.map D.str) (ys.map D.str) = decide (xs = ys)
  | [], [] => by simp [eV_app, startS, eIsi, eNot, eAnd, eOr, eChain, sRet, sSeq, sSet, sIf, sNx, sDrop, sRaise, sRetN, aCons, eB, eCall, eTup, eLst, eIf, bAnd, bOr, bNot, tst, allD, viewT, viewL, viewX, tyD, isiB, hName, hTup, hsCons, hsNil, iSeq, wipeS, sAsg, gLe, gLt, gGe, gGt, gSub, gI20, gIsN, gNotN, gNotB, newL, eCut, ePart, gCut, iZip2, sFor, iAny, gIntA, gInA, gMulA, gEqA, gNeA, eqvDs]
  | [], _ :: _ => by simp [eV_app, startS, eIsi, eNot, eAnd, eOr, eChain, sRet, sSeq, sSet, sIf, sNx, sDrop, sRaise, sRetN, aCons, eB, eCall, eTup, eLst, eIf, bAnd, bOr, bNot, tst, allD, viewT, viewL, viewX, tyD, isiB, hName, hTup, hsCons, hsNil, iSeq, wipeS, sAsg, gLe, gLt, gGe, gGt, gSub, gI20, gIsN, gNotN, gNotB, newL, eCut, ePart, gCut, iZip2, sFor, iAny, gIntA, gInA, gMulA, gEqA, gNeA, eqvDs]
  | _ :: _, [] => by simp [eV_app, startS, eIsi, eNot, eAnd, eOr, eChain, sRet, sSeq, sSet, sIf, sNx, sDrop, sRaise, sRetN, aCons, eB, eCall, eTup, eLst, eIf, bAnd, bOr, bNot, tst, allD, viewT, viewL, viewX, tyD, isiB, hName, hTup, hsCons, hsNil, iSeq, wipeS, sAsg, gLe, gLt, gGe, gGt, gSub, gI20, gIsN, gNotN, gNotB, newL, eCut, ePart, gCut, iZip2, sFor, iAny, gIntA, gInA, gMulA, gEqA, gNeA, eqvDs]
  | x :: xs, y :: ys => by
    have h := eqv_strs xs ys
    simp only [List.map_cons, eqvDs, eqvD, h, List.cons.injEq, Bool.decide_and]
    congr 1
theorem ok_strs {n : Nat} {ps : List Str} (h : ∀ p ∈ ps, Real p) : okD (n + 1) (.lst (ps.map .str)) = true := by
  simp only [okD]
  exact okDs_map _ _ fun p hp => (h p hp).okD _
theorem s_read_reading {z : Str} {μ : List MO} (h : z.length ≤ 1000) (hr : Real z) : (∃ m, resRR z = .inl m ∧ g_read_reading [.d (.str z)] μ = some (.ok (.d (tupI m)) μ)) ∨ (∃ k, resRR z = .inr k ∧ g_read_reading [.d (.str z)] μ = some (.ex (.txt (.int (k : Nat))) μ)) := by
  have hp := s_parts_of (z := z) (μ := μ) h
  have hz : eLc true [4] (iRg none (eC (.int (8)))) (hName 4) bYes (eC (.int 0)) [.d (.str z), .un, .un, .un, .un, .un, .un, .un] μ = some (.ok (.m μ.length) (μ ++ [.ml (zeros.map .int)])) := by
    unfold eLc
    have hi : iRg none (eC (.int (8))) [.d (.str z), .un, .un, .un, .un, .un, .un, .un] μ = some (.ok ((rgI 0 8).map .int) μ) := by simp [eV_app, startS, eIsi, eNot, eAnd, eOr, eChain, sRet, sSeq, sSet, sIf, sNx, sDrop, sRaise, sRetN, aCons, eB, eCall, eTup, eLst, eIf, bAnd, bOr, bNot, tst, allD, viewT, viewL, viewX, tyD, isiB, hName, hTup, hsCons, hsNil, iSeq, wipeS, sAsg, gLe, gLt, gGe, gGt, gSub, gI20, gIsN, gNotN, gNotB, newL, eCut, ePart, gCut, iZip2, sFor, iAny, gIntA, gInA, gMulA, gEqA, gNeA, iRg]
    rw [hi]
    have hl : ((rgI 0 8).map D.int).length ≤ cap := by rw [List.length_map, rgI_length]; decide
    have hm := lcF_map (h := hName 4) (e := eC (.int 0)) (ρ := wipeS [.d (.str z), .un, .un, .un, .un, .un, .un, .un] [4]) (μ := μ) D.int (fun _ => .int 0) (rgI 0 8) (fun x hx => ⟨_, rfl, rfl⟩)
    simp only [hl, if_true, hm]
    rfl
  have hpar : sPar3 1 2 3 (aCons (eCall 1 g_parts_of (aCons (eV 0) aNil)) (aCons (eLc true [4] (iRg none (eC (.int (8)))) (hName 4) bYes (eC (.int 0))) (aCons (eNeg (eC (.int 1))) aNil))) [.d (.str z), .un, .un, .un, .un, .un, .un, .un] μ = some (.nx [.d (.str z), .d (.lst ((prt z).map .str)), .m μ.length, .d (.int (-1)), .un, .un, .un, .un] (μ ++ [.ml (zeros.map .int)])) := by
    have h1 : (eCall 1 g_parts_of (aCons (eV 0) aNil)) [.d (.str z), .un, .un, .un, .un, .un, .un, .un] μ = some (.ok (.d (.lst ((prt z).map .str))) μ) := by simp [eV_app, startS, eIsi, eNot, eAnd, eOr, eChain, sRet, sSeq, sSet, sIf, sNx, sDrop, sRaise, sRetN, aCons, eB, eCall, eTup, eLst, eIf, bAnd, bOr, bNot, tst, allD, viewT, viewL, viewX, tyD, isiB, hName, hTup, hsCons, hsNil, iSeq, wipeS, sAsg, gLe, gLt, gGe, gGt, gSub, gI20, gIsN, gNotN, gNotB, newL, eCut, ePart, gCut, iZip2, sFor, iAny, gIntA, gInA, gMulA, gEqA, gNeA, hp]
    have h3 : ∀ ρ μ, (eNeg (eC (.int 1))) ρ μ = some (.ok (.d (.int (-1))) μ) := fun _ _ => rfl
    unfold sPar3
    rw [aCons_app h1 (aCons_app hz (aCons_app (h3 _ _) aNil_app))]
    rfl
  have ok1 : okD 20 (.lst ((prt z).map .str)) = true := ok_strs fun p hp => hr.part hp
  have hdr : Real "-" := by
    intro c hc
    rw [dash_tl] at hc
    simp [eV_app, startS, eIsi, eNot, eAnd, eOr, eChain, sRet, sSeq, sSet, sIf, sNx, sDrop, sRaise, sRetN, aCons, eB, eCall, eTup, eLst, eIf, bAnd, bOr, bNot, tst, allD, viewT, viewL, viewX, tyD, isiB, hName, hTup, hsCons, hsNil, iSeq, wipeS, sAsg, gLe, gLt, gGe, gGt, gSub, gI20, gIsN, gNotN, gNotB, newL, eCut, ePart, gCut, iZip2, sFor, iAny, gIntA, gInA, gMulA, gEqA, gNeA] at hc; omega
  have ok2 : okD 20 (.lst [.str "-"]) = true := ok_strs (ps := ["-"]) fun p hp => by rw [List.mem_singleton.mp hp]; exact hdr
  have heq : (e2 gEqA (eV 1) (eLst false (aCons (eC (.str "-")) aNil))) [.d (.str z), .d (.lst ((prt z).map .str)), .m μ.length, .d (.int (-1)), .un, .un, .un, .un] (μ ++ [.ml (zeros.map .int)]) = some (.ok (.d (.bl (decide (z = "-")))) (μ ++ [.ml (zeros.map .int)])) := by
    have he := eqv_strs (prt z) [("-" : Str)]
    rw [List.map_cons, List.map_nil] at he
    have hd : decide (prt z = [("-" : Str)]) = decide (z = "-") := by rw [decide_eq_decide]; exact prt_dash z
    rw [hd] at he
    simp [eV_app, startS, eIsi, eNot, eAnd, eOr, eChain, sRet, sSeq, sSet, sIf, sNx, sDrop, sRaise, sRetN, aCons, eB, eCall, eTup, eLst, eIf, bAnd, bOr, bNot, tst, allD, viewT, viewL, viewX, tyD, isiB, hName, hTup, hsCons, hsNil, iSeq, wipeS, sAsg, gLe, gLt, gGe, gGt, gSub, gI20, gIsN, gNotN, gNotB, newL, eCut, ePart, gCut, iZip2, sFor, iAny, gIntA, gInA, gMulA, gEqA, gNeA, gEq, toD, ok1, ok2, eqvD, he]
  have hret : ∀ b3 b4 b5 b6 b7 fs, (sRet (eB (gTup) (aCons (eV 2) aNil))) [.d (.str z), .d (.lst ((prt z).map .str)), .m μ.length, b3, b4, b5, b6, b7] (μ ++ [.ml (List.map D.int fs)]) = some (.ret (.d (tupI fs)) (μ ++ [.ml (List.map D.int fs)])) := fun _ _ _ _ _ _ => by simp [eV_app, startS, eIsi, eNot, eAnd, eOr, eChain, sRet, sSeq, sSet, sIf, sNx, sDrop, sRaise, sRetN, aCons, eB, eCall, eTup, eLst, eIf, bAnd, bOr, bNot, tst, allD, viewT, viewL, viewX, tyD, isiB, hName, hTup, hsCons, hsNil, iSeq, wipeS, sAsg, gLe, gLt, gGe, gGt, gSub, gI20, gIsN, gNotN, gNotB, newL, eCut, ePart, gCut, iZip2, sFor, iAny, gIntA, gInA, gMulA, gEqA, gNeA, gTup, tupI]
  have hfb : ∀ r, fb_read_reading [.d (.str z), .un, .un, .un, .un, .un, .un, .un] μ = r → g_read_reading [.d (.str z)] μ = fin μ.length r := fun r hr => by rw [← hr]; rfl
  by_cases hd : z = "-"
  · refine .inl ⟨zeros, by unfold resRR; rw [if_pos hd], ?_⟩
    rw [hfb (some (.ret (.d (tupI zeros)) (μ ++ [.ml (List.map D.int zeros)]))) ?_]
    · simp [eV_app, startS, eIsi, eNot, eAnd, eOr, eChain, sRet, sSeq, sSet, sIf, sNx, sDrop, sRaise, sRetN, aCons, eB, eCall, eTup, eLst, eIf, bAnd, bOr, bNot, tst, allD, viewT, viewL, viewX, tyD, isiB, hName, hTup, hsCons, hsNil, iSeq, wipeS, sAsg, gLe, gLt, gGe, gGt, gSub, gI20, gIsN, gNotN, gNotB, newL, eCut, ePart, gCut, iZip2, sFor, iAny, gIntA, gInA, gMulA, gEqA, gNeA]
    · unfold fb_read_reading
      refine sSeq_nx hpar ?_
      rw [decide_eq_true hd] at heq
      simp only [sSeq, sIf, tst, heq, toB_ok, hret]
  · have hit : ∀ b2 b3 b4 b5 b6 b7 μ', iEnm (aCons (eV 1) aNil) [.d (.str z), .d (.lst ((prt z).map .str)), b2, b3, b4, b5, b6, b7] μ' = some (.ok (enumK 0 ((prt z).map .str)) μ') := fun _ _ _ _ _ _ _ => by
      simp [eV_app, startS, eIsi, eNot, eAnd, eOr, eChain, sRet, sSeq, sSet, sIf, sNx, sDrop, sRaise, sRetN, aCons, eB, eCall, eTup, eLst, eIf, bAnd, bOr, bNot, tst, allD, viewT, viewL, viewX, tyD, isiB, hName, hTup, hsCons, hsNil, iSeq, wipeS, sAsg, gLe, gLt, gGe, gGt, gSub, gI20, gIsN, gNotN, gNotB, newL, eCut, ePart, gCut, iZip2, sFor, iAny, gIntA, gInA, gMulA, gEqA, gNeA, iEnm, enumD_K]
    rw [decide_eq_false hd] at heq
    rcases rr_loop (a := .d (.str z)) (b := .d (.lst ((prt z).map .str))) (μ := μ) (prt z) 0 zeros (-1) .un .un .un .un (fun p hp => Nat.le_trans (prt_mem hp).2 h) rfl (by omega) with ⟨fs, b3, b4, b5, b6, b7, e1, e2⟩ | ⟨k, x, e1, e2⟩
    · refine .inl ⟨fs, by unfold resRR; rw [if_neg hd]; exact e1, ?_⟩
      rw [hfb (some (.ret (.d (tupI fs)) (μ ++ [.ml (List.map D.int fs)]))) ?_]
      · simp [eV_app, startS, eIsi, eNot, eAnd, eOr, eChain, sRet, sSeq, sSet, sIf, sNx, sDrop, sRaise, sRetN, aCons, eB, eCall, eTup, eLst, eIf, bAnd, bOr, bNot, tst, allD, viewT, viewL, viewX, tyD, isiB, hName, hTup, hsCons, hsNil, iSeq, wipeS, sAsg, gLe, gLt, gGe, gGt, gSub, gI20, gIsN, gNotN, gNotB, newL, eCut, ePart, gCut, iZip2, sFor, iAny, gIntA, gInA, gMulA, gEqA, gNeA]
      · unfold fb_read_reading
        refine sSeq_nx hpar ?_
        simp only [sSeq, sIf, tst, heq, toB_ok, sNx, sFor, hit, e2, hret]
    · refine .inr ⟨k, by unfold resRR; rw [if_neg hd]; exact e1, ?_⟩
      rw [hfb (some (.ex (.txt (.int (k : Nat))) (μ ++ [x]))) ?_]
      · simp [eV_app, startS, eIsi, eNot, eAnd, eOr, eChain, sRet, sSeq, sSet, sIf, sNx, sDrop, sRaise, sRetN, aCons, eB, eCall, eTup, eLst, eIf, bAnd, bOr, bNot, tst, allD, viewT, viewL, viewX, tyD, isiB, hName, hTup, hsCons, hsNil, iSeq, wipeS, sAsg, gLe, gLt, gGe, gGt, gSub, gI20, gIsN, gNotN, gNotB, newL, eCut, ePart, gCut, iZip2, sFor, iAny, gIntA, gInA, gMulA, gEqA, gNeA]
      · unfold fb_read_reading
        refine sSeq_nx hpar ?_
        simp only [sSeq, sIf, tst, heq, toB_ok, sNx, sFor, hit, e2]
end K05
end

section
set_option linter.all false
set_option maxRecDepth 100000
set_option maxHeartbeats 1000000
namespace K05
open PySem DL
theorem gAt {parts : List Str} {k : Nat} {p : Str} (hk : parts[k]? = some p) {μ : List MO} : gIx (.d (.lst (parts.map .str))) (.d (.int (k : Int))) μ = some (.ok (.d (.str p)) μ) := by
  have hat : L2.atI (parts.map D.str) (k : Int) = some (.str p) := by
    obtain ⟨x, x1, x2⟩ := atI_map D.str (xs := parts) (r := (k : Int)) (by omega) (by have := (List.getElem?_eq_some_iff.mp hk).1; omega)
    rw [Int.toNat_natCast, hk] at x1
    cases x1; exact x2
  simp [eV_app, startS, eIsi, eNot, eAnd, eOr, eChain, sRet, sSeq, sSet, sIf, sNx, sDrop, sRaise, sRetN, aCons, eB, eCall, eTup, eLst, eIf, bAnd, bOr, bNot, tst, allD, viewT, viewL, viewX, tyD, isiB, hName, hTup, hsCons, hsNil, iSeq, wipeS, sAsg, gLe, gLt, gGe, gGt, gSub, gI20, gIsN, gNotN, gNotB, newL, eCut, ePart, gCut, iZip2, sFor, iAny, gIntA, gInA, gMulA, gEqA, gNeA, gIx, hat]
theorem rd_step {z s5 s6 s7 : S} {k : Nat} {p : Str} {parts : List Str} {last : Int} {fs : List Int} {μ : List MO} (hl : p.length ≤ 1000) (hr : Real p) (hf : fs.length = 8) (hlast : -1 ≤ last) (hk : parts[k]? = some p) :
    (∀ s n, okR last (tl p) = some (s, n) → ∃ b5 b6 b7, lb__law_reading_due_0 [z, .m μ.length, .d (.lst (parts.map .str)), .d (.int last), .d (.int (k : Int)), s5, s6, s7] (μ ++ [.ml (fs.map .int)]) = some (.nx [z, .m μ.length, .d (.lst (parts.map .str)), .d (.int s), .d (.int (k : Int)), b5, b6, b7] (μ ++ [.ml ((fs.set s.toNat n).map .int)]))) ∧
    (okR last (tl p) = none → lb__law_reading_due_0 [z, .m μ.length, .d (.lst (parts.map .str)), .d (.int last), .d (.int (k : Int)), s5, s6, s7] (μ ++ [.ml (fs.map .int)]) = some (.ret (.d (.tup [.str "bad", .int (k : Int)])) (μ ++ [.ml (fs.map .int)]))) := by
  have hat := fun μ => gAt (μ := μ) hk
  have hcut : ∀ lo hi μ, gCut false (.d (.str p)) lo hi μ = some (.ok (.d (.str (L2.cutS p lo hi))) μ) := fun _ _ _ => gCut_str hl
  generalize hμ : μ ++ [MO.ml (fs.map D.int)] = μ1
  generalize hsl : L2.cutS p none (some 1) = sl
  generalize hnum : L2.cutS p (some 2) none = num
  have t2 : tl num = (tl p).drop 2 := by rw [← hnum]; exact cutS_from p 2
  have t1 : tl sl = (tl p).take 1 := by rw [← hsl]; exact cutS_to p 1
  have t12 := cutS_12 p
  have hnl : num.length ≤ 1000 := by rw [← hnum]; exact Nat.le_trans (cut_len _ _ _) hl
  have hnr : Real num := fun c hc => hr c (by rw [← hnum] at hc; exact cut_mem hc)
  generalize hρ : ([z, .m μ.length, .d (.lst (parts.map .str)), .d (.int last), .d (.int (k : Int)), .d (.str sl), .d (.str num), s7] : List S) = ρ
  have hpar : sPar 5 6 (aCons (eCut false (e2 gIx (eV 2) (eV 4)) none (some (eC (.int 1)))) (aCons (eCut false (e2 gIx (eV 2) (eV 4)) (some (eC (.int 2))) none) aNil)) [z, .m μ.length, .d (.lst (parts.map .str)), .d (.int last), .d (.int (k : Int)), s5, s6, s7] μ1 = some (.nx ρ μ1) := by
    rw [← hρ]
    simp only [sPar, aCons, eCut, e2_app, eV_app, List.getElem?_cons_succ, List.getElem?_cons_zero, bE_ok, hat, ePart, eC_app, hcut, hsl, hnum, aNil_app, List.set_cons_succ, List.set_cons_zero]
  have v5 : ∀ μ, eV 5 ρ μ = some (.ok (.d (.str sl)) μ) := fun _ => by rw [← hρ]; rfl
  have v6 : ∀ μ, eV 6 ρ μ = some (.ok (.d (.str num)) μ) := fun _ => by rw [← hρ]; rfl
  have v3 : ∀ μ, eV 3 ρ μ = some (.ok (.d (.int last)) μ) := fun _ => by rw [← hρ]; rfl
  have hcol : (e2 gNeA (eCut false (e2 gIx (eV 2) (eV 4)) (some (eC (.int 1))) (some (eC (.int 2)))) (eC (.str ":"))) ρ μ1 = some (.ok (.d (.bl (!decide (((tl p).drop 1).take 1 = [58])))) μ1) := by
    have : (L2.cutS p (some 1) (some 2) == (":" : Str)) = decide (((tl p).drop 1).take 1 = [58]) := by
      rw [str_beq, t12, colon_tl]
    rw [← hρ]
    simp only [e2_app, eCut, eV_app, List.getElem?_cons_succ, List.getElem?_cons_zero, bE_ok, hat, ePart, eC_app, hcut, gNeA, this]
  have hret : (sRet (eTup (aCons (eC (.str "bad")) (aCons (eV 4) aNil)))) ρ μ1 = some (.ret (.d (.tup [.str "bad", .int (k : Int)])) μ1) := by rw [← hρ]; simp [eV_app, startS, eIsi, eNot, eAnd, eOr, eChain, sRet, sSeq, sSet, sIf, sNx, sDrop, sRaise, sRetN, aCons, eB, eCall, eTup, eLst, eIf, bAnd, bOr, bNot, tst, allD, viewT, viewL, viewX, tyD, isiB, hName, hTup, hsCons, hsNil, iSeq, wipeS, sAsg, gLe, gLt, gGe, gGt, gSub, gI20, gIsN, gNotN, gNotB, newL, eCut, ePart, gCut, iZip2, sFor, iAny, gIntA, gInA, gMulA, gEqA, gNeA]
  have hem : (e2 gEqA (eV 6) (eC (.str ""))) ρ μ1 = some (.ok (.d (.bl (decide (tl num = [])))) μ1) := by
    rw [e2_app, v6, bE_ok, eC_app, bE_ok]
    show some (ER.ok (.d (.bl (num == ""))) μ1) = _
    rw [str_beq]; rfl
  have h24 : num.length ≤ small24 := by unfold small24; omega
  have hln : (e2 gGt (eB (gLen) (aCons (eV 6) aNil)) (eC (.int 3))) ρ μ1 = some (.ok (.d (.bl (decide ((3 : Int) < num.length)))) μ1) := by
    simp only [e2_app, eB, aCons, v6, aNil_app, bAE_ok, gLen, h24, if_true, bE_ok, eC_app, gGt, gI20]
  have hodd := odd_comp (fe := eV 6) (u := "0123456789") (k := 7) (ρ := ρ) (μ := μ1) hnl hnr (v6 μ1) (by rw [← hρ]; simp [eV_app, startS, eIsi, eNot, eAnd, eOr, eChain, sRet, sSeq, sSet, sIf, sNx, sDrop, sRaise, sRetN, aCons, eB, eCall, eTup, eLst, eIf, bAnd, bOr, bNot, tst, allD, viewT, viewL, viewX, tyD, isiB, hName, hTup, hsCons, hsNil, iSeq, wipeS, sAsg, gLe, gLt, gGe, gGt, gSub, gI20, gIsN, gNotN, gNotB, newL, eCut, ePart, gCut, iZip2, sFor, iAny, gIntA, gInA, gMulA, gEqA, gNeA])
  have h9 : (∀ c ∈ tl num, c ∈ tl ("0123456789" : Str)) ↔ ∀ c ∈ tl num, 48 ≤ c ∧ c ≤ 57 := ⟨fun h c hc => (fig_mem c).mp (h c hc), fun h c hc => (fig_mem c).mpr (h c hc)⟩
  unfold lb__law_reading_due_0
  by_cases hc : ((tl p).drop 1).take 1 = [58]
  · rw [decide_eq_true hc] at hcol
    obtain ⟨x, nu, hp⟩ : ∃ x nu, tl p = x :: 58 :: nu := by
      match hp : tl p with
      | [] => rw [hp] at hc; simp [eV_app, startS, eIsi, eNot, eAnd, eOr, eChain, sRet, sSeq, sSet, sIf, sNx, sDrop, sRaise, sRetN, aCons, eB, eCall, eTup, eLst, eIf, bAnd, bOr, bNot, tst, allD, viewT, viewL, viewX, tyD, isiB, hName, hTup, hsCons, hsNil, iSeq, wipeS, sAsg, gLe, gLt, gGe, gGt, gSub, gI20, gIsN, gNotN, gNotB, newL, eCut, ePart, gCut, iZip2, sFor, iAny, gIntA, gInA, gMulA, gEqA, gNeA] at hc
      | [x] => rw [hp] at hc; simp [eV_app, startS, eIsi, eNot, eAnd, eOr, eChain, sRet, sSeq, sSet, sIf, sNx, sDrop, sRaise, sRetN, aCons, eB, eCall, eTup, eLst, eIf, bAnd, bOr, bNot, tst, allD, viewT, viewL, viewX, tyD, isiB, hName, hTup, hsCons, hsNil, iSeq, wipeS, sAsg, gLe, gLt, gGe, gGt, gSub, gI20, gIsN, gNotN, gNotB, newL, eCut, ePart, gCut, iZip2, sFor, iAny, gIntA, gInA, gMulA, gEqA, gNeA] at hc
      | x :: c :: nu => rw [hp] at hc; simp [eV_app, startS, eIsi, eNot, eAnd, eOr, eChain, sRet, sSeq, sSet, sIf, sNx, sDrop, sRaise, sRetN, aCons, eB, eCall, eTup, eLst, eIf, bAnd, bOr, bNot, tst, allD, viewT, viewL, viewX, tyD, isiB, hName, hTup, hsCons, hsNil, iSeq, wipeS, sAsg, gLe, gLt, gGe, gGt, gSub, gI20, gIsN, gNotN, gNotB, newL, eCut, ePart, gCut, iZip2, sFor, iAny, gIntA, gInA, gMulA, gEqA, gNeA] at hc; exact ⟨x, nu, by rw [hc]⟩
    rw [hp] at t1 t2
    simp only [List.drop_succ_cons, List.drop_zero, List.take_succ_cons, List.take_zero] at t1 t2
    obtain rfl : sl = sgn x := one_tl t1
    have hin : (e2 (gInA true) (eV 5) (eC (.str "01234567"))) ρ μ1 = some (.ok (.d (.bl (!decide (48 ≤ x ∧ x ≤ 55)))) μ1) := by
      have : decide (x ∈ tl ("01234567" : Str)) = decide (48 ≤ x ∧ x ≤ 55) := by rw [decide_eq_decide]; exact fig8_mem x
      simp only [e2_app, v5, bE_ok, eC_app, gInA, gInS_sgn, if_true, this]
    have okr : okR last (tl p) = if 48 ≤ x ∧ x ≤ 55 ∧ last < (x : Int) - 48 ∧ okN nu = true then some ((x : Int) - 48, (dv nu : Int)) else none := by
      rw [hp]
      simp only [okR, true_and]
    rw [okr]
    by_cases hx : 48 ≤ x ∧ x ≤ 55
    · rw [decide_eq_true hx] at hin
      have hii : ∀ μ, (eB gIntA (aCons (eV 5) aNil)) ρ μ = some (.ok (.d (.int ((x : Int) - 48))) μ) := fun μ => by
        simp only [eB, aCons, v5, aNil_app, bAE_ok, gIntA]
        exact gIntS_sgn (by omega)
      have hle : (e2 gLe (eB (gIntA) (aCons (eV 5) aNil)) (eV 3)) ρ μ1 = some (.ok (.d (.bl (decide ((x : Int) - 48 ≤ last)))) μ1) := by
        simp only [e2_app, hii, bE_ok, v3, gLe, gI20]
      by_cases hla : (x : Int) - 48 ≤ last
      · rw [decide_eq_true hla] at hle
        have hno : ¬ (48 ≤ x ∧ x ≤ 55 ∧ last < (x : Int) - 48 ∧ okN nu = true) := fun h => by omega
        rw [if_neg hno]
        refine ⟨fun s n h => (nomatch h), fun _ => sSeq_nx hpar ?_⟩
        simp only [sSeq, sIf, bOr, tst, hcol, hin, hle, Bool.not_true, toB_ok, bBB_ok, hret]
      · rw [decide_eq_false hla] at hle
        have hpass : ∀ f, sSeq (sIf (bOr (tst (e2 gNeA (eCut false (e2 gIx (eV 2) (eV 4)) (some (eC (.int 1))) (some (eC (.int 2)))) (eC (.str ":")))) (bOr (tst (e2 (gInA true) (eV 5) (eC (.str "01234567")))) (tst (e2 gLe (eB (gIntA) (aCons (eV 5) aNil)) (eV 3))))) (sRet (eTup (aCons (eC (.str "bad")) (aCons (eV 4) aNil)))) sNx) f ρ μ1 = f ρ μ1 := fun f => by
          simp only [sSeq, sIf, bOr, tst, hcol, hin, hle, Bool.not_true, toB_ok, bBB_ok, sNx]
        by_cases hn0 : tl num = []
        · rw [decide_eq_true hn0] at hem
          have hno : ¬ (48 ≤ x ∧ x ≤ 55 ∧ last < (x : Int) - 48 ∧ okN nu = true) := fun h => (okN_iff.mp h.2.2.2).1 (by rw [← t2]; exact hn0)
          rw [if_neg hno]
          refine ⟨fun s n h => (nomatch h), fun _ => sSeq_nx hpar ?_⟩
          rw [hpass]
          simp only [sSeq, sIf, bOr, tst, hem, toB_ok, bBB_ok, hret]
        · rw [decide_eq_false hn0] at hem
          by_cases hn3 : (3 : Int) < num.length
          · rw [decide_eq_true hn3] at hln
            have hno : ¬ (48 ≤ x ∧ x ≤ 55 ∧ last < (x : Int) - 48 ∧ okN nu = true) := fun h => by
              have := (okN_iff.mp h.2.2.2).2.2.1
              rw [len_tl, t2] at hn3; omega
            rw [if_neg hno]
            refine ⟨fun s n h => (nomatch h), fun _ => sSeq_nx hpar ?_⟩
            rw [hpass]
            simp only [sSeq, sIf, bOr, tst, hem, hln, toB_ok, bBB_ok, hret]
          · rw [decide_eq_false hn3] at hln
            by_cases hd : ∀ c ∈ tl num, 48 ≤ c ∧ c ≤ 57
            · rw [decide_eq_true (h9.mpr hd)] at hodd
              cases hnu : tl num with
              | nil => exact absurd hnu hn0
              | cons y r =>
                have hfix : ∀ μ, gIx (.d (.str num)) (.d (.int 0)) μ = some (.ok (.d (.str (sgn y))) μ) := fun μ => first_sgn hnu hnl
                have hze : (e2 gEqA (e2 gIx (eV 6) (eC (.int 0))) (eC (.str "0"))) ρ μ1 = some (.ok (.d (.bl (decide (y = 48)))) μ1) := by
                  have h0 : (sgn y == ("0" : Str)) = decide (y = 48) := by
                    rw [str_beq]
                    have : tl ("0" : Str) = [48] := by decide
                    rw [this]; simp [eV_app, startS, eIsi, eNot, eAnd, eOr, eChain, sRet, sSeq, sSet, sIf, sNx, sDrop, sRaise, sRetN, aCons, eB, eCall, eTup, eLst, eIf, bAnd, bOr, bNot, tst, allD, viewT, viewL, viewX, tyD, isiB, hName, hTup, hsCons, hsNil, iSeq, wipeS, sAsg, gLe, gLt, gGe, gGt, gSub, gI20, gIsN, gNotN, gNotB, newL, eCut, ePart, gCut, iZip2, sFor, iAny, gIntA, gInA, gMulA, gEqA, gNeA, tl]
                  simp only [e2_app, v6, bE_ok, eC_app, hfix, gEqA, h0]
                have hint : ∀ μ, (eB gIntA (aCons (eV 6) aNil)) ρ μ = some (.ok (.d (.int (dv nu : Nat))) μ) := fun μ => by
                  simp only [eB, aCons, v6, aNil_app, bAE_ok, gIntA]
                  rw [← t2]
                  exact int_text hd hn0 (by omega)
                have hgt : (e2 gGt (eB (gIntA) (aCons (eV 6) aNil)) (eC (.int 200))) ρ μ1 = some (.ok (.d (.bl (decide ((200 : Int) < (dv nu : Nat))))) μ1) := by
                  simp only [e2_app, hint, bE_ok, eC_app, gGt, gI20]
                by_cases hy : y = 48
                · rw [decide_eq_true hy] at hze
                  have hno : ¬ (48 ≤ x ∧ x ≤ 55 ∧ last < (x : Int) - 48 ∧ okN nu = true) := fun h => (okN_iff.mp h.2.2.2).2.2.2.1 (by rw [← t2, hnu, hy]; rfl)
                  rw [if_neg hno]
                  refine ⟨fun s n h => (nomatch h), fun _ => sSeq_nx hpar ?_⟩
                  rw [hpass]
                  simp only [sSeq, sIf, bOr, tst, hem, hln, hodd, hze, Bool.not_true, toB_ok, bBB_ok, hret]
                · rw [decide_eq_false hy] at hze
                  by_cases h200 : (200 : Int) < (dv nu : Nat)
                  · rw [decide_eq_true h200] at hgt
                    have hno : ¬ (48 ≤ x ∧ x ≤ 55 ∧ last < (x : Int) - 48 ∧ okN nu = true) := fun h => by
                      have := (okN_iff.mp h.2.2.2).2.2.2.2
                      omega
                    rw [if_neg hno]
                    refine ⟨fun s n h => (nomatch h), fun _ => sSeq_nx hpar ?_⟩
                    rw [hpass]
                    simp only [sSeq, sIf, bOr, tst, hem, hln, hodd, hze, hgt, Bool.not_true, toB_ok, bBB_ok, hret]
                  · rw [decide_eq_false h200] at hgt
                    have hyes : 48 ≤ x ∧ x ≤ 55 ∧ last < (x : Int) - 48 ∧ okN nu = true := by
                      refine ⟨hx.1, hx.2, by omega, okN_iff.mpr ⟨by rw [← t2]; exact hn0, by rw [← t2]; exact hd, ?_, ?_, by omega⟩⟩
                      · rw [len_tl, t2] at hn3; omega
                      · rw [← t2, hnu]; simpa [eV_app, startS, eIsi, eNot, eAnd, eOr, eChain, sRet, sSeq, sSet, sIf, sNx, sDrop, sRaise, sRetN, aCons, eB, eCall, eTup, eLst, eIf, bAnd, bOr, bNot, tst, allD, viewT, viewL, viewX, tyD, isiB, hName, hTup, hsCons, hsNil, iSeq, wipeS, sAsg, gLe, gLt, gGe, gGt, gSub, gI20, gIsN, gNotN, gNotB, newL, eCut, ePart, gCut, iZip2, sFor, iAny, gIntA, gInA, gMulA, gEqA, gNeA] using hy
                    rw [if_pos hyes]
                    refine ⟨fun s n h => ?_, fun h => (nomatch h)⟩
                    simp only [Option.some.injEq, Prod.mk.injEq] at h
                    obtain ⟨rfl, rfl⟩ := h
                    refine ⟨.d (.str (sgn x)), .d (.str num), s7, sSeq_nx hpar ?_⟩
                    rw [hpass]
                    refine sSeq_nx (ρ1 := ρ) (μ1 := μ1) (by simp only [sIf, bOr, tst, hem, hln, hodd, hze, hgt, Bool.not_true, toB_ok, bBB_ok, sNx]) ?_
                    refine sSeq_nx (sSet_ok (hii μ1)) ?_
                    have hint2 : (eB gIntA (aCons (eV 6) aNil)) (ρ.set 3 (.d (.int ((x : Int) - 48)))) μ1 = some (.ok (.d (.int (dv nu : Nat))) μ1) := by
                      have v6' : eV 6 (ρ.set 3 (.d (.int ((x : Int) - 48)))) μ1 = some (.ok (.d (.str num)) μ1) := by rw [← hρ]; rfl
                      simp only [eB, aCons, v6', aNil_app, bAE_ok, gIntA]
                      rw [← t2]
                      exact int_text hd hn0 (by omega)
                    have h8 := ix8 (s := (x : Int) - 48) (by omega)
                    unfold sSetItem
                    rw [hint2]
                    rw [← hρ, ← hμ]
                    simp [eV_app, startS, eIsi, eNot, eAnd, eOr, eChain, sRet, sSeq, sSet, sIf, sNx, sDrop, sRaise, sRetN, aCons, eB, eCall, eTup, eLst, eIf, bAnd, bOr, bNot, tst, allD, viewT, viewL, viewX, tyD, isiB, hName, hTup, hsCons, hsNil, iSeq, wipeS, sAsg, gLe, gLt, gGe, gGt, gSub, gI20, gIsN, gNotN, gNotB, newL, eCut, ePart, gCut, iZip2, sFor, iAny, gIntA, gInA, gMulA, gEqA, gNeA, hf, h8]
            · have hno : ¬ (48 ≤ x ∧ x ≤ 55 ∧ last < (x : Int) - 48 ∧ okN nu = true) := fun h => hd (by rw [t2]; exact (okN_iff.mp h.2.2.2).2.1)
              rw [decide_eq_false (fun w => hd (h9.mp w))] at hodd
              rw [if_neg hno]
              refine ⟨fun s n h => (nomatch h), fun _ => sSeq_nx hpar ?_⟩
              rw [hpass]
              simp only [sSeq, sIf, bOr, tst, hem, hln, hodd, Bool.not_false, toB_ok, bBB_ok, hret]
    · rw [decide_eq_false hx] at hin
      have hno : ¬ (48 ≤ x ∧ x ≤ 55 ∧ last < (x : Int) - 48 ∧ okN nu = true) := fun h => hx ⟨h.1, h.2.1⟩
      rw [if_neg hno]
      refine ⟨fun s n h => (nomatch h), fun _ => sSeq_nx hpar ?_⟩
      simp only [sSeq, sIf, bOr, tst, hcol, hin, Bool.not_true, Bool.not_false, toB_ok, bBB_ok, hret]
  · rw [decide_eq_false hc] at hcol
    have hno : okR last (tl p) = none := by
      match hp : tl p with
      | [] => rfl
      | [x] => rfl
      | x :: c :: nu =>
        rw [hp] at hc
        simp only [okR]
        rw [if_neg]
        rintro ⟨h, _⟩
        exact hc (by rw [h]; rfl)
    rw [hno]
    refine ⟨fun s n h => (nomatch h), fun _ => sSeq_nx hpar ?_⟩
    simp only [sSeq, sIf, bOr, tst, hcol, Bool.not_false, toB_ok, bBB_ok, hret]
theorem rd_loop {z : S} {parts : List Str} {μ : List MO} : ∀ (ps : List Str) (k : Nat) (fs : List Int) (last : Int) (s4 s5 s6 s7 : S), (∀ i, parts[k + i]? = ps[i]?) → (∀ p ∈ ps, p.length ≤ 1000 ∧ Real p) → fs.length = 8 → -1 ≤ last →
    (∃ fs' b3 b4 b5 b6 b7, resR k ps fs last = .inl fs' ∧ forF (hName 4) lb__law_reading_due_0 ((rgI k (k + ps.length)).map .int) [z, .m μ.length, .d (.lst (parts.map .str)), .d (.int last), s4, s5, s6, s7] (μ ++ [.ml (fs.map .int)]) = some (.nx [z, .m μ.length, .d (.lst (parts.map .str)), b3, b4, b5, b6, b7] (μ ++ [.ml (fs'.map .int)]))) ∨
    (∃ at' x, resR k ps fs last = .inr at' ∧ forF (hName 4) lb__law_reading_due_0 ((rgI k (k + ps.length)).map .int) [z, .m μ.length, .d (.lst (parts.map .str)), .d (.int last), s4, s5, s6, s7] (μ ++ [.ml (fs.map .int)]) = some (.ret (.d (.tup [.str "bad", .int (at' : Nat)])) (μ ++ [x])))
  | [], k, fs, last, s4, s5, s6, s7, _, _, _, _ => .inl ⟨fs, .d (.int last), s4, s5, s6, s7, rfl, by rw [rgI_nil (by simp [eV_app, startS, eIsi, eNot, eAnd, eOr, eChain, sRet, sSeq, sSet, sIf, sNx, sDrop, sRaise, sRetN, aCons, eB, eCall, eTup, eLst, eIf, bAnd, bOr, bNot, tst, allD, viewT, viewL, viewX, tyD, isiB, hName, hTup, hsCons, hsNil, iSeq, wipeS, sAsg, gLe, gLt, gGe, gGt, gSub, gI20, gIsN, gNotN, gNotB, newL, eCut, ePart, gCut, iZip2, sFor, iAny, gIntA, gInA, gMulA, gEqA, gNeA])]; rfl⟩
  | p :: ps, k, fs, last, s4, s5, s6, s7, hi, hp, hf, hla => by
    have h0 := hi 0
    simp only [Nat.add_zero, List.getElem?_cons_zero] at h0
    obtain ⟨st1, st2⟩ := rd_step (z := z) (s5 := s5) (s6 := s6) (s7 := s7) (μ := μ) (fs := fs) (last := last) (hp p List.mem_cons_self).1 (hp p List.mem_cons_self).2 hf hla h0
    rw [List.length_cons, show ((k : Int) + ((ps.length + 1 : Nat) : Int)) = ((k + 1 : Nat) : Int) + (ps.length : Int) by omega, rgI_cons (by omega), List.map_cons]
    have e0 : hName 4 (.int (k : Int)) [z, .m μ.length, .d (.lst (parts.map .str)), .d (.int last), s4, s5, s6, s7] = some [z, .m μ.length, .d (.lst (parts.map .str)), .d (.int last), .d (.int (k : Int)), s5, s6, s7] := rfl
    unfold forF resR
    cases h : okR last (tl p) with
    | some sn =>
      obtain ⟨s, n⟩ := sn
      obtain ⟨b5, b6, b7, e1⟩ := st1 s n h
      obtain ⟨o1, o2, o3, o4, o5⟩ := okR_bound h
      simp only [e0, e1]
      exact rd_loop ps (k + 1) (fs.set s.toNat n) s _ _ _ _ (fun i => by rw [show k + 1 + i = k + (i + 1) by omega, hi (i + 1)]; rfl) (fun q hq => hp q (List.mem_cons_of_mem _ hq)) (by simp [eV_app, startS, eIsi, eNot, eAnd, eOr, eChain, sRet, sSeq, sSet, sIf, sNx, sDrop, sRaise, sRetN, aCons, eB, eCall, eTup, eLst, eIf, bAnd, bOr, bNot, tst, allD, viewT, viewL, viewX, tyD, isiB, hName, hTup, hsCons, hsNil, iSeq, wipeS, sAsg, gLe, gLt, gGe, gGt, gSub, gI20, gIsN, gNotN, gNotB, newL, eCut, ePart, gCut, iZip2, sFor, iAny, gIntA, gInA, gMulA, gEqA, gNeA, hf]) (by omega)
    | none =>
      simp only [e0, st2 h]
      exact .inr ⟨k, _, rfl, rfl⟩
theorem s_reading_due {z : Str} {μ : List MO} (h : z.length ≤ 1000) (hr : Real z) : (∃ m, resRR z = .inl m ∧ g__law_reading_due [.d (.str z)] μ = some (.ok (.d (.tup [.str "read", tupI m])) μ)) ∨ (∃ k, resRR z = .inr k ∧ g__law_reading_due [.d (.str z)] μ = some (.ok (.d (.tup [.str "bad", .int (k : Nat)])) μ)) := by
  have h24 : z.length ≤ small24 := by unfold small24; omega
  have hs : ((" " : Str).length == 0) = false := by decide
  have hg : ∀ μ, gSplit false z (.d (.str " ")) μ = some (.ok (.d (.lst ((prt z).map .str))) μ) := fun μ => by
    unfold gSplit
    simp only [hs, h24, and_self, if_true]
    rfl
  have hpl := prt_len z
  have hn2 : ((prt z).length : Int) ≤ 2305843009213693952 := by omega
  have hzz : (e2 (gMulA true) (eLst false (aCons (eC (.int 0)) aNil)) (eC (.int 8))) [.d (.str z), .un, .un, .un, .un, .un, .un, .un] μ = some (.ok (.m μ.length) (μ ++ [.ml (zeros.map .int)])) := by
    simp only [e2_app, eLst, aCons, eC_app, aNil_app, bAE_ok, allD, Option.map_some, List.length_cons, List.length_nil, newL, bE_ok, Nat.reduceAdd, Nat.reduceLeDiff, if_true]
    rfl
  have hpar : sPar3 1 2 3 (aCons (e2 (gMulA true) (eLst false (aCons (eC (.int 0)) aNil)) (eC (.int 8))) (aCons (eM1 (gSplit false) (eV 0) (eC (.str " "))) (aCons (eNeg (eC (.int 1))) aNil))) [.d (.str z), .un, .un, .un, .un, .un, .un, .un] μ = some (.nx [.d (.str z), .m μ.length, .d (.lst ((prt z).map .str)), .d (.int (-1)), .un, .un, .un, .un] (μ ++ [.ml (zeros.map .int)])) := by
    have h1 : ∀ μ, (eM1 (gSplit false) (eV 0) (eC (.str " "))) [.d (.str z), .un, .un, .un, .un, .un, .un, .un] μ = some (.ok (.d (.lst ((prt z).map .str))) μ) := fun μ => by simp [eV_app, startS, eIsi, eNot, eAnd, eOr, eChain, sRet, sSeq, sSet, sIf, sNx, sDrop, sRaise, sRetN, aCons, eB, eCall, eTup, eLst, eIf, bAnd, bOr, bNot, tst, allD, viewT, viewL, viewX, tyD, isiB, hName, hTup, hsCons, hsNil, iSeq, wipeS, sAsg, gLe, gLt, gGe, gGt, gSub, gI20, gIsN, gNotN, gNotB, newL, eCut, ePart, gCut, iZip2, sFor, iAny, gIntA, gInA, gMulA, gEqA, gNeA, eM1, hg]
    have h3 : ∀ ρ μ, (eNeg (eC (.int 1))) ρ μ = some (.ok (.d (.int (-1))) μ) := fun _ _ => rfl
    unfold sPar3
    rw [aCons_app hzz (aCons_app (h1 _) (aCons_app (h3 _ _) aNil_app))]
    rfl
  have heq : (e2 gEqA (eV 0) (eC (.str "-"))) [.d (.str z), .m μ.length, .d (.lst ((prt z).map .str)), .d (.int (-1)), .un, .un, .un, .un] (μ ++ [.ml (zeros.map .int)]) = some (.ok (.d (.bl (decide (z = "-")))) (μ ++ [.ml (zeros.map .int)])) := by
    have : (z == ("-" : Str)) = decide (z = "-") := by
      by_cases e : z = "-"
      · subst e; rfl
      · rw [decide_eq_false e]; simpa [eV_app, startS, eIsi, eNot, eAnd, eOr, eChain, sRet, sSeq, sSet, sIf, sNx, sDrop, sRaise, sRetN, aCons, eB, eCall, eTup, eLst, eIf, bAnd, bOr, bNot, tst, allD, viewT, viewL, viewX, tyD, isiB, hName, hTup, hsCons, hsNil, iSeq, wipeS, sAsg, gLe, gLt, gGe, gGt, gSub, gI20, gIsN, gNotN, gNotB, newL, eCut, ePart, gCut, iZip2, sFor, iAny, gIntA, gInA, gMulA, gEqA, gNeA] using e
    simp only [e2_app, eV_app, List.getElem?_cons_zero, bE_ok, eC_app, gEqA, this]
  have hfb : ∀ r, fb__law_reading_due [.d (.str z), .un, .un, .un, .un, .un, .un, .un] μ = r → g__law_reading_due [.d (.str z)] μ = fin μ.length r := fun r hr => by rw [← hr]; rfl
  by_cases hd : z = "-"
  · refine .inl ⟨zeros, by unfold resRR; rw [if_pos hd], ?_⟩
    rw [hfb (some (.ret (.d (.tup [.str "read", tupI zeros])) (μ ++ [.ml (List.map D.int zeros)]))) ?_]
    · simp [eV_app, startS, eIsi, eNot, eAnd, eOr, eChain, sRet, sSeq, sSet, sIf, sNx, sDrop, sRaise, sRetN, aCons, eB, eCall, eTup, eLst, eIf, bAnd, bOr, bNot, tst, allD, viewT, viewL, viewX, tyD, isiB, hName, hTup, hsCons, hsNil, iSeq, wipeS, sAsg, gLe, gLt, gGe, gGt, gSub, gI20, gIsN, gNotN, gNotB, newL, eCut, ePart, gCut, iZip2, sFor, iAny, gIntA, gInA, gMulA, gEqA, gNeA]
    · unfold fb__law_reading_due
      refine sSeq_nx hpar ?_
      rw [decide_eq_true hd] at heq
      have hzt : ∀ ρ μ, (sRet (eTup (aCons (eC (.str "read")) (aCons (e2 (gMulA false) (eTup (aCons (eC (.int 0)) aNil)) (eC (.int 8))) aNil)))) ρ μ = some (.ret (.d (.tup [.str "read", tupI zeros])) μ) := fun ρ μ => by
        simp only [sRet, eTup, aCons, eC_app, e2_app, aNil_app, bAE_ok, allD, Option.map_some, List.length_cons, List.length_nil, bE_ok, Nat.reduceAdd, Nat.reduceLeDiff, if_true]
        rfl
      simp only [sSeq, sIf, tst, heq, toB_ok, hzt]
  · rw [decide_eq_false hd] at heq
    have hit : ∀ b1 b3 b4 b5 b6 b7 μ', iRg none (eB (gLen) (aCons (eV 2) aNil)) [.d (.str z), b1, .d (.lst ((prt z).map .str)), b3, b4, b5, b6, b7] μ' = some (.ok ((rgI 0 (prt z).length).map .int) μ') := fun _ _ _ _ _ _ _ => by
      simp [eV_app, startS, eIsi, eNot, eAnd, eOr, eChain, sRet, sSeq, sSet, sIf, sNx, sDrop, sRaise, sRetN, aCons, eB, eCall, eTup, eLst, eIf, bAnd, bOr, bNot, tst, allD, viewT, viewL, viewX, tyD, isiB, hName, hTup, hsCons, hsNil, iSeq, wipeS, sAsg, gLe, gLt, gGe, gGt, gSub, gI20, gIsN, gNotN, gNotB, newL, eCut, ePart, gCut, iZip2, sFor, iAny, gIntA, gInA, gMulA, gEqA, gNeA, iRg, gLen, hn2]
    have hlo := rd_loop (z := .d (.str z)) (parts := prt z) (μ := μ) (prt z) 0 zeros (-1) .un .un .un .un (fun i => by rw [Nat.zero_add]) (fun p hp => ⟨Nat.le_trans (prt_mem hp).2 h, hr.part hp⟩) rfl (by omega)
    simp only [Int.natCast_zero, Int.zero_add] at hlo
    rcases hlo with ⟨fs, b3, b4, b5, b6, b7, e1, e2⟩ | ⟨k, x, e1, e2⟩
    · refine .inl ⟨fs, by unfold resRR; rw [if_neg hd]; exact e1, ?_⟩
      rw [hfb (some (.ret (.d (.tup [.str "read", tupI fs])) (μ ++ [.ml (List.map D.int fs)]))) ?_]
      · simp [eV_app, startS, eIsi, eNot, eAnd, eOr, eChain, sRet, sSeq, sSet, sIf, sNx, sDrop, sRaise, sRetN, aCons, eB, eCall, eTup, eLst, eIf, bAnd, bOr, bNot, tst, allD, viewT, viewL, viewX, tyD, isiB, hName, hTup, hsCons, hsNil, iSeq, wipeS, sAsg, gLe, gLt, gGe, gGt, gSub, gI20, gIsN, gNotN, gNotB, newL, eCut, ePart, gCut, iZip2, sFor, iAny, gIntA, gInA, gMulA, gEqA, gNeA]
      · unfold fb__law_reading_due
        refine sSeq_nx hpar ?_
        have hre : ∀ b3 b4 b5 b6 b7, (sRet (eTup (aCons (eC (.str "read")) (aCons (eB (gTup) (aCons (eV 1) aNil)) aNil)))) [.d (.str z), .m μ.length, .d (.lst ((prt z).map .str)), b3, b4, b5, b6, b7] (μ ++ [.ml (List.map D.int fs)]) = some (.ret (.d (.tup [.str "read", tupI fs])) (μ ++ [.ml (List.map D.int fs)])) := fun _ _ _ _ _ => by simp [eV_app, startS, eIsi, eNot, eAnd, eOr, eChain, sRet, sSeq, sSet, sIf, sNx, sDrop, sRaise, sRetN, aCons, eB, eCall, eTup, eLst, eIf, bAnd, bOr, bNot, tst, allD, viewT, viewL, viewX, tyD, isiB, hName, hTup, hsCons, hsNil, iSeq, wipeS, sAsg, gLe, gLt, gGe, gGt, gSub, gI20, gIsN, gNotN, gNotB, newL, eCut, ePart, gCut, iZip2, sFor, iAny, gIntA, gInA, gMulA, gEqA, gNeA, gTup, tupI]
        simp only [sSeq, sIf, tst, heq, toB_ok, sNx, sFor, hit, e2, hre]
    · refine .inr ⟨k, by unfold resRR; rw [if_neg hd]; exact e1, ?_⟩
      rw [hfb (some (.ret (.d (.tup [.str "bad", .int (k : Nat)])) (μ ++ [x]))) ?_]
      · simp [eV_app, startS, eIsi, eNot, eAnd, eOr, eChain, sRet, sSeq, sSet, sIf, sNx, sDrop, sRaise, sRetN, aCons, eB, eCall, eTup, eLst, eIf, bAnd, bOr, bNot, tst, allD, viewT, viewL, viewX, tyD, isiB, hName, hTup, hsCons, hsNil, iSeq, wipeS, sAsg, gLe, gLt, gGe, gGt, gSub, gI20, gIsN, gNotN, gNotB, newL, eCut, ePart, gCut, iZip2, sFor, iAny, gIntA, gInA, gMulA, gEqA, gNeA]
      · unfold fb__law_reading_due
        refine sSeq_nx hpar ?_
        simp only [sSeq, sIf, tst, heq, toB_ok, sNx, sFor, hit, e2]
end K05
end

section
set_option linter.all false
set_option maxRecDepth 100000
set_option maxHeartbeats 1000000
namespace K05
open PySem DL
abbrev dig (i : Int) : Str := Str.ofString (toString i)
theorem dig_tl {i : Int} (h : 0 ≤ i) : tl (dig i) = TL.numL i.toNat := by
  obtain ⟨n, rfl⟩ := Int.eq_ofNat_of_zero_le h
  exact TL.tl_num n
theorem log_small : ∀ n : Fin 201, n.val.log2 < 1920 := by decide +kernel
theorem gStr_dig {i : Int} (h : 0 ≤ i ∧ i ≤ 200) {μ : List MO} : gStr [.d (.int i)] μ = some (.ok (.d (.str (dig i))) μ) := by
  have : i.natAbs.log2 < 1920 := log_small ⟨i.natAbs, by omega⟩
  simp only [gStr, this, if_true]
theorem num_len {i : Int} (h : 0 ≤ i ∧ i ≤ 200) : (dig i).length ≤ 3 := by
  rw [len_tl, dig_tl h.1]
  exact TL.numL_len (by omega) (by omega)
theorem dig_one {i : Int} (h : 0 ≤ i ∧ i ≤ 7) : tl (dig i) = [48 + i.toNat] := by
  rw [dig_tl h.1, TL.numL_lt (by omega)]
/-! ### joining -/
theorem joinL_nil : ∀ ps : List (List Nat), TL.joinL [] ps = ps.flatten
  | [] => rfl
  | [p] => by simp [eV_app, startS, eIsi, eNot, eAnd, eOr, eChain, sRet, sSeq, sSet, sIf, sNx, sDrop, sRaise, sRetN, aCons, eB, eCall, eTup, eLst, eIf, bAnd, bOr, bNot, tst, allD, viewT, viewL, viewX, tyD, isiB, hName, hTup, hsCons, hsNil, iSeq, wipeS, sAsg, gLe, gLt, gGe, gGt, gSub, gI20, gIsN, gNotN, gNotB, newL, eCut, ePart, gCut, iZip2, sFor, iAny, gIntA, gInA, gMulA, gEqA, gNeA, TL.joinL]
  | p :: q :: r => by
    show p ++ ([] ++ TL.joinL [] (q :: r)) = _
    rw [joinL_nil (q :: r)]; simp [eV_app, startS, eIsi, eNot, eAnd, eOr, eChain, sRet, sSeq, sSet, sIf, sNx, sDrop, sRaise, sRetN, aCons, eB, eCall, eTup, eLst, eIf, bAnd, bOr, bNot, tst, allD, viewT, viewL, viewX, tyD, isiB, hName, hTup, hsCons, hsNil, iSeq, wipeS, sAsg, gLe, gLt, gGe, gGt, gSub, gI20, gIsN, gNotN, gNotB, newL, eCut, ePart, gCut, iZip2, sFor, iAny, gIntA, gInA, gMulA, gEqA, gNeA]
theorem tl_join0 (ys : List Str) : tl (Txt.join "" ys) = (ys.map tl).flatten := by
  rw [TL.join_eq]
  show TL.tl _ = _
  rw [TL.tl_join]
  have : TL.tl ("" : Str) = [] := by decide
  rw [this, joinL_nil]
theorem tl_joinS (ys : List Str) : tl (Txt.join " " ys) = TL.joinL [32] (ys.map tl) := by
  rw [TL.join_eq]
  show TL.tl _ = _
  rw [TL.tl_join]
  have : TL.tl (" " : Str) = [32] := by decide
  rw [this]
theorem joinL_in : ∀ {ps : List (List Nat)} {c : Nat}, c ∈ TL.joinL [32] ps → c = 32 ∨ ∃ p ∈ ps, c ∈ p
  | [], c, h => by simp [eV_app, startS, eIsi, eNot, eAnd, eOr, eChain, sRet, sSeq, sSet, sIf, sNx, sDrop, sRaise, sRetN, aCons, eB, eCall, eTup, eLst, eIf, bAnd, bOr, bNot, tst, allD, viewT, viewL, viewX, tyD, isiB, hName, hTup, hsCons, hsNil, iSeq, wipeS, sAsg, gLe, gLt, gGe, gGt, gSub, gI20, gIsN, gNotN, gNotB, newL, eCut, ePart, gCut, iZip2, sFor, iAny, gIntA, gInA, gMulA, gEqA, gNeA, TL.joinL] at h
  | [p], c, h => .inr ⟨p, by simp [eV_app, startS, eIsi, eNot, eAnd, eOr, eChain, sRet, sSeq, sSet, sIf, sNx, sDrop, sRaise, sRetN, aCons, eB, eCall, eTup, eLst, eIf, bAnd, bOr, bNot, tst, allD, viewT, viewL, viewX, tyD, isiB, hName, hTup, hsCons, hsNil, iSeq, wipeS, sAsg, gLe, gLt, gGe, gGt, gSub, gI20, gIsN, gNotN, gNotB, newL, eCut, ePart, gCut, iZip2, sFor, iAny, gIntA, gInA, gMulA, gEqA, gNeA], h⟩
  | p :: q :: r, c, h => by
    have h : c ∈ p ++ ([32] ++ TL.joinL [32] (q :: r)) := h
    rcases List.mem_append.mp h with h | h
    · exact .inr ⟨p, by simp [eV_app, startS, eIsi, eNot, eAnd, eOr, eChain, sRet, sSeq, sSet, sIf, sNx, sDrop, sRaise, sRetN, aCons, eB, eCall, eTup, eLst, eIf, bAnd, bOr, bNot, tst, allD, viewT, viewL, viewX, tyD, isiB, hName, hTup, hsCons, hsNil, iSeq, wipeS, sAsg, gLe, gLt, gGe, gGt, gSub, gI20, gIsN, gNotN, gNotB, newL, eCut, ePart, gCut, iZip2, sFor, iAny, gIntA, gInA, gMulA, gEqA, gNeA], h⟩
    · rcases List.mem_append.mp h with h | h
      · exact .inl (by simpa [eV_app, startS, eIsi, eNot, eAnd, eOr, eChain, sRet, sSeq, sSet, sIf, sNx, sDrop, sRaise, sRetN, aCons, eB, eCall, eTup, eLst, eIf, bAnd, bOr, bNot, tst, allD, viewT, viewL, viewX, tyD, isiB, hName, hTup, hsCons, hsNil, iSeq, wipeS, sAsg, gLe, gLt, gGe, gGt, gSub, gI20, gIsN, gNotN, gNotB, newL, eCut, ePart, gCut, iZip2, sFor, iAny, gIntA, gInA, gMulA, gEqA, gNeA] using h)
      · rcases joinL_in h with h | ⟨x, hx, hc⟩
        · exact .inl h
        · exact .inr ⟨x, List.mem_cons_of_mem _ hx, hc⟩
theorem joinL_size : ∀ {ps : List (List Nat)} {b : Nat}, (∀ p ∈ ps, p.length ≤ b) → (TL.joinL [32] ps).length ≤ ps.length * (b + 1)
  | [], b, h => by simp [eV_app, startS, eIsi, eNot, eAnd, eOr, eChain, sRet, sSeq, sSet, sIf, sNx, sDrop, sRaise, sRetN, aCons, eB, eCall, eTup, eLst, eIf, bAnd, bOr, bNot, tst, allD, viewT, viewL, viewX, tyD, isiB, hName, hTup, hsCons, hsNil, iSeq, wipeS, sAsg, gLe, gLt, gGe, gGt, gSub, gI20, gIsN, gNotN, gNotB, newL, eCut, ePart, gCut, iZip2, sFor, iAny, gIntA, gInA, gMulA, gEqA, gNeA, TL.joinL]
  | [p], b, h => by
    have := h p (by simp [eV_app, startS, eIsi, eNot, eAnd, eOr, eChain, sRet, sSeq, sSet, sIf, sNx, sDrop, sRaise, sRetN, aCons, eB, eCall, eTup, eLst, eIf, bAnd, bOr, bNot, tst, allD, viewT, viewL, viewX, tyD, isiB, hName, hTup, hsCons, hsNil, iSeq, wipeS, sAsg, gLe, gLt, gGe, gGt, gSub, gI20, gIsN, gNotN, gNotB, newL, eCut, ePart, gCut, iZip2, sFor, iAny, gIntA, gInA, gMulA, gEqA, gNeA])
    show p.length ≤ _
    simp [eV_app, startS, eIsi, eNot, eAnd, eOr, eChain, sRet, sSeq, sSet, sIf, sNx, sDrop, sRaise, sRetN, aCons, eB, eCall, eTup, eLst, eIf, bAnd, bOr, bNot, tst, allD, viewT, viewL, viewX, tyD, isiB, hName, hTup, hsCons, hsNil, iSeq, wipeS, sAsg, gLe, gLt, gGe, gGt, gSub, gI20, gIsN, gNotN, gNotB, newL, eCut, ePart, gCut, iZip2, sFor, iAny, gIntA, gInA, gMulA, gEqA, gNeA]; omega
  | p :: q :: r, b, h => by
    have h1 := h p (by simp [eV_app, startS, eIsi, eNot, eAnd, eOr, eChain, sRet, sSeq, sSet, sIf, sNx, sDrop, sRaise, sRetN, aCons, eB, eCall, eTup, eLst, eIf, bAnd, bOr, bNot, tst, allD, viewT, viewL, viewX, tyD, isiB, hName, hTup, hsCons, hsNil, iSeq, wipeS, sAsg, gLe, gLt, gGe, gGt, gSub, gI20, gIsN, gNotN, gNotB, newL, eCut, ePart, gCut, iZip2, sFor, iAny, gIntA, gInA, gMulA, gEqA, gNeA])
    have h2 := joinL_size (ps := q :: r) (b := b) fun x hx => h x (List.mem_cons_of_mem _ hx)
    show (p ++ ([32] ++ TL.joinL [32] (q :: r))).length ≤ _
    simp only [List.length_append, List.length_cons, List.length_nil] at h2 ⊢
    rw [Nat.add_mul (r.length + 1) 1, Nat.one_mul]
    omega
theorem sum_le : ∀ (ys : List Str) (b : Nat), (∀ y ∈ ys, y.length ≤ b) → (ys.map (·.length)).sum ≤ ys.length * b
  | [], b, _ => by simp [eV_app, startS, eIsi, eNot, eAnd, eOr, eChain, sRet, sSeq, sSet, sIf, sNx, sDrop, sRaise, sRetN, aCons, eB, eCall, eTup, eLst, eIf, bAnd, bOr, bNot, tst, allD, viewT, viewL, viewX, tyD, isiB, hName, hTup, hsCons, hsNil, iSeq, wipeS, sAsg, gLe, gLt, gGe, gGt, gSub, gI20, gIsN, gNotN, gNotB, newL, eCut, ePart, gCut, iZip2, sFor, iAny, gIntA, gInA, gMulA, gEqA, gNeA]
  | y :: ys, b, h => by
    have h1 := sum_le ys b fun z hz => h z (List.mem_cons_of_mem _ hz)
    have h2 := h y (by simp [eV_app, startS, eIsi, eNot, eAnd, eOr, eChain, sRet, sSeq, sSet, sIf, sNx, sDrop, sRaise, sRetN, aCons, eB, eCall, eTup, eLst, eIf, bAnd, bOr, bNot, tst, allD, viewT, viewL, viewX, tyD, isiB, hName, hTup, hsCons, hsNil, iSeq, wipeS, sAsg, gLe, gLt, gGe, gGt, gSub, gI20, gIsN, gNotN, gNotB, newL, eCut, ePart, gCut, iZip2, sFor, iAny, gIntA, gInA, gMulA, gEqA, gNeA])
    rw [List.map_cons, List.sum_cons, List.length_cons, Nat.add_mul, Nat.one_mul]; omega
theorem gJoin_ok {a : Str} {ys : List Str} {b : Nat} {μ : List MO} (hb : ∀ y ∈ ys, y.length ≤ b) (hl : ys.length * b + ys.length * a.length ≤ 10000) : gJoin a (.d (.lst (ys.map .str))) μ = some (.ok (.d (.str (Txt.join a ys))) μ) := by
  have h := sum_le ys b hb
  have : (ys.map (·.length)).sum + ys.length * a.length ≤ small24 := by unfold small24; omega
  have hv : (viewS μ (.d (.lst (ys.map .str)))).bind allStrs = some ys := allStrs_map ys
  simp only [gJoin, hv, this, if_true]
/-! ### machines written -/
def pm (sl : List Int) : Str := Txt.join "" (sl.map dig)
def wm (m : List (List Int)) : Str := Txt.join " " (m.map pm)
theorem pm_tl {sl : List Int} (h : ∀ x ∈ sl, 0 ≤ x ∧ x ≤ 7) : tl (pm sl) = sl.map fun x => 48 + x.toNat := by
  unfold pm
  rw [tl_join0, List.map_map]
  induction sl with
  | nil => rfl
  | cons x sl ih =>
    rw [List.map_cons, List.flatten_cons, ih fun y hy => h y (List.mem_cons_of_mem _ hy)]
    show tl (dig x) ++ _ = _
    rw [dig_one (h x (by simp [eV_app, startS, eIsi, eNot, eAnd, eOr, eChain, sRet, sSeq, sSet, sIf, sNx, sDrop, sRaise, sRetN, aCons, eB, eCall, eTup, eLst, eIf, bAnd, bOr, bNot, tst, allD, viewT, viewL, viewX, tyD, isiB, hName, hTup, hsCons, hsNil, iSeq, wipeS, sAsg, gLe, gLt, gGe, gGt, gSub, gI20, gIsN, gNotN, gNotB, newL, eCut, ePart, gCut, iZip2, sFor, iAny, gIntA, gInA, gMulA, gEqA, gNeA]))]; rfl
theorem pm_ok {sl : List Int} (h1 : 1 ≤ sl.length) (h : ∀ x ∈ sl, 0 ≤ x ∧ x ≤ 7) (ha : ascB sl = true) : okM (pm sl) = true ∧ slM (pm sl) = sl := by
  have hs : slM (pm sl) = sl := by
    unfold slM
    rw [pm_tl h, List.map_map]
    have : sl.map ((fun (c : Nat) => (c : Int) - 48) ∘ fun x => 48 + x.toNat) = sl.map id := by
      apply List.map_congr_left
      intro x hx
      have := h x hx
      show (((48 + x.toNat : Nat) : Int)) - 48 = x
      omega
    rw [this, List.map_id]
  refine ⟨okM_iff.mpr ⟨?_, fun c hc => ?_, by rw [hs]; exact ha⟩, hs⟩
  · rw [pm_tl h]
    intro z
    have := congrArg List.length z
    simp [eV_app, startS, eIsi, eNot, eAnd, eOr, eChain, sRet, sSeq, sSet, sIf, sNx, sDrop, sRaise, sRetN, aCons, eB, eCall, eTup, eLst, eIf, bAnd, bOr, bNot, tst, allD, viewT, viewL, viewX, tyD, isiB, hName, hTup, hsCons, hsNil, iSeq, wipeS, sAsg, gLe, gLt, gGe, gGt, gSub, gI20, gIsN, gNotN, gNotB, newL, eCut, ePart, gCut, iZip2, sFor, iAny, gIntA, gInA, gMulA, gEqA, gNeA] at this; subst this; simp [eV_app, startS, eIsi, eNot, eAnd, eOr, eChain, sRet, sSeq, sSet, sIf, sNx, sDrop, sRaise, sRetN, aCons, eB, eCall, eTup, eLst, eIf, bAnd, bOr, bNot, tst, allD, viewT, viewL, viewX, tyD, isiB, hName, hTup, hsCons, hsNil, iSeq, wipeS, sAsg, gLe, gLt, gGe, gGt, gSub, gI20, gIsN, gNotN, gNotB, newL, eCut, ePart, gCut, iZip2, sFor, iAny, gIntA, gInA, gMulA, gEqA, gNeA] at h1
  · rw [pm_tl h] at hc
    obtain ⟨x, hx, rfl⟩ := List.mem_map.mp hc
    have := h x hx
    omega
/-- the text of a machine, as an expression -/
theorem wm_expr {m : List (List Int)} {fe : EF} {a b : Nat} {ρ : List S} {μ : List MO} (hm : McOk m) (hab : a ≠ b) (ha : a < ρ.length) (hb : b < ρ.length) (he : fe ρ μ = some (.ok (.d (mcD m)) μ)) :
    (eM1 gJoin (eC (.str " ")) (eLc false [a] (iAny fe) (hName a) bYes (eM1 gJoin (eC (.str "")) (eLc false [b] (iAny (eV a)) (hName b) bYes (eB (gStr) (aCons (eV b) aNil)))))) ρ μ = some (.ok (.d (.str (wm m))) μ) := by
  obtain ⟨h1, h6, h⟩ := hm
  have hin : ∀ sl ∈ m, ∀ ρ' : List S, ρ'[a]? = some (.d (tupI sl)) → b < ρ'.length → (eM1 gJoin (eC (.str "")) (eLc false [b] (iAny (eV a)) (hName b) bYes (eB (gStr) (aCons (eV b) aNil)))) ρ' μ = some (.ok (.d (.str (pm sl))) μ) := fun sl hs ρ' hρ hb' => by
    obtain ⟨l1, l2, l3, l4⟩ := h sl hs
    have hc := eLc_m (vs := [b]) (fi := iAny (eV a)) (h := hName b) (e := eB (gStr) (aCons (eV b) aNil)) (ρ := ρ') (μ := μ) sl D.int (fun x => .str (dig x)) (by simp only [iAny, eV_app, hρ]) (by unfold cap; omega) (fun x hx => ⟨_, rfl, by
      have g : ((ρ'.set b S.un).set b (S.d (D.int x)))[b]? = some (.d (.int x)) := by rw [List.getElem?_set_self (by simpa [eV_app, startS, eIsi, eNot, eAnd, eOr, eChain, sRet, sSeq, sSet, sIf, sNx, sDrop, sRaise, sRetN, aCons, eB, eCall, eTup, eLst, eIf, bAnd, bOr, bNot, tst, allD, viewT, viewL, viewX, tyD, isiB, hName, hTup, hsCons, hsNil, iSeq, wipeS, sAsg, gLe, gLt, gGe, gGt, gSub, gI20, gIsN, gNotN, gNotB, newL, eCut, ePart, gCut, iZip2, sFor, iAny, gIntA, gInA, gMulA, gEqA, gNeA] using hb')]
      have := l3 x hx
      simp only [eB, aCons, eV_app, aNil_app, wipeS, g, bAE_ok, gStr_dig (show 0 ≤ x ∧ x ≤ 200 by omega)]⟩)
    have hmm : sl.map (fun x => D.str (dig x)) = (sl.map dig).map D.str := by rw [List.map_map]; rfl
    rw [hmm] at hc
    have hj := gJoin_ok (a := "") (ys := sl.map dig) (b := 3) (μ := μ) (fun y hy => by
      obtain ⟨x, hx, rfl⟩ := List.mem_map.mp hy
      have := l3 x hx
      exact num_len (by omega)) (by
        have : ("" : Str).length = 0 := by decide
        rw [this, List.length_map]; omega)
    simp only [eM1, eC_app, bE_ok, hc, hj]
    rfl
  have hc := eLc_m (vs := [a]) (fi := iAny fe) (h := hName a) (e := eM1 gJoin (eC (.str "")) (eLc false [b] (iAny (eV a)) (hName b) bYes (eB (gStr) (aCons (eV b) aNil)))) (ρ := ρ) (μ := μ) m tupI (fun sl => .str (pm sl)) (by simp only [iAny, he]) (by unfold cap; omega) (fun sl hs => ⟨_, rfl, hin sl hs _ (by
      show ((ρ.set a S.un).set a (S.d (tupI sl)))[a]? = _
      rw [List.getElem?_set_self (by simpa [eV_app, startS, eIsi, eNot, eAnd, eOr, eChain, sRet, sSeq, sSet, sIf, sNx, sDrop, sRaise, sRetN, aCons, eB, eCall, eTup, eLst, eIf, bAnd, bOr, bNot, tst, allD, viewT, viewL, viewX, tyD, isiB, hName, hTup, hsCons, hsNil, iSeq, wipeS, sAsg, gLe, gLt, gGe, gGt, gSub, gI20, gIsN, gNotN, gNotB, newL, eCut, ePart, gCut, iZip2, sFor, iAny, gIntA, gInA, gMulA, gEqA, gNeA] using ha)]) (by simpa [eV_app, startS, eIsi, eNot, eAnd, eOr, eChain, sRet, sSeq, sSet, sIf, sNx, sDrop, sRaise, sRetN, aCons, eB, eCall, eTup, eLst, eIf, bAnd, bOr, bNot, tst, allD, viewT, viewL, viewX, tyD, isiB, hName, hTup, hsCons, hsNil, iSeq, wipeS, sAsg, gLe, gLt, gGe, gGt, gSub, gI20, gIsN, gNotN, gNotB, newL, eCut, ePart, gCut, iZip2, sFor, iAny, gIntA, gInA, gMulA, gEqA, gNeA, wipeS] using hb)⟩)
  have hmm : m.map (fun x => D.str (pm x)) = (m.map pm).map D.str := by rw [List.map_map]; rfl
  rw [hmm] at hc
  have hj := gJoin_ok (a := " ") (ys := m.map pm) (b := 8) (μ := μ) (fun y hy => by
    obtain ⟨sl, hs, rfl⟩ := List.mem_map.mp hy
    obtain ⟨l1, l2, l3, l4⟩ := h sl hs
    rw [len_tl, pm_tl l3, List.length_map]; exact l2) (by
      have : (" " : Str).length = 1 := by decide
      rw [this, List.length_map]; omega)
  simp only [eM1, eC_app, bE_ok, hc, hj]
  rfl
theorem s_write_machine {m : List (List Int)} {μ : List MO} (hm : McOk m) : g_write_machine [.d (mcD m)] μ = some (.ok (.d (.str (wm m))) μ) := by
  have he := wm_expr (fe := eV 0) (a := 2) (b := 1) (ρ := [.d (mcD m), .un, .un]) (μ := μ) hm (by decide) (by simp [eV_app, startS, eIsi, eNot, eAnd, eOr, eChain, sRet, sSeq, sSet, sIf, sNx, sDrop, sRaise, sRetN, aCons, eB, eCall, eTup, eLst, eIf, bAnd, bOr, bNot, tst, allD, viewT, viewL, viewX, tyD, isiB, hName, hTup, hsCons, hsNil, iSeq, wipeS, sAsg, gLe, gLt, gGe, gGt, gSub, gI20, gIsN, gNotN, gNotB, newL, eCut, ePart, gCut, iZip2, sFor, iAny, gIntA, gInA, gMulA, gEqA, gNeA]) (by simp [eV_app, startS, eIsi, eNot, eAnd, eOr, eChain, sRet, sSeq, sSet, sIf, sNx, sDrop, sRaise, sRetN, aCons, eB, eCall, eTup, eLst, eIf, bAnd, bOr, bNot, tst, allD, viewT, viewL, viewX, tyD, isiB, hName, hTup, hsCons, hsNil, iSeq, wipeS, sAsg, gLe, gLt, gGe, gGt, gSub, gI20, gIsN, gNotN, gNotB, newL, eCut, ePart, gCut, iZip2, sFor, iAny, gIntA, gInA, gMulA, gEqA, gNeA]) (by simp [eV_app, startS, eIsi, eNot, eAnd, eOr, eChain, sRet, sSeq, sSet, sIf, sNx, sDrop, sRaise, sRetN, aCons, eB, eCall, eTup, eLst, eIf, bAnd, bOr, bNot, tst, allD, viewT, viewL, viewX, tyD, isiB, hName, hTup, hsCons, hsNil, iSeq, wipeS, sAsg, gLe, gLt, gGe, gGt, gSub, gI20, gIsN, gNotN, gNotB, newL, eCut, ePart, gCut, iZip2, sFor, iAny, gIntA, gInA, gMulA, gEqA, gNeA])
  have hmb := s_is_machine (v := mcD m) (μ := μ) (ok_mc 5 m)
  rw [machineB_typed hm] at hmb
  show fin μ.length (fb_write_machine [.d (mcD m), .un, .un] μ) = _
  unfold fb_write_machine
  have hd : (sDrop (eCall 2 g_demand (aCons (eCall 1 g_is_machine (aCons (eV 0) aNil)) (aCons (eC (.str "machine")) aNil)))) [.d (mcD m), .un, .un] μ = some (.nx [.d (mcD m), .un, .un] μ) := by simp [eV_app, startS, eIsi, eNot, eAnd, eOr, eChain, sRet, sSeq, sSet, sIf, sNx, sDrop, sRaise, sRetN, aCons, eB, eCall, eTup, eLst, eIf, bAnd, bOr, bNot, tst, allD, viewT, viewL, viewX, tyD, isiB, hName, hTup, hsCons, hsNil, iSeq, wipeS, sAsg, gLe, gLt, gGe, gGt, gSub, gI20, gIsN, gNotN, gNotB, newL, eCut, ePart, gCut, iZip2, sFor, iAny, gIntA, gInA, gMulA, gEqA, gNeA, hmb, s_demand]
  rw [sSeq_nx hd (r := some (.ret (.d (.str (wm m))) μ)) (by simp only [sRet, he])]
  simp [eV_app, startS, eIsi, eNot, eAnd, eOr, eChain, sRet, sSeq, sSet, sIf, sNx, sDrop, sRaise, sRetN, aCons, eB, eCall, eTup, eLst, eIf, bAnd, bOr, bNot, tst, allD, viewT, viewL, viewX, tyD, isiB, hName, hTup, hsCons, hsNil, iSeq, wipeS, sAsg, gLe, gLt, gGe, gGt, gSub, gI20, gIsN, gNotN, gNotB, newL, eCut, ePart, gCut, iZip2, sFor, iAny, gIntA, gInA, gMulA, gEqA, gNeA]
theorem x_write_machine {v : D} {n : Nat} {μ : List MO} (hv : okD n v = true) (h : machineB v = false) : g_write_machine [.d v] μ = some (.ex (.arg (.str "machine")) μ) := by
  have hmb := s_is_machine (v := v) (μ := μ) hv
  rw [h] at hmb
  simp [eV_app, startS, eIsi, eNot, eAnd, eOr, eChain, sRet, sSeq, sSet, sIf, sNx, sDrop, sRaise, sRetN, aCons, eB, eCall, eTup, eLst, eIf, bAnd, bOr, bNot, tst, allD, viewT, viewL, viewX, tyD, isiB, hName, hTup, hsCons, hsNil, iSeq, wipeS, sAsg, gLe, gLt, gGe, gGt, gSub, gI20, gIsN, gNotN, gNotB, newL, eCut, ePart, gCut, iZip2, sFor, iAny, gIntA, gInA, gMulA, gEqA, gNeA, g_write_machine, fb_write_machine, hmb, s_demand]
theorem wm_mem {m : List (List Int)} (hm : McOk m) : ∀ c ∈ tl (wm m), c = 32 ∨ 48 ≤ c ∧ c ≤ 55 := fun c hc => by
  unfold wm at hc
  rw [tl_joinS] at hc
  rcases joinL_in hc with h | ⟨p, hp, hc⟩
  · exact .inl h
  · rw [List.map_map] at hp
    obtain ⟨sl, hs, rfl⟩ := List.mem_map.mp hp
    obtain ⟨l1, l2, l3, l4⟩ := hm.2.2 sl hs
    have hc : c ∈ tl (pm sl) := hc
    rw [pm_tl l3] at hc
    obtain ⟨x, hx, rfl⟩ := List.mem_map.mp hc
    have := l3 x hx
    exact .inr (by omega)
theorem wm_len {m : List (List Int)} (hm : McOk m) : (wm m).length ≤ 60 := by
  rw [len_tl]
  unfold wm
  rw [tl_joinS]
  have := joinL_size (ps := (m.map pm).map tl) (b := 8) fun p hp => by
    rw [List.map_map] at hp
    obtain ⟨sl, hs, rfl⟩ := List.mem_map.mp hp
    obtain ⟨l1, l2, l3, l4⟩ := hm.2.2 sl hs
    show (tl (pm sl)).length ≤ 8
    rw [pm_tl l3, List.length_map]; exact l2
  have h6 := hm.2.1
  simp only [List.length_map] at this
  omega
theorem wm_real {m : List (List Int)} (hm : McOk m) : Real (wm m) := fun c hc => by
  rcases wm_mem hm c hc with h | h <;> omega
theorem wm_prt {m : List (List Int)} (hm : McOk m) : prt (wm m) = m.map pm := by
  refine prt_join (fun z => ?_) fun p hp => ?_
  · have h1 := hm.1
    rw [List.map_eq_nil_iff.mp z] at h1
    simp [eV_app, startS, eIsi, eNot, eAnd, eOr, eChain, sRet, sSeq, sSet, sIf, sNx, sDrop, sRaise, sRetN, aCons, eB, eCall, eTup, eLst, eIf, bAnd, bOr, bNot, tst, allD, viewT, viewL, viewX, tyD, isiB, hName, hTup, hsCons, hsNil, iSeq, wipeS, sAsg, gLe, gLt, gGe, gGt, gSub, gI20, gIsN, gNotN, gNotB, newL, eCut, ePart, gCut, iZip2, sFor, iAny, gIntA, gInA, gMulA, gEqA, gNeA] at h1
  · obtain ⟨sl, hs, rfl⟩ := List.mem_map.mp hp
    obtain ⟨l1, l2, l3, l4⟩ := hm.2.2 sl hs
    intro hc
    rw [pm_tl l3] at hc
    obtain ⟨x, hx, e⟩ := List.mem_map.mp hc
    omega
theorem resM_back : ∀ (m : List (List Int)) (k : Nat) (acc : List (List Int)), (∀ sl ∈ m, 1 ≤ sl.length ∧ sl.length ≤ 8 ∧ (∀ x ∈ sl, 0 ≤ x ∧ x ≤ 7) ∧ ascB sl = true) → k + m.length ≤ 6 → resM k (m.map pm) acc = .inl (acc ++ m)
  | [], k, acc, _, _ => by simp [eV_app, startS, eIsi, eNot, eAnd, eOr, eChain, sRet, sSeq, sSet, sIf, sNx, sDrop, sRaise, sRetN, aCons, eB, eCall, eTup, eLst, eIf, bAnd, bOr, bNot, tst, allD, viewT, viewL, viewX, tyD, isiB, hName, hTup, hsCons, hsNil, iSeq, wipeS, sAsg, gLe, gLt, gGe, gGt, gSub, gI20, gIsN, gNotN, gNotB, newL, eCut, ePart, gCut, iZip2, sFor, iAny, gIntA, gInA, gMulA, gEqA, gNeA, resM]
  | sl :: m, k, acc, h, hk => by
    obtain ⟨l1, l2, l3, l4⟩ := h sl (by simp [eV_app, startS, eIsi, eNot, eAnd, eOr, eChain, sRet, sSeq, sSet, sIf, sNx, sDrop, sRaise, sRetN, aCons, eB, eCall, eTup, eLst, eIf, bAnd, bOr, bNot, tst, allD, viewT, viewL, viewX, tyD, isiB, hName, hTup, hsCons, hsNil, iSeq, wipeS, sAsg, gLe, gLt, gGe, gGt, gSub, gI20, gIsN, gNotN, gNotB, newL, eCut, ePart, gCut, iZip2, sFor, iAny, gIntA, gInA, gMulA, gEqA, gNeA])
    obtain ⟨o1, o2⟩ := pm_ok l1 l3 l4
    rw [List.length_cons] at hk
    rw [List.map_cons]
    unfold resM
    rw [if_pos ⟨o1, by omega⟩, o2, resM_back m (k + 1) _ (fun s hs => h s (List.mem_cons_of_mem _ hs)) (by omega)]
    simp [eV_app, startS, eIsi, eNot, eAnd, eOr, eChain, sRet, sSeq, sSet, sIf, sNx, sDrop, sRaise, sRetN, aCons, eB, eCall, eTup, eLst, eIf, bAnd, bOr, bNot, tst, allD, viewT, viewL, viewX, tyD, isiB, hName, hTup, hsCons, hsNil, iSeq, wipeS, sAsg, gLe, gLt, gGe, gGt, gSub, gI20, gIsN, gNotN, gNotB, newL, eCut, ePart, gCut, iZip2, sFor, iAny, gIntA, gInA, gMulA, gEqA, gNeA]
theorem wm_back {m : List (List Int)} (hm : McOk m) : resM 0 (prt (wm m)) [] = .inl m := by
  rw [wm_prt hm, resM_back m 0 [] hm.2.2 (by have := hm.2.1; omega)]
  rfl
end K05
end

section
set_option linter.all false
set_option maxRecDepth 100000
set_option maxHeartbeats 1000000
namespace K05
open PySem DL
/-! ### readings written -/
def RdOk (r : List Int) : Prop := r.length = 8 ∧ ∀ x ∈ r, 0 ≤ x ∧ x ≤ 200
def rp (z : Int × Int) : Str := dig z.1 ++ ":" ++ dig z.2
def prsK (k : Nat) (r : List Int) : List (Int × Int) := (rgI k (k + r.length)).zip r
theorem prsK_cons (k : Nat) (x : Int) (r : List Int) : prsK k (x :: r) = ((k : Int), x) :: prsK (k + 1) r := by
  unfold prsK
  rw [List.length_cons, show ((k : Int) + ((r.length + 1 : Nat) : Int)) = ((k + 1 : Nat) : Int) + (r.length : Int) by omega, rgI_cons (by omega), List.zip_cons_cons]
  rfl
theorem prsK_enum : ∀ (r : List Int) (k : Nat), enumK k (r.map .int) = (prsK k r).map pairD
  | [], k => by simp [eV_app, startS, eIsi, eNot, eAnd, eOr, eChain, sRet, sSeq, sSet, sIf, sNx, sDrop, sRaise, sRetN, aCons, eB, eCall, eTup, eLst, eIf, bAnd, bOr, bNot, tst, allD, viewT, viewL, viewX, tyD, isiB, hName, hTup, hsCons, hsNil, iSeq, wipeS, sAsg, gLe, gLt, gGe, gGt, gSub, gI20, gIsN, gNotN, gNotB, newL, eCut, ePart, gCut, iZip2, sFor, iAny, gIntA, gInA, gMulA, gEqA, gNeA, enumK, prsK]
  | x :: r, k => by
    rw [prsK_cons, List.map_cons, List.map_cons, ← prsK_enum r (k + 1)]
    rfl
theorem prsK_fst (k : Nat) (r : List Int) : (prsK k r).map (·.1) = rgI k (k + r.length) := by
  unfold prsK
  rw [List.map_fst_zip]
  rw [rgI_length]; omega
theorem prsK_mem : ∀ {r : List Int} {k : Nat} {z : Int × Int}, z ∈ prsK k r → (k : Int) ≤ z.1 ∧ z.1 < k + r.length ∧ r[(z.1 - k).toNat]? = some z.2 ∧ z.2 ∈ r
  | [], k, z, h => by simp [eV_app, startS, eIsi, eNot, eAnd, eOr, eChain, sRet, sSeq, sSet, sIf, sNx, sDrop, sRaise, sRetN, aCons, eB, eCall, eTup, eLst, eIf, bAnd, bOr, bNot, tst, allD, viewT, viewL, viewX, tyD, isiB, hName, hTup, hsCons, hsNil, iSeq, wipeS, sAsg, gLe, gLt, gGe, gGt, gSub, gI20, gIsN, gNotN, gNotB, newL, eCut, ePart, gCut, iZip2, sFor, iAny, gIntA, gInA, gMulA, gEqA, gNeA, prsK] at h
  | x :: r, k, z, h => by
    rw [prsK_cons] at h
    rcases List.mem_cons.mp h with rfl | h
    · refine ⟨Int.le_refl _, by simp [eV_app, startS, eIsi, eNot, eAnd, eOr, eChain, sRet, sSeq, sSet, sIf, sNx, sDrop, sRaise, sRetN, aCons, eB, eCall, eTup, eLst, eIf, bAnd, bOr, bNot, tst, allD, viewT, viewL, viewX, tyD, isiB, hName, hTup, hsCons, hsNil, iSeq, wipeS, sAsg, gLe, gLt, gGe, gGt, gSub, gI20, gIsN, gNotN, gNotB, newL, eCut, ePart, gCut, iZip2, sFor, iAny, gIntA, gInA, gMulA, gEqA, gNeA]; omega, by simp [eV_app, startS, eIsi, eNot, eAnd, eOr, eChain, sRet, sSeq, sSet, sIf, sNx, sDrop, sRaise, sRetN, aCons, eB, eCall, eTup, eLst, eIf, bAnd, bOr, bNot, tst, allD, viewT, viewL, viewX, tyD, isiB, hName, hTup, hsCons, hsNil, iSeq, wipeS, sAsg, gLe, gLt, gGe, gGt, gSub, gI20, gIsN, gNotN, gNotB, newL, eCut, ePart, gCut, iZip2, sFor, iAny, gIntA, gInA, gMulA, gEqA, gNeA], by simp [eV_app, startS, eIsi, eNot, eAnd, eOr, eChain, sRet, sSeq, sSet, sIf, sNx, sDrop, sRaise, sRetN, aCons, eB, eCall, eTup, eLst, eIf, bAnd, bOr, bNot, tst, allD, viewT, viewL, viewX, tyD, isiB, hName, hTup, hsCons, hsNil, iSeq, wipeS, sAsg, gLe, gLt, gGe, gGt, gSub, gI20, gIsN, gNotN, gNotB, newL, eCut, ePart, gCut, iZip2, sFor, iAny, gIntA, gInA, gMulA, gEqA, gNeA]⟩
    · obtain ⟨h1, h2, h3, h4⟩ := prsK_mem h
      refine ⟨by omega, by simp [eV_app, startS, eIsi, eNot, eAnd, eOr, eChain, sRet, sSeq, sSet, sIf, sNx, sDrop, sRaise, sRetN, aCons, eB, eCall, eTup, eLst, eIf, bAnd, bOr, bNot, tst, allD, viewT, viewL, viewX, tyD, isiB, hName, hTup, hsCons, hsNil, iSeq, wipeS, sAsg, gLe, gLt, gGe, gGt, gSub, gI20, gIsN, gNotN, gNotB, newL, eCut, ePart, gCut, iZip2, sFor, iAny, gIntA, gInA, gMulA, gEqA, gNeA]; omega, ?_, List.mem_cons_of_mem _ h4⟩
      have e : (z.1 - (k : Int)).toNat = (z.1 - ((k + 1 : Nat) : Int)).toNat + 1 := by omega
      rw [e, List.getElem?_cons_succ]; exact h3
def rps (k : Nat) (r : List Int) : List Str := ((prsK k r).filter fun z => decide (0 < z.2)).map rp
def wr (r : List Int) : Str := if rps 0 r = [] then "-" else Txt.join " " (rps 0 r)
theorem rp_tl {z : Int × Int} (h : 0 ≤ z.1 ∧ z.1 ≤ 7) (h2 : 0 ≤ z.2) : tl (rp z) = (48 + z.1.toNat) :: 58 :: TL.numL z.2.toNat := by
  unfold rp
  rw [tl_app, tl_app, dig_one h, dig_tl h2, colon_tl]
  rfl
theorem rps_mem {k : Nat} {r : List Int} (hk : k + r.length ≤ 8) (h : ∀ x ∈ r, 0 ≤ x ∧ x ≤ 200) {p : Str} (hp : p ∈ rps k r) : ∃ z : Int × Int, p = rp z ∧ 0 ≤ z.1 ∧ z.1 ≤ 7 ∧ 1 ≤ z.2 ∧ z.2 ≤ 200 := by
  unfold rps at hp
  obtain ⟨z, hz, rfl⟩ := List.mem_map.mp hp
  obtain ⟨hz, h0⟩ := List.mem_filter.mp hz
  obtain ⟨a, b, _, d⟩ := prsK_mem hz
  have := h _ d
  have h0 : 0 < z.2 := by simpa [eV_app, startS, eIsi, eNot, eAnd, eOr, eChain, sRet, sSeq, sSet, sIf, sNx, sDrop, sRaise, sRetN, aCons, eB, eCall, eTup, eLst, eIf, bAnd, bOr, bNot, tst, allD, viewT, viewL, viewX, tyD, isiB, hName, hTup, hsCons, hsNil, iSeq, wipeS, sAsg, gLe, gLt, gGe, gGt, gSub, gI20, gIsN, gNotN, gNotB, newL, eCut, ePart, gCut, iZip2, sFor, iAny, gIntA, gInA, gMulA, gEqA, gNeA] using h0
  exact ⟨z, rfl, by omega, by omega, by omega, by omega⟩
theorem rp_len {z : Int × Int} (h : 0 ≤ z.1 ∧ z.1 ≤ 7) (h2 : 0 ≤ z.2 ∧ z.2 ≤ 200) : (rp z).length ≤ 5 := by
  rw [len_tl, rp_tl h h2.1]
  have := TL.numL_len (n := z.2.toNat) (k := 3) (by omega) (by omega)
  simp only [List.length_cons]; omega
theorem rp_signs {z : Int × Int} (h : 0 ≤ z.1 ∧ z.1 ≤ 7) (h2 : 0 ≤ z.2) : ∀ c ∈ tl (rp z), c = 58 ∨ 48 ≤ c ∧ c ≤ 57 := fun c hc => by
  rw [rp_tl h h2] at hc
  simp only [List.mem_cons] at hc
  rcases hc with rfl | rfl | hc
  · exact .inr (by omega)
  · exact .inl rfl
  · exact .inr (TL.numL_digits _ c hc)
theorem num_ok : ∀ n : Fin 201, n.val ≠ 0 → okN (TL.numL n.val) = true ∧ dv (TL.numL n.val) = n.val := by decide +kernel
theorem okR_rp {z : Int × Int} {last : Int} (h : 0 ≤ z.1 ∧ z.1 ≤ 7) (h2 : 1 ≤ z.2 ∧ z.2 ≤ 200) (hl : last < z.1) : okR last (tl (rp z)) = some z := by
  rw [rp_tl h (by omega)]
  obtain ⟨n1, n2⟩ := num_ok ⟨z.2.toNat, by omega⟩ (by simp [eV_app, startS, eIsi, eNot, eAnd, eOr, eChain, sRet, sSeq, sSet, sIf, sNx, sDrop, sRaise, sRetN, aCons, eB, eCall, eTup, eLst, eIf, bAnd, bOr, bNot, tst, allD, viewT, viewL, viewX, tyD, isiB, hName, hTup, hsCons, hsNil, iSeq, wipeS, sAsg, gLe, gLt, gGe, gGt, gSub, gI20, gIsN, gNotN, gNotB, newL, eCut, ePart, gCut, iZip2, sFor, iAny, gIntA, gInA, gMulA, gEqA, gNeA]; omega)
  simp only at n1 n2
  simp only [okR]
  rw [if_pos ⟨trivial, by omega, by omega, by omega, n1⟩, n2]
  have e1 : (((48 + z.1.toNat : Nat)) : Int) - 48 = z.1 := by omega
  have e2 : ((z.2.toNat : Nat) : Int) = z.2 := by omega
  rw [e1, e2]
theorem set_zero (pre : List Int) (m : Nat) (n : Int) : (pre ++ List.replicate (m + 1) (0 : Int)).set pre.length n = (pre ++ [n]) ++ List.replicate m 0 := by
  rw [List.replicate_succ, List.set_append_right _ _ (Nat.le_refl _), Nat.sub_self]
  simp [eV_app, startS, eIsi, eNot, eAnd, eOr, eChain, sRet, sSeq, sSet, sIf, sNx, sDrop, sRaise, sRetN, aCons, eB, eCall, eTup, eLst, eIf, bAnd, bOr, bNot, tst, allD, viewT, viewL, viewX, tyD, isiB, hName, hTup, hsCons, hsNil, iSeq, wipeS, sAsg, gLe, gLt, gGe, gGt, gSub, gI20, gIsN, gNotN, gNotB, newL, eCut, ePart, gCut, iZip2, sFor, iAny, gIntA, gInA, gMulA, gEqA, gNeA]
theorem resR_back : ∀ (r : List Int) (k at' : Nat) (pre : List Int) (last : Int), (∀ x ∈ r, 0 ≤ x ∧ x ≤ 200) → k + r.length ≤ 8 → pre.length = k → last < k → resR at' (rps k r) (pre ++ List.replicate r.length 0) last = .inl (pre ++ r)
  | [], k, at', pre, last, _, _, _, _ => by simp [eV_app, startS, eIsi, eNot, eAnd, eOr, eChain, sRet, sSeq, sSet, sIf, sNx, sDrop, sRaise, sRetN, aCons, eB, eCall, eTup, eLst, eIf, bAnd, bOr, bNot, tst, allD, viewT, viewL, viewX, tyD, isiB, hName, hTup, hsCons, hsNil, iSeq, wipeS, sAsg, gLe, gLt, gGe, gGt, gSub, gI20, gIsN, gNotN, gNotB, newL, eCut, ePart, gCut, iZip2, sFor, iAny, gIntA, gInA, gMulA, gEqA, gNeA, rps, prsK, resR]
  | x :: r, k, at', pre, last, h, hk, hp, hl => by
    have hx := h x (by simp [eV_app, startS, eIsi, eNot, eAnd, eOr, eChain, sRet, sSeq, sSet, sIf, sNx, sDrop, sRaise, sRetN, aCons, eB, eCall, eTup, eLst, eIf, bAnd, bOr, bNot, tst, allD, viewT, viewL, viewX, tyD, isiB, hName, hTup, hsCons, hsNil, iSeq, wipeS, sAsg, gLe, gLt, gGe, gGt, gSub, gI20, gIsN, gNotN, gNotB, newL, eCut, ePart, gCut, iZip2, sFor, iAny, gIntA, gInA, gMulA, gEqA, gNeA])
    rw [List.length_cons] at hk
    have ih := fun a p l => resR_back r (k + 1) a p l (fun y hy => h y (List.mem_cons_of_mem _ hy)) (by omega)
    by_cases h0 : 0 < x
    · have e : rps k (x :: r) = rp ((k : Int), x) :: rps (k + 1) r := by
        unfold rps
        rw [prsK_cons, List.filter_cons, if_pos (by simpa [eV_app, startS, eIsi, eNot, eAnd, eOr, eChain, sRet, sSeq, sSet, sIf, sNx, sDrop, sRaise, sRetN, aCons, eB, eCall, eTup, eLst, eIf, bAnd, bOr, bNot, tst, allD, viewT, viewL, viewX, tyD, isiB, hName, hTup, hsCons, hsNil, iSeq, wipeS, sAsg, gLe, gLt, gGe, gGt, gSub, gI20, gIsN, gNotN, gNotB, newL, eCut, ePart, gCut, iZip2, sFor, iAny, gIntA, gInA, gMulA, gEqA, gNeA] using h0), List.map_cons]
      rw [e]
      unfold resR
      rw [okR_rp (z := ((k : Int), x)) (by simp [eV_app, startS, eIsi, eNot, eAnd, eOr, eChain, sRet, sSeq, sSet, sIf, sNx, sDrop, sRaise, sRetN, aCons, eB, eCall, eTup, eLst, eIf, bAnd, bOr, bNot, tst, allD, viewT, viewL, viewX, tyD, isiB, hName, hTup, hsCons, hsNil, iSeq, wipeS, sAsg, gLe, gLt, gGe, gGt, gSub, gI20, gIsN, gNotN, gNotB, newL, eCut, ePart, gCut, iZip2, sFor, iAny, gIntA, gInA, gMulA, gEqA, gNeA]; omega) (by simp [eV_app, startS, eIsi, eNot, eAnd, eOr, eChain, sRet, sSeq, sSet, sIf, sNx, sDrop, sRaise, sRetN, aCons, eB, eCall, eTup, eLst, eIf, bAnd, bOr, bNot, tst, allD, viewT, viewL, viewX, tyD, isiB, hName, hTup, hsCons, hsNil, iSeq, wipeS, sAsg, gLe, gLt, gGe, gGt, gSub, gI20, gIsN, gNotN, gNotB, newL, eCut, ePart, gCut, iZip2, sFor, iAny, gIntA, gInA, gMulA, gEqA, gNeA]; omega) hl]
      simp only [List.length_cons]
      have hs := set_zero pre r.length x
      rw [hp] at hs
      simp only [Int.toNat_natCast]
      rw [hs, ih (at' + 1) (pre ++ [x]) k (by simp [eV_app, startS, eIsi, eNot, eAnd, eOr, eChain, sRet, sSeq, sSet, sIf, sNx, sDrop, sRaise, sRetN, aCons, eB, eCall, eTup, eLst, eIf, bAnd, bOr, bNot, tst, allD, viewT, viewL, viewX, tyD, isiB, hName, hTup, hsCons, hsNil, iSeq, wipeS, sAsg, gLe, gLt, gGe, gGt, gSub, gI20, gIsN, gNotN, gNotB, newL, eCut, ePart, gCut, iZip2, sFor, iAny, gIntA, gInA, gMulA, gEqA, gNeA, hp]) (by omega)]
      simp [eV_app, startS, eIsi, eNot, eAnd, eOr, eChain, sRet, sSeq, sSet, sIf, sNx, sDrop, sRaise, sRetN, aCons, eB, eCall, eTup, eLst, eIf, bAnd, bOr, bNot, tst, allD, viewT, viewL, viewX, tyD, isiB, hName, hTup, hsCons, hsNil, iSeq, wipeS, sAsg, gLe, gLt, gGe, gGt, gSub, gI20, gIsN, gNotN, gNotB, newL, eCut, ePart, gCut, iZip2, sFor, iAny, gIntA, gInA, gMulA, gEqA, gNeA]
    · have hx0 : x = 0 := by omega
      subst hx0
      have e : rps k (0 :: r) = rps (k + 1) r := by
        unfold rps
        rw [prsK_cons, List.filter_cons, if_neg (by simp [eV_app, startS, eIsi, eNot, eAnd, eOr, eChain, sRet, sSeq, sSet, sIf, sNx, sDrop, sRaise, sRetN, aCons, eB, eCall, eTup, eLst, eIf, bAnd, bOr, bNot, tst, allD, viewT, viewL, viewX, tyD, isiB, hName, hTup, hsCons, hsNil, iSeq, wipeS, sAsg, gLe, gLt, gGe, gGt, gSub, gI20, gIsN, gNotN, gNotB, newL, eCut, ePart, gCut, iZip2, sFor, iAny, gIntA, gInA, gMulA, gEqA, gNeA])]
      rw [e, List.length_cons, List.replicate_succ]
      have := ih at' (pre ++ [0]) last (by simp [eV_app, startS, eIsi, eNot, eAnd, eOr, eChain, sRet, sSeq, sSet, sIf, sNx, sDrop, sRaise, sRetN, aCons, eB, eCall, eTup, eLst, eIf, bAnd, bOr, bNot, tst, allD, viewT, viewL, viewX, tyD, isiB, hName, hTup, hsCons, hsNil, iSeq, wipeS, sAsg, gLe, gLt, gGe, gGt, gSub, gI20, gIsN, gNotN, gNotB, newL, eCut, ePart, gCut, iZip2, sFor, iAny, gIntA, gInA, gMulA, gEqA, gNeA, hp]) (by omega)
      simpa [eV_app, startS, eIsi, eNot, eAnd, eOr, eChain, sRet, sSeq, sSet, sIf, sNx, sDrop, sRaise, sRetN, aCons, eB, eCall, eTup, eLst, eIf, bAnd, bOr, bNot, tst, allD, viewT, viewL, viewX, tyD, isiB, hName, hTup, hsCons, hsNil, iSeq, wipeS, sAsg, gLe, gLt, gGe, gGt, gSub, gI20, gIsN, gNotN, gNotB, newL, eCut, ePart, gCut, iZip2, sFor, iAny, gIntA, gInA, gMulA, gEqA, gNeA] using this
theorem rps_nil {r : List Int} {k : Nat} (h : ∀ x ∈ r, 0 ≤ x ∧ x ≤ 200) (hn : rps k r = []) : r = List.replicate r.length 0 := by
  induction r generalizing k with
  | nil => rfl
  | cons x r ih =>
    have hx := h x (by simp [eV_app, startS, eIsi, eNot, eAnd, eOr, eChain, sRet, sSeq, sSet, sIf, sNx, sDrop, sRaise, sRetN, aCons, eB, eCall, eTup, eLst, eIf, bAnd, bOr, bNot, tst, allD, viewT, viewL, viewX, tyD, isiB, hName, hTup, hsCons, hsNil, iSeq, wipeS, sAsg, gLe, gLt, gGe, gGt, gSub, gI20, gIsN, gNotN, gNotB, newL, eCut, ePart, gCut, iZip2, sFor, iAny, gIntA, gInA, gMulA, gEqA, gNeA])
    by_cases h0 : 0 < x
    · unfold rps at hn
      rw [prsK_cons, List.filter_cons, if_pos (by simpa [eV_app, startS, eIsi, eNot, eAnd, eOr, eChain, sRet, sSeq, sSet, sIf, sNx, sDrop, sRaise, sRetN, aCons, eB, eCall, eTup, eLst, eIf, bAnd, bOr, bNot, tst, allD, viewT, viewL, viewX, tyD, isiB, hName, hTup, hsCons, hsNil, iSeq, wipeS, sAsg, gLe, gLt, gGe, gGt, gSub, gI20, gIsN, gNotN, gNotB, newL, eCut, ePart, gCut, iZip2, sFor, iAny, gIntA, gInA, gMulA, gEqA, gNeA] using h0)] at hn
      simp [eV_app, startS, eIsi, eNot, eAnd, eOr, eChain, sRet, sSeq, sSet, sIf, sNx, sDrop, sRaise, sRetN, aCons, eB, eCall, eTup, eLst, eIf, bAnd, bOr, bNot, tst, allD, viewT, viewL, viewX, tyD, isiB, hName, hTup, hsCons, hsNil, iSeq, wipeS, sAsg, gLe, gLt, gGe, gGt, gSub, gI20, gIsN, gNotN, gNotB, newL, eCut, ePart, gCut, iZip2, sFor, iAny, gIntA, gInA, gMulA, gEqA, gNeA] at hn
    · have hx0 : x = 0 := by omega
      subst hx0
      have e : rps k (0 :: r) = rps (k + 1) r := by
        unfold rps
        rw [prsK_cons, List.filter_cons, if_neg (by simp [eV_app, startS, eIsi, eNot, eAnd, eOr, eChain, sRet, sSeq, sSet, sIf, sNx, sDrop, sRaise, sRetN, aCons, eB, eCall, eTup, eLst, eIf, bAnd, bOr, bNot, tst, allD, viewT, viewL, viewX, tyD, isiB, hName, hTup, hsCons, hsNil, iSeq, wipeS, sAsg, gLe, gLt, gGe, gGt, gSub, gI20, gIsN, gNotN, gNotB, newL, eCut, ePart, gCut, iZip2, sFor, iAny, gIntA, gInA, gMulA, gEqA, gNeA])]
      rw [e] at hn
      have := ih (fun y hy => h y (List.mem_cons_of_mem _ hy)) hn
      rw [List.length_cons, List.replicate_succ, ← this]
theorem wr_signs {r : List Int} (h : RdOk r) : ∀ c ∈ tl (wr r), c = 32 ∨ c = 45 ∨ 48 ≤ c ∧ c ≤ 58 := fun c hc => by
  unfold wr at hc
  split at hc
  · rw [dash_tl] at hc
    simp [eV_app, startS, eIsi, eNot, eAnd, eOr, eChain, sRet, sSeq, sSet, sIf, sNx, sDrop, sRaise, sRetN, aCons, eB, eCall, eTup, eLst, eIf, bAnd, bOr, bNot, tst, allD, viewT, viewL, viewX, tyD, isiB, hName, hTup, hsCons, hsNil, iSeq, wipeS, sAsg, gLe, gLt, gGe, gGt, gSub, gI20, gIsN, gNotN, gNotB, newL, eCut, ePart, gCut, iZip2, sFor, iAny, gIntA, gInA, gMulA, gEqA, gNeA] at hc; exact .inr (.inl hc)
  · rw [tl_joinS] at hc
    rcases joinL_in hc with h1 | ⟨p, hp, hc⟩
    · exact .inl h1
    · obtain ⟨y, hy, rfl⟩ := List.mem_map.mp hp
      obtain ⟨z, rfl, a, b, c', d⟩ := rps_mem (by rw [h.1]; omega) h.2 hy
      rcases rp_signs ⟨a, b⟩ (by omega) c hc with h2 | h2
      · exact .inr (.inr (by omega))
      · exact .inr (.inr (by omega))
theorem wr_real {r : List Int} (h : RdOk r) : Real (wr r) := fun c hc => by
  rcases wr_signs h c hc with h | h | h <;> omega
theorem rps_len (r : List Int) (k : Nat) : (rps k r).length ≤ r.length := by
  unfold rps
  rw [List.length_map]
  refine Nat.le_trans (List.length_filter_le _ _) ?_
  unfold prsK
  simp [eV_app, startS, eIsi, eNot, eAnd, eOr, eChain, sRet, sSeq, sSet, sIf, sNx, sDrop, sRaise, sRetN, aCons, eB, eCall, eTup, eLst, eIf, bAnd, bOr, bNot, tst, allD, viewT, viewL, viewX, tyD, isiB, hName, hTup, hsCons, hsNil, iSeq, wipeS, sAsg, gLe, gLt, gGe, gGt, gSub, gI20, gIsN, gNotN, gNotB, newL, eCut, ePart, gCut, iZip2, sFor, iAny, gIntA, gInA, gMulA, gEqA, gNeA]; omega
theorem wr_len {r : List Int} (h : RdOk r) : (wr r).length ≤ 60 := by
  unfold wr
  split
  · decide
  · rw [len_tl, tl_joinS]
    have := joinL_size (ps := (rps 0 r).map tl) (b := 5) fun p hp => by
      obtain ⟨y, hy, rfl⟩ := List.mem_map.mp hp
      obtain ⟨z, rfl, a, b, c', d⟩ := rps_mem (by rw [h.1]; omega) h.2 hy
      rw [← len_tl]
      exact rp_len ⟨a, b⟩ (by omega)
    have hl := rps_len r 0
    rw [h.1] at hl
    simp only [List.length_map] at this
    omega
theorem rps_58 {r : List Int} (h : RdOk r) {p : Str} (hp : p ∈ rps 0 r) : 58 ∈ tl p ∧ 32 ∉ tl p := by
  obtain ⟨z, rfl, a, b, c', d⟩ := rps_mem (by rw [h.1]; omega) h.2 hp
  refine ⟨by rw [rp_tl ⟨a, b⟩ (by omega)]; simp [eV_app, startS, eIsi, eNot, eAnd, eOr, eChain, sRet, sSeq, sSet, sIf, sNx, sDrop, sRaise, sRetN, aCons, eB, eCall, eTup, eLst, eIf, bAnd, bOr, bNot, tst, allD, viewT, viewL, viewX, tyD, isiB, hName, hTup, hsCons, hsNil, iSeq, wipeS, sAsg, gLe, gLt, gGe, gGt, gSub, gI20, gIsN, gNotN, gNotB, newL, eCut, ePart, gCut, iZip2, sFor, iAny, gIntA, gInA, gMulA, gEqA, gNeA], fun hc => ?_⟩
  rcases rp_signs ⟨a, b⟩ (by omega) 32 hc with h | h <;> omega
theorem join_58 {r : List Int} (h : RdOk r) (hn : rps 0 r ≠ []) : 58 ∈ tl (Txt.join " " (rps 0 r)) := by
  obtain ⟨p, hp⟩ := List.exists_mem_of_ne_nil _ hn
  rw [tl_joinS]
  exact joinL_mem (List.mem_map_of_mem hp) (rps_58 h hp).1
theorem wr_back {r : List Int} (h : RdOk r) : resRR (wr r) = .inl r := by
  unfold resRR
  by_cases hn : rps 0 r = []
  · have e := rps_nil h.2 hn
    rw [h.1] at e
    have : wr r = "-" := by unfold wr; rw [if_pos hn]
    rw [if_pos this, e]; rfl
  · have hw : wr r = Txt.join " " (rps 0 r) := by unfold wr; rw [if_neg hn]
    have h58 := join_58 h hn
    have hd : ¬ wr r = "-" := fun z => by
      rw [← hw, z, dash_tl] at h58
      simp [eV_app, startS, eIsi, eNot, eAnd, eOr, eChain, sRet, sSeq, sSet, sIf, sNx, sDrop, sRaise, sRetN, aCons, eB, eCall, eTup, eLst, eIf, bAnd, bOr, bNot, tst, allD, viewT, viewL, viewX, tyD, isiB, hName, hTup, hsCons, hsNil, iSeq, wipeS, sAsg, gLe, gLt, gGe, gGt, gSub, gI20, gIsN, gNotN, gNotB, newL, eCut, ePart, gCut, iZip2, sFor, iAny, gIntA, gInA, gMulA, gEqA, gNeA] at h58
    rw [if_neg hd, hw, prt_join hn fun p hp => (rps_58 h hp).2]
    have := resR_back r 0 0 [] (-1) h.2 (by rw [h.1]; omega) rfl (by omega)
    rw [h.1] at this
    exact this
/-! ### running the writers -/
theorem app_empty (x : Str) : Str.empty ++ x = x := ext_tl (by rw [tl_app]; rfl)
theorem rdB {r : List Int} (h : RdOk r) : areB (tupI r) 8 8 0 200 = true := by
  obtain ⟨h1, h2⟩ := h
  simp only [areB, tupI, List.length_map, h1, Bool.and_eq_true, decide_eq_true_eq, List.all_eq_true]
  refine ⟨⟨by omega, by omega⟩, fun d hd => ?_⟩
  obtain ⟨x, hx, rfl⟩ := List.mem_map.mp hd
  have := h2 x hx
  simp only [inB, Bool.and_eq_true, decide_eq_true_eq]; omega
theorem s_is_reading {n : Nat} {v : D} {μ : List MO} (hv : okD n v = true) : g_is_reading [.d v] μ = some (.ok (.d (.bl (areB v 8 8 0 200))) μ) := by
  simp [eV_app, startS, eIsi, eNot, eAnd, eOr, eChain, sRet, sSeq, sSet, sIf, sNx, sDrop, sRaise, sRetN, aCons, eB, eCall, eTup, eLst, eIf, bAnd, bOr, bNot, tst, allD, viewT, viewL, viewX, tyD, isiB, hName, hTup, hsCons, hsNil, iSeq, wipeS, sAsg, gLe, gLt, gGe, gGt, gSub, gI20, gIsN, gNotN, gNotB, newL, eCut, ePart, gCut, iZip2, sFor, iAny, gIntA, gInA, gMulA, gEqA, gNeA, g_is_reading, fb_is_reading, s_are_in hv]
theorem rp_joins {r : List Int} (h : RdOk r) {μ : List MO} : gJoin " " (.d (.lst ((rps 0 r).map .str))) μ = some (.ok (.d (.str (Txt.join " " (rps 0 r)))) μ) := by
  have hl := rps_len r 0
  rw [h.1] at hl
  refine gJoin_ok (b := 5) (fun y hy => ?_) ?_
  · obtain ⟨z, rfl, a, b, c', d⟩ := rps_mem (by rw [h.1]; omega) h.2 hy
    exact rp_len ⟨a, b⟩ (by omega)
  · have : (" " : Str).length = 1 := by decide
    rw [this]; omega
theorem s_write_reading {r : List Int} {μ : List MO} (h : RdOk r) : g_write_reading [.d (tupI r)] μ = some (.ok (.d (.str (wr r))) μ) := by
  have hrb := s_is_reading (v := tupI r) (μ := μ) (ok_tupI 5 r)
  rw [rdB h] at hrb
  have hc := eLc_p (vs := [2, 3]) (fi := iEnm (aCons (eV 0) aNil)) (h := hTup 2 (hsCons (hName 2) (hsCons (hName 3) hsNil))) (c := tst (e2 gGt (eV 3) (eC (.int 0)))) (e := eJs [eFmt (eV 2), eC (.str ":"), eFmt (eV 3)] Str.empty) (ρ := [.d (tupI r), .un, .un, .un]) (μ := μ)
    (prsK 0 r) pairD (fun z => decide (0 < z.2)) (fun z => .str (rp z)) (by simp [eV_app, startS, eIsi, eNot, eAnd, eOr, eChain, sRet, sSeq, sSet, sIf, sNx, sDrop, sRaise, sRetN, aCons, eB, eCall, eTup, eLst, eIf, bAnd, bOr, bNot, tst, allD, viewT, viewL, viewX, tyD, isiB, hName, hTup, hsCons, hsNil, iSeq, wipeS, sAsg, gLe, gLt, gGe, gGt, gSub, gI20, gIsN, gNotN, gNotB, newL, eCut, ePart, gCut, iZip2, sFor, iAny, gIntA, gInA, gMulA, gEqA, gNeA, iEnm, tupI, enumD_K, prsK_enum]) (by unfold prsK cap; simp [eV_app, startS, eIsi, eNot, eAnd, eOr, eChain, sRet, sSeq, sSet, sIf, sNx, sDrop, sRaise, sRetN, aCons, eB, eCall, eTup, eLst, eIf, bAnd, bOr, bNot, tst, allD, viewT, viewL, viewX, tyD, isiB, hName, hTup, hsCons, hsNil, iSeq, wipeS, sAsg, gLe, gLt, gGe, gGt, gSub, gI20, gIsN, gNotN, gNotB, newL, eCut, ePart, gCut, iZip2, sFor, iAny, gIntA, gInA, gMulA, gEqA, gNeA, h.1, rgI_length]) (fun z hz => by
      obtain ⟨a, b, _, d⟩ := prsK_mem hz
      rw [h.1] at b
      have h2 := h.2 _ d
      refine ⟨_, rfl, rfl, fun _ => ?_⟩
      have l1 : z.1.natAbs.log2 < 1920 := log_small ⟨z.1.natAbs, by omega⟩
      have l2 : z.2.natAbs.log2 < 1920 := log_small ⟨z.2.natAbs, by omega⟩
      have n1 := num_len (i := z.1) (by omega)
      have n2 := num_len (i := z.2) (by omega)
      have s24 : small24 = 200000 := rfl
      have c1 : (Str.empty ++ dig z.1).length ≤ small24 := by rw [app_empty, s24]; omega
      have cl : (":" : Str).length = 1 := by decide
      have c2 : (Str.empty ++ dig z.1 ++ ":").length ≤ small24 := by rw [app_empty, len_tl, tl_app, List.length_append, ← len_tl, ← len_tl, cl, s24]; omega
      have c3 : (Str.empty ++ dig z.1 ++ ":" ++ dig z.2).length ≤ small24 := by rw [app_empty, len_tl, tl_app, tl_app, List.length_append, List.length_append, ← len_tl, ← len_tl, ← len_tl, cl, s24]; omega
      simp [eV_app, startS, eIsi, eNot, eAnd, eOr, eChain, sRet, sSeq, sSet, sIf, sNx, sDrop, sRaise, sRetN, aCons, eB, eCall, eTup, eLst, eIf, bAnd, bOr, bNot, tst, allD, viewT, viewL, viewX, tyD, isiB, hName, hTup, hsCons, hsNil, iSeq, wipeS, sAsg, gLe, gLt, gGe, gGt, gSub, gI20, gIsN, gNotN, gNotB, newL, eCut, ePart, gCut, iZip2, sFor, iAny, gIntA, gInA, gMulA, gEqA, gNeA, eJs, eFmt, l1, l2]
      refine ⟨c1, c2, c3, ?_⟩
      show Str.empty ++ dig z.1 ++ ":" ++ dig z.2 = rp z
      rw [app_empty]; rfl)
  have hmm : ((prsK 0 r).filter fun z => decide (0 < z.2)).map (fun z => D.str (rp z)) = (rps 0 r).map D.str := by unfold rps; rw [List.map_map]; rfl
  rw [hmm] at hc
  have hj := rp_joins h (μ := μ)
  show fin μ.length (fb_write_reading [.d (tupI r), .un, .un, .un] μ) = _
  unfold fb_write_reading
  have hd : (sDrop (eCall 2 g_demand (aCons (eCall 1 g_is_reading (aCons (eV 0) aNil)) (aCons (eC (.str "reading")) aNil)))) [.d (tupI r), .un, .un, .un] μ = some (.nx [.d (tupI r), .un, .un, .un] μ) := by simp [eV_app, startS, eIsi, eNot, eAnd, eOr, eChain, sRet, sSeq, sSet, sIf, sNx, sDrop, sRaise, sRetN, aCons, eB, eCall, eTup, eLst, eIf, bAnd, bOr, bNot, tst, allD, viewT, viewL, viewX, tyD, isiB, hName, hTup, hsCons, hsNil, iSeq, wipeS, sAsg, gLe, gLt, gGe, gGt, gSub, gI20, gIsN, gNotN, gNotB, newL, eCut, ePart, gCut, iZip2, sFor, iAny, gIntA, gInA, gMulA, gEqA, gNeA, hrb, s_demand]
  rw [sSeq_nx hd (sSeq_nx (sSet_ok hc) (r := some (.ret (.d (.str (wr r))) μ)) ?_)]
  · simp [eV_app, startS, eIsi, eNot, eAnd, eOr, eChain, sRet, sSeq, sSet, sIf, sNx, sDrop, sRaise, sRetN, aCons, eB, eCall, eTup, eLst, eIf, bAnd, bOr, bNot, tst, allD, viewT, viewL, viewX, tyD, isiB, hName, hTup, hsCons, hsNil, iSeq, wipeS, sAsg, gLe, gLt, gGe, gGt, gSub, gI20, gIsN, gNotN, gNotB, newL, eCut, ePart, gCut, iZip2, sFor, iAny, gIntA, gInA, gMulA, gEqA, gNeA]
  · simp only [List.set_cons_succ, List.set_cons_zero]
    cases hn : rps 0 r with
    | nil => simp [eV_app, startS, eIsi, eNot, eAnd, eOr, eChain, sRet, sSeq, sSet, sIf, sNx, sDrop, sRaise, sRetN, aCons, eB, eCall, eTup, eLst, eIf, bAnd, bOr, bNot, tst, allD, viewT, viewL, viewX, tyD, isiB, hName, hTup, hsCons, hsNil, iSeq, wipeS, sAsg, gLe, gLt, gGe, gGt, gSub, gI20, gIsN, gNotN, gNotB, newL, eCut, ePart, gCut, iZip2, sFor, iAny, gIntA, gInA, gMulA, gEqA, gNeA, gLen, wr, hn]
    | cons p ps =>
      rw [hn] at hj
      simp only [List.map_cons] at hj
      have h0 : (0 : Int) < (ps.length : Int) + 1 := by omega
      simp [eV_app, startS, eIsi, eNot, eAnd, eOr, eChain, sRet, sSeq, sSet, sIf, sNx, sDrop, sRaise, sRetN, aCons, eB, eCall, eTup, eLst, eIf, bAnd, bOr, bNot, tst, allD, viewT, viewL, viewX, tyD, isiB, hName, hTup, hsCons, hsNil, iSeq, wipeS, sAsg, gLe, gLt, gGe, gGt, gSub, gI20, gIsN, gNotN, gNotB, newL, eCut, ePart, gCut, iZip2, sFor, iAny, gIntA, gInA, gMulA, gEqA, gNeA, gLen, wr, hn, eM1, hj, h0]
theorem x_write_reading {v : D} {n : Nat} {μ : List MO} (hv : okD n v = true) (h : areB v 8 8 0 200 = false) : g_write_reading [.d v] μ = some (.ex (.arg (.str "reading")) μ) := by
  have hrb := s_is_reading (v := v) (μ := μ) hv
  rw [h] at hrb
  simp [eV_app, startS, eIsi, eNot, eAnd, eOr, eChain, sRet, sSeq, sSet, sIf, sNx, sDrop, sRaise, sRetN, aCons, eB, eCall, eTup, eLst, eIf, bAnd, bOr, bNot, tst, allD, viewT, viewL, viewX, tyD, isiB, hName, hTup, hsCons, hsNil, iSeq, wipeS, sAsg, gLe, gLt, gGe, gGt, gSub, gI20, gIsN, gNotN, gNotB, newL, eCut, ePart, gCut, iZip2, sFor, iAny, gIntA, gInA, gMulA, gEqA, gNeA, g_write_reading, fb_write_reading, hrb, s_demand]
end K05
end

section
set_option linter.all false
set_option maxRecDepth 100000
set_option maxHeartbeats 1000000
namespace K05
open PySem DL
/-! ### bent texts -/
theorem Real.cut {z : Str} (h : Real z) (lo hi : Option Int) : Real (L2.cutS z lo hi) := fun c hc => h c (cut_mem hc)
theorem rev_tl (z : Str) : tl (revS z) = (tl z).reverse := rfl
def pks : List Str := ["0", "1", "7", "8", "9", " ", ":", "-", "a", "2:3", "20"]
theorem pks_all : ∀ s ∈ pks, (∀ c ∈ tl s, c < 0x110000) ∧ s.length ≤ 3 := by decide +kernel
theorem pks_ok : ∀ s ∈ pks, Real s ∧ s.length ≤ 3 := pks_all
theorem len_app (x y : Str) : (x ++ y).length = x.length + y.length := by rw [len_tl, tl_app, List.length_append, ← len_tl, ← len_tl]
theorem s_bent {M : Dice → List MO} {i : Nat} (hM : Sto M i) {N : Nat} {d : Dice} {z : Str} (hd : d.Ok N) (hN : N + 10 < 1000000) (hr : Real z) (hl : z.length ≤ 100) : ∃ w e, g__law_bent [.m i, .d (.str z)] (M d) = some (.ok (.d (.str w)) (M e)) ∧ Real w ∧ w.length ≤ 300 ∧ e.Ok (N + 3) := by
  have h24 : z.length ≤ small24 := by unfold small24; omega
  obtain ⟨at', d1, r1, r2, r3, r4⟩ := s_roll hM (t := z.length + 1) hd (by omega) (by omega) (by omega)
  obtain ⟨sg, d2, p1, p2, p3⟩ := s_pick hM (ds := pks.map .str) r4 (by omega) (by decide) (by decide)
  obtain ⟨sg, hsg, rfl⟩ := List.mem_map.mp p2
  obtain ⟨sr, sl⟩ := pks_ok sg hsg
  generalize hc1 : L2.cutS z none (some at') = c1
  generalize hc2 : L2.cutS z (some at') none = c2
  generalize hc3 : L2.cutS z (some (at' + 1)) none = c3
  have k1 : Real c1 ∧ c1.length ≤ 100 := by rw [← hc1]; exact ⟨hr.cut _ _, Nat.le_trans (cut_len _ _ _) hl⟩
  have k2 : Real c2 ∧ c2.length ≤ 100 := by rw [← hc2]; exact ⟨hr.cut _ _, Nat.le_trans (cut_len _ _ _) hl⟩
  have k3 : Real c3 ∧ c3.length ≤ 100 := by rw [← hc3]; exact ⟨hr.cut _ _, Nat.le_trans (cut_len _ _ _) hl⟩
  have hsp : Real (" " : Str) := fun c hc => by rw [sp_tl] at hc; simp [eV_app, startS, eIsi, eNot, eAnd, eOr, eChain, sRet, sSeq, sSet, sIf, sNx, sDrop, sRaise, sRetN, aCons, eB, eCall, eTup, eLst, eIf, bAnd, bOr, bNot, tst, allD, viewT, viewL, viewX, tyD, isiB, hName, hTup, hsCons, hsNil, iSeq, wipeS, sAsg, gLe, gLt, gGe, gGt, gSub, gI20, gIsN, gNotN, gNotB, newL, eCut, ePart, gCut, iZip2, sFor, iAny, gIntA, gInA, gMulA, gEqA, gNeA] at hc; omega
  have hspl : (" " : Str).length = 1 := by decide
  obtain ⟨w, d3, q1, q2, q3⟩ := s_pick hM (ds := ([c1 ++ sg ++ c2, c1 ++ sg ++ c3, c1 ++ c3, c1, z ++ " " ++ z, revS z] : List Str).map .str) p3 (by omega) (by simp [eV_app, startS, eIsi, eNot, eAnd, eOr, eChain, sRet, sSeq, sSet, sIf, sNx, sDrop, sRaise, sRetN, aCons, eB, eCall, eTup, eLst, eIf, bAnd, bOr, bNot, tst, allD, viewT, viewL, viewX, tyD, isiB, hName, hTup, hsCons, hsNil, iSeq, wipeS, sAsg, gLe, gLt, gGe, gGt, gSub, gI20, gIsN, gNotN, gNotB, newL, eCut, ePart, gCut, iZip2, sFor, iAny, gIntA, gInA, gMulA, gEqA, gNeA]) (by simp [eV_app, startS, eIsi, eNot, eAnd, eOr, eChain, sRet, sSeq, sSet, sIf, sNx, sDrop, sRaise, sRetN, aCons, eB, eCall, eTup, eLst, eIf, bAnd, bOr, bNot, tst, allD, viewT, viewL, viewX, tyD, isiB, hName, hTup, hsCons, hsNil, iSeq, wipeS, sAsg, gLe, gLt, gGe, gGt, gSub, gI20, gIsN, gNotN, gNotB, newL, eCut, ePart, gCut, iZip2, sFor, iAny, gIntA, gInA, gMulA, gEqA, gNeA])
  obtain ⟨w, hw, rfl⟩ := List.mem_map.mp q2
  refine ⟨w, d3, ?_, ?_, ?_, q3⟩
  · have ga : ∀ (a b : Str) (μ : List MO), a.length + b.length ≤ 1000 → gAdd false (.d (.str a)) (.d (.str b)) μ = some (.ok (.d (.str (a ++ b))) μ) := fun a b μ h => by
      have : a.length + b.length ≤ small24 := by unfold small24; omega
      simp only [gAdd, this, if_true]
    have gi : ∀ (a b : Int) (μ : List MO), gAdd false (.d (.int a)) (.d (.int b)) μ = some (.ok (.d (.int (a + b))) μ) := fun _ _ _ => rfl
    have a1 := fun μ => ga c1 sg μ (by omega)
    have a2 := fun μ => ga (c1 ++ sg) c2 μ (by rw [len_app]; omega)
    have a3 := fun μ => ga (c1 ++ sg) c3 μ (by rw [len_app]; omega)
    have a4 := fun μ => ga c1 c3 μ (by omega)
    have a5 := fun μ => ga z " " μ (by omega)
    have a6 := fun μ => ga (z ++ " ") z μ (by rw [len_app]; omega)
    have ct : ∀ lo hi μ, gCut false (.d (.str z)) lo hi μ = some (.ok (.d (.str (L2.cutS z lo hi))) μ) := fun _ _ _ => gCut_str (by omega)
    have hpar : sPar 2 3 (aCons (eCall 2 g__law_roll (aCons (eV 0) (aCons (e2 (gAdd false) (eB (gLen) (aCons (eV 1) aNil)) (eC (.int 1))) aNil))) (aCons (eCall 2 g__law_pick (aCons (eV 0) (aCons (eLst false (aCons (eC (.str "0")) (aCons (eC (.str "1")) (aCons (eC (.str "7")) (aCons (eC (.str "8")) (aCons (eC (.str "9")) (aCons (eC (.str " ")) (aCons (eC (.str ":")) (aCons (eC (.str "-")) (aCons (eC (.str "a")) (aCons (eC (.str "2:3")) (aCons (eC (.str "20")) aNil)))))))))))) aNil))) aNil)) [.m i, .d (.str z), .un, .un] (M d) = some (.nx [.m i, .d (.str z), .d (.int at'), .d (.str sg)] (M d2)) := by
      have hlst : ∀ ρ μ, eLst false (aCons (eC (.str "0")) (aCons (eC (.str "1")) (aCons (eC (.str "7")) (aCons (eC (.str "8")) (aCons (eC (.str "9")) (aCons (eC (.str " ")) (aCons (eC (.str ":")) (aCons (eC (.str "-")) (aCons (eC (.str "a")) (aCons (eC (.str "2:3")) (aCons (eC (.str "20")) aNil))))))))))) ρ μ = some (.ok (.d (.lst (pks.map .str))) μ) := fun ρ μ => by
        simp only [eLst, aCons, eC_app, aNil_app, bAE_ok, allD, Option.map_some, List.length_cons, List.length_nil, newL, Nat.reduceAdd, Nat.reduceLeDiff, if_true]
        rfl
      have h1 : (eCall 2 g__law_roll (aCons (eV 0) (aCons (e2 (gAdd false) (eB (gLen) (aCons (eV 1) aNil)) (eC (.int 1))) aNil))) [.m i, .d (.str z), .un, .un] (M d) = some (.ok (.d (.int at')) (M d1)) := by
        simp only [eCall, aCons, eV_app, List.getElem?_cons_zero, List.getElem?_cons_succ, e2_app, eB, aNil_app, bAE_ok, gLen, h24, if_true, bE_ok, eC_app, gi, List.length_cons, List.length_nil, Nat.reduceAdd, r1, onlyD_ok]
      have h2 : (eCall 2 g__law_pick (aCons (eV 0) (aCons (eLst false (aCons (eC (.str "0")) (aCons (eC (.str "1")) (aCons (eC (.str "7")) (aCons (eC (.str "8")) (aCons (eC (.str "9")) (aCons (eC (.str " ")) (aCons (eC (.str ":")) (aCons (eC (.str "-")) (aCons (eC (.str "a")) (aCons (eC (.str "2:3")) (aCons (eC (.str "20")) aNil)))))))))))) aNil))) [.m i, .d (.str z), .un, .un] (M d1) = some (.ok (.d (.str sg)) (M d2)) := by
        have h0 : eV 0 [.m i, .d (.str z), .un, .un] (M d1) = some (.ok (.m i) (M d1)) := rfl
        unfold eCall
        rw [aCons_app h0 (aCons_app (hlst _ _) aNil_app)]
        simp only [bAE_ok, List.length_cons, List.length_nil, Nat.reduceAdd, if_true, p1, onlyD_ok]
      unfold sPar
      rw [aCons_app h1 (aCons_app h2 aNil_app)]
      rfl
    show fin (M d).length (fb__law_bent [.m i, .d (.str z), .un, .un] (M d)) = _
    unfold fb__law_bent
    rw [sSeq_nx hpar (r := some (.ret (.d (.str w)) (M d3))) ?_]
    · simp [eV_app, startS, eIsi, eNot, eAnd, eOr, eChain, sRet, sSeq, sSet, sIf, sNx, sDrop, sRaise, sRetN, aCons, eB, eCall, eTup, eLst, eIf, bAnd, bOr, bNot, tst, allD, viewT, viewL, viewX, tyD, isiB, hName, hTup, hsCons, hsNil, iSeq, wipeS, sAsg, gLe, gLt, gGe, gGt, gSub, gI20, gIsN, gNotN, gNotB, newL, eCut, ePart, gCut, iZip2, sFor, iAny, gIntA, gInA, gMulA, gEqA, gNeA, hM.take]
    · have hlst : ∀ μ, eLst false (aCons (e2 (gAdd false) (e2 (gAdd false) (eCut false (eV 1) none (some (eV 2))) (eV 3)) (eCut false (eV 1) (some (eV 2)) none)) (aCons (e2 (gAdd false) (e2 (gAdd false) (eCut false (eV 1) none (some (eV 2))) (eV 3)) (eCut false (eV 1) (some (e2 (gAdd false) (eV 2) (eC (.int 1)))) none)) (aCons (e2 (gAdd false) (eCut false (eV 1) none (some (eV 2))) (eCut false (eV 1) (some (e2 (gAdd false) (eV 2) (eC (.int 1)))) none)) (aCons (eCut false (eV 1) none (some (eV 2))) (aCons (e2 (gAdd false) (e2 (gAdd false) (eV 1) (eC (.str " "))) (eV 1)) (aCons (eRev false (eV 1)) aNil)))))) [.m i, .d (.str z), .d (.int at'), .d (.str sg)] μ = some (.ok (.d (.lst (([c1 ++ sg ++ c2, c1 ++ sg ++ c3, c1 ++ c3, c1, z ++ " " ++ z, revS z] : List Str).map .str))) μ) := fun μ => by
        simp only [eLst, aCons, eC_app, eV_app, List.getElem?_cons_zero, List.getElem?_cons_succ, e2_app, eCut, ePart, bE_ok, ct, hc1, hc2, hc3, gi, a1, a2, a3, a4, a5, a6, eRev, h24, if_true, aNil_app, bAE_ok, allD, Option.map_some, List.length_cons, List.length_nil, newL, Nat.reduceAdd, Nat.reduceLeDiff]
        rfl
      have h0 : eV 0 [.m i, .d (.str z), .d (.int at'), .d (.str sg)] (M d2) = some (.ok (.m i) (M d2)) := rfl
      unfold sRet eCall
      rw [aCons_app h0 (aCons_app (hlst _) aNil_app)]
      simp only [bAE_ok, List.length_cons, List.length_nil, Nat.reduceAdd, if_true, q1, onlyD_ok]
  · simp only [List.mem_cons, List.not_mem_nil, or_false] at hw
    rcases hw with rfl | rfl | rfl | rfl | rfl | rfl
    · exact (k1.1.app sr).app k2.1
    · exact (k1.1.app sr).app k3.1
    · exact k1.1.app k3.1
    · exact k1.1
    · exact (hr.app hsp).app hr
    · intro c hc
      rw [rev_tl] at hc
      exact hr c (List.mem_reverse.mp hc)
  · simp only [List.mem_cons, List.not_mem_nil, or_false] at hw
    rcases hw with rfl | rfl | rfl | rfl | rfl | rfl
    · rw [len_app, len_app]; omega
    · rw [len_app, len_app]; omega
    · rw [len_app]; omega
    · omega
    · rw [len_app, len_app]; omega
    · rw [len_tl, rev_tl, List.length_reverse, ← len_tl]; omega
/-! ### what is shown -/
structure Shw (n : Nat) (x : D) (b : Nat) : Prop where
  ok : okD n x = true
  sh : x.py.showable = true
  ln : x.py.shown.length ≤ b
theorem okD_mono : ∀ {n m : Nat} {d : D}, okD n d = true → n ≤ m → okD m d = true := by
  have key : ∀ n, (∀ d m, okD n d = true → n ≤ m → okD m d = true) := by
    intro n
    induction n with
    | zero =>
      intro d m h hm
      cases d <;> first | (simp [eV_app, startS, eIsi, eNot, eAnd, eOr, eChain, sRet, sSeq, sSet, sIf, sNx, sDrop, sRaise, sRetN, aCons, eB, eCall, eTup, eLst, eIf, bAnd, bOr, bNot, tst, allD, viewT, viewL, viewX, tyD, isiB, hName, hTup, hsCons, hsNil, iSeq, wipeS, sAsg, gLe, gLt, gGe, gGt, gSub, gI20, gIsN, gNotN, gNotB, newL, eCut, ePart, gCut, iZip2, sFor, iAny, gIntA, gInA, gMulA, gEqA, gNeA, okD] at h; done) | (cases m <;> simp_all [okD])
    | succ n ih =>
      intro d m h hm
      have hs : ∀ ds : List D, okDs n ds = true → ∀ m', n ≤ m' → okDs m' ds = true := fun ds => by
        induction ds with
        | nil => intros; simp [eV_app, startS, eIsi, eNot, eAnd, eOr, eChain, sRet, sSeq, sSet, sIf, sNx, sDrop, sRaise, sRetN, aCons, eB, eCall, eTup, eLst, eIf, bAnd, bOr, bNot, tst, allD, viewT, viewL, viewX, tyD, isiB, hName, hTup, hsCons, hsNil, iSeq, wipeS, sAsg, gLe, gLt, gGe, gGt, gSub, gI20, gIsN, gNotN, gNotB, newL, eCut, ePart, gCut, iZip2, sFor, iAny, gIntA, gInA, gMulA, gEqA, gNeA, okDs]
        | cons x xs ihx =>
          intro h m' hm'
          have h : okD n x = true ∧ okDs n xs = true := by simpa [eV_app, startS, eIsi, eNot, eAnd, eOr, eChain, sRet, sSeq, sSet, sIf, sNx, sDrop, sRaise, sRetN, aCons, eB, eCall, eTup, eLst, eIf, bAnd, bOr, bNot, tst, allD, viewT, viewL, viewX, tyD, isiB, hName, hTup, hsCons, hsNil, iSeq, wipeS, sAsg, gLe, gLt, gGe, gGt, gSub, gI20, gIsN, gNotN, gNotB, newL, eCut, ePart, gCut, iZip2, sFor, iAny, gIntA, gInA, gMulA, gEqA, gNeA, okDs] using h
          simp only [okDs, ih x m' h.1 hm', ihx h.2 m' hm', Bool.and_self]
      cases m with
      | zero => omega
      | succ m => cases d <;> first | (simp [eV_app, startS, eIsi, eNot, eAnd, eOr, eChain, sRet, sSeq, sSet, sIf, sNx, sDrop, sRaise, sRetN, aCons, eB, eCall, eTup, eLst, eIf, bAnd, bOr, bNot, tst, allD, viewT, viewL, viewX, tyD, isiB, hName, hTup, hsCons, hsNil, iSeq, wipeS, sAsg, gLe, gLt, gGe, gGt, gSub, gI20, gIsN, gNotN, gNotB, newL, eCut, ePart, gCut, iZip2, sFor, iAny, gIntA, gInA, gMulA, gEqA, gNeA, okD] at h; done) | (simp only [okD] at h ⊢; exact hs _ h m (by omega)) | (simp only [okD] at h ⊢; exact h) | simp [eV_app, startS, eIsi, eNot, eAnd, eOr, eChain, sRet, sSeq, sSet, sIf, sNx, sDrop, sRaise, sRetN, aCons, eB, eCall, eTup, eLst, eIf, bAnd, bOr, bNot, tst, allD, viewT, viewL, viewX, tyD, isiB, hName, hTup, hsCons, hsNil, iSeq, wipeS, sAsg, gLe, gLt, gGe, gGt, gSub, gI20, gIsN, gNotN, gNotB, newL, eCut, ePart, gCut, iZip2, sFor, iAny, gIntA, gInA, gMulA, gEqA, gNeA, okD]
  intro n m d h hm
  exact key n d m h hm
theorem pys_map : ∀ ds : List D, D.pys ds = ds.map D.py
  | [] => rfl
  | d :: ds => by simp [eV_app, startS, eIsi, eNot, eAnd, eOr, eChain, sRet, sSeq, sSet, sIf, sNx, sDrop, sRaise, sRetN, aCons, eB, eCall, eTup, eLst, eIf, bAnd, bOr, bNot, tst, allD, viewT, viewL, viewX, tyD, isiB, hName, hTup, hsCons, hsNil, iSeq, wipeS, sAsg, gLe, gLt, gGe, gGt, gSub, gI20, gIsN, gNotN, gNotB, newL, eCut, ePart, gCut, iZip2, sFor, iAny, gIntA, gInA, gMulA, gEqA, gNeA, D.pys, pys_map ds]
theorem shownAll_map : ∀ ds : List PyData, PyData.shownAll ds = ds.map PyData.shown
  | [] => rfl
  | d :: ds => by simp [eV_app, startS, eIsi, eNot, eAnd, eOr, eChain, sRet, sSeq, sSet, sIf, sNx, sDrop, sRaise, sRetN, aCons, eB, eCall, eTup, eLst, eIf, bAnd, bOr, bNot, tst, allD, viewT, viewL, viewX, tyD, isiB, hName, hTup, hsCons, hsNil, iSeq, wipeS, sAsg, gLe, gLt, gGe, gGt, gSub, gI20, gIsN, gNotN, gNotB, newL, eCut, ePart, gCut, iZip2, sFor, iAny, gIntA, gInA, gMulA, gEqA, gNeA, PyData.shownAll, shownAll_map ds]
theorem showAll : ∀ ds : List D, (∀ d ∈ ds, d.py.showable = true) → PyData.showableAll (D.pys ds) = true
  | [], _ => rfl
  | d :: ds, h => by
    simp only [D.pys, PyData.showableAll, h d (by simp [eV_app, startS, eIsi, eNot, eAnd, eOr, eChain, sRet, sSeq, sSet, sIf, sNx, sDrop, sRaise, sRetN, aCons, eB, eCall, eTup, eLst, eIf, bAnd, bOr, bNot, tst, allD, viewT, viewL, viewX, tyD, isiB, hName, hTup, hsCons, hsNil, iSeq, wipeS, sAsg, gLe, gLt, gGe, gGt, gSub, gI20, gIsN, gNotN, gNotB, newL, eCut, ePart, gCut, iZip2, sFor, iAny, gIntA, gInA, gMulA, gEqA, gNeA]), showAll ds fun x hx => h x (List.mem_cons_of_mem _ hx), Bool.and_self]
theorem sum_le2 : ∀ (ys : List Str) (b : Nat), (∀ y ∈ ys, y.length ≤ b) → (ys.map (·.length)).sum ≤ ys.length * b := sum_le
theorem okDs_all {n : Nat} : ∀ {ds : List D}, (∀ d ∈ ds, okD n d = true) → okDs n ds = true
  | [], _ => by simp [eV_app, startS, eIsi, eNot, eAnd, eOr, eChain, sRet, sSeq, sSet, sIf, sNx, sDrop, sRaise, sRetN, aCons, eB, eCall, eTup, eLst, eIf, bAnd, bOr, bNot, tst, allD, viewT, viewL, viewX, tyD, isiB, hName, hTup, hsCons, hsNil, iSeq, wipeS, sAsg, gLe, gLt, gGe, gGt, gSub, gI20, gIsN, gNotN, gNotB, newL, eCut, ePart, gCut, iZip2, sFor, iAny, gIntA, gInA, gMulA, gEqA, gNeA, okDs]
  | d :: ds, h => by simp only [okDs, h d (by simp [eV_app, startS, eIsi, eNot, eAnd, eOr, eChain, sRet, sSeq, sSet, sIf, sNx, sDrop, sRaise, sRetN, aCons, eB, eCall, eTup, eLst, eIf, bAnd, bOr, bNot, tst, allD, viewT, viewL, viewX, tyD, isiB, hName, hTup, hsCons, hsNil, iSeq, wipeS, sAsg, gLe, gLt, gGe, gGt, gSub, gI20, gIsN, gNotN, gNotB, newL, eCut, ePart, gCut, iZip2, sFor, iAny, gIntA, gInA, gMulA, gEqA, gNeA]), okDs_all fun x hx => h x (List.mem_cons_of_mem _ hx), Bool.and_self]
theorem Shw.tup {n : Nat} {ds : List D} {b : Nat} (h : ∀ d ∈ ds, Shw n d b) : Shw (n + 1) (.tup ds) (ds.length * (b + 2) + 3) where
  ok := by
    simp only [okD]
    exact okDs_all fun d hd => (h d hd).ok
  sh := by
    simp only [D.py, PyData.showable]
    exact showAll ds fun d hm => (h d hm).sh
  ln := by
    simp only [D.py, PyData.shown, shownAll_map, pys_map, List.map_map]
    have h1 := tupleText_len_le (ds.map (PyData.shown ∘ D.py))
    have h2 := sum_le (ds.map (PyData.shown ∘ D.py)) b fun y hy => by
      obtain ⟨d, hm, rfl⟩ := List.mem_map.mp hy
      exact (h d hm).ln
    rw [List.length_map] at h1 h2
    rw [Nat.mul_add]
    omega
theorem gRepr_ok {n : Nat} {x : D} {b : Nat} {μ : List MO} (h : Shw n x b) (hn : n ≤ 20) (hb : b ≤ 100000) (ht : ∃ ds, x = .tup ds) : gRepr [.d x] μ = some (.ok (.d (.str x.py.shown)) μ) := by
  obtain ⟨ds, rfl⟩ := ht
  have h20 : okD 20 (.tup ds) = true := okD_mono h.ok hn
  have h3 : (D.tup ds).py.hasDict = false := PyData.hasDict_of_canLay _ (okD_lay 20 _ h20).1
  have h4 : PyProof.Rows.isDisplay (D.tup ds).py = true := rfl
  have h5 : (D.tup ds).py.shown.length ≤ small24 := by have := h.ln; unfold small24; omega
  simp only [gRepr, h20, h.sh, h3, h4, h5, and_self, if_true]
theorem Shw.int {n : Nat} {i : Int} (h : 0 ≤ i ∧ i ≤ 1100) : Shw n (.int i) 4 where
  ok := ok_int n i
  sh := by
    have l : ∀ n : Fin 1101, n.val.log2 < 1920 := by decide +kernel
    simp only [D.py, PyData.showable, decide_eq_true_eq]
    exact l ⟨i.natAbs, by omega⟩
  ln := by
    show (dig i).length ≤ 4
    rw [len_tl, dig_tl h.1]
    exact TL.numL_len (by omega) (by omega)
theorem Shw.read : Shw 3 (.str "read") 400 := ⟨by decide +kernel, rfl, by decide +kernel⟩
theorem Shw.bad : Shw 3 (.str "bad") 400 := ⟨by decide +kernel, rfl, by decide +kernel⟩
theorem Shw.mono {n m : Nat} {x : D} {a b : Nat} (h : Shw n x a) (hn : n ≤ m) (hb : a ≤ b) : Shw m x b := ⟨okD_mono h.ok hn, h.sh, Nat.le_trans h.ln hb⟩
theorem Shw.ints {ns : List Int} (hl : ns.length ≤ 8) (h : ∀ x ∈ ns, 0 ≤ x ∧ x ≤ 200) : Shw 2 (tupI ns) 60 := by
  have := Shw.tup (n := 1) (ds := ns.map .int) (b := 4) (fun d hd => by
    obtain ⟨x, hx, rfl⟩ := List.mem_map.mp hd
    have := h x hx
    exact Shw.int (by omega))
  rw [List.length_map] at this
  exact this.mono (by omega) (by omega)
theorem Shw.mach {m : List (List Int)} (hl : m.length ≤ 6) (h : ∀ sl ∈ m, sl.length ≤ 8 ∧ ∀ x ∈ sl, 0 ≤ x ∧ x ≤ 200) : Shw 3 (mcD m) 400 := by
  have := Shw.tup (n := 2) (ds := m.map tupI) (b := 60) (fun d hd => by
    obtain ⟨sl, hs, rfl⟩ := List.mem_map.mp hd
    exact Shw.ints (h sl hs).1 (h sl hs).2)
  rw [List.length_map] at this
  exact this.mono (by omega) (by omega)
theorem Shw.pair {a b : D} (h1 : Shw 3 a 400) (h2 : Shw 3 b 400) : Shw 4 (.tup [a, b]) 900 :=
  (Shw.tup (ds := [a, b]) (b := 400) (fun d hd => by
    simp [eV_app, startS, eIsi, eNot, eAnd, eOr, eChain, sRet, sSeq, sSet, sIf, sNx, sDrop, sRaise, sRetN, aCons, eB, eCall, eTup, eLst, eIf, bAnd, bOr, bNot, tst, allD, viewT, viewL, viewX, tyD, isiB, hName, hTup, hsCons, hsNil, iSeq, wipeS, sAsg, gLe, gLt, gGe, gGt, gSub, gI20, gIsN, gNotN, gNotB, newL, eCut, ePart, gCut, iZip2, sFor, iAny, gIntA, gInA, gMulA, gEqA, gNeA] at hd
    rcases hd with rfl | rfl
    · exact h1
    · exact h2)).mono (by omega) (by simp [eV_app, startS, eIsi, eNot, eAnd, eOr, eChain, sRet, sSeq, sSet, sIf, sNx, sDrop, sRaise, sRetN, aCons, eB, eCall, eTup, eLst, eIf, bAnd, bOr, bNot, tst, allD, viewT, viewL, viewX, tyD, isiB, hName, hTup, hsCons, hsNil, iSeq, wipeS, sAsg, gLe, gLt, gGe, gGt, gSub, gI20, gIsN, gNotN, gNotB, newL, eCut, ePart, gCut, iZip2, sFor, iAny, gIntA, gInA, gMulA, gEqA, gNeA])
/-! ### bounds of what is read -/
theorem resM_bound : ∀ (ps : List Str) (k : Nat) (acc : List (List Int)), acc.length = k → k ≤ 6 → (∀ sl ∈ acc, sl.length ≤ 8 ∧ ∀ x ∈ sl, 0 ≤ x ∧ x ≤ 200) →
    (∀ m, resM k ps acc = .inl m → m.length ≤ 6 ∧ ∀ sl ∈ m, sl.length ≤ 8 ∧ ∀ x ∈ sl, 0 ≤ x ∧ x ≤ 200) ∧ ∀ j, resM k ps acc = .inr j → j ≤ 6
  | [], k, acc, h1, h2, h3 => by
    refine ⟨fun m h => ?_, fun j h => ?_⟩
    · simp only [resM, Sum.inl.injEq] at h
      subst h; exact ⟨by omega, h3⟩
    · simp [eV_app, startS, eIsi, eNot, eAnd, eOr, eChain, sRet, sSeq, sSet, sIf, sNx, sDrop, sRaise, sRetN, aCons, eB, eCall, eTup, eLst, eIf, bAnd, bOr, bNot, tst, allD, viewT, viewL, viewX, tyD, isiB, hName, hTup, hsCons, hsNil, iSeq, wipeS, sAsg, gLe, gLt, gGe, gGt, gSub, gI20, gIsN, gNotN, gNotB, newL, eCut, ePart, gCut, iZip2, sFor, iAny, gIntA, gInA, gMulA, gEqA, gNeA, resM] at h
  | p :: ps, k, acc, h1, h2, h3 => by
    unfold resM
    by_cases h : okM p = true ∧ k ≤ 5
    · rw [if_pos h]
      refine resM_bound ps (k + 1) (acc ++ [slM p]) (by simp [eV_app, startS, eIsi, eNot, eAnd, eOr, eChain, sRet, sSeq, sSet, sIf, sNx, sDrop, sRaise, sRetN, aCons, eB, eCall, eTup, eLst, eIf, bAnd, bOr, bNot, tst, allD, viewT, viewL, viewX, tyD, isiB, hName, hTup, hsCons, hsNil, iSeq, wipeS, sAsg, gLe, gLt, gGe, gGt, gSub, gI20, gIsN, gNotN, gNotB, newL, eCut, ePart, gCut, iZip2, sFor, iAny, gIntA, gInA, gMulA, gEqA, gNeA, h1]) (by omega) fun sl hs => ?_
      rcases List.mem_append.mp hs with hs | hs
      · exact h3 sl hs
      · rw [List.mem_singleton.mp hs]
        refine ⟨okM_len h.1, fun x hx => ?_⟩
        have := slM_in (okM_iff.mp h.1).2.1 x hx
        omega
    · rw [if_neg h]
      refine ⟨fun m h => (nomatch h), fun j h => ?_⟩
      simp only [Sum.inr.injEq] at h
      omega
theorem resR_bound : ∀ (ps : List Str) (k : Nat) (fs : List Int) (last : Int), fs.length = 8 → (∀ x ∈ fs, 0 ≤ x ∧ x ≤ 200) → -1 ≤ last → last ≤ 7 →
    (∀ m, resR k ps fs last = .inl m → m.length = 8 ∧ ∀ x ∈ m, 0 ≤ x ∧ x ≤ 200) ∧ ∀ j, resR k ps fs last = .inr j → (j : Int) ≤ k + 7 - last
  | [], k, fs, last, h1, h2, h3, h4 => by
    refine ⟨fun m h => ?_, fun j h => ?_⟩
    · simp only [resR, Sum.inl.injEq] at h
      subst h; exact ⟨h1, h2⟩
    · simp [eV_app, startS, eIsi, eNot, eAnd, eOr, eChain, sRet, sSeq, sSet, sIf, sNx, sDrop, sRaise, sRetN, aCons, eB, eCall, eTup, eLst, eIf, bAnd, bOr, bNot, tst, allD, viewT, viewL, viewX, tyD, isiB, hName, hTup, hsCons, hsNil, iSeq, wipeS, sAsg, gLe, gLt, gGe, gGt, gSub, gI20, gIsN, gNotN, gNotB, newL, eCut, ePart, gCut, iZip2, sFor, iAny, gIntA, gInA, gMulA, gEqA, gNeA, resR] at h
  | p :: ps, k, fs, last, h1, h2, h3, h4 => by
    unfold resR
    cases h : okR last (tl p) with
    | some sn =>
      obtain ⟨s, n⟩ := sn
      obtain ⟨o1, o2, o3, o4, o5⟩ := okR_bound h
      have := resR_bound ps (k + 1) (fs.set s.toNat n) s (by simp [eV_app, startS, eIsi, eNot, eAnd, eOr, eChain, sRet, sSeq, sSet, sIf, sNx, sDrop, sRaise, sRetN, aCons, eB, eCall, eTup, eLst, eIf, bAnd, bOr, bNot, tst, allD, viewT, viewL, viewX, tyD, isiB, hName, hTup, hsCons, hsNil, iSeq, wipeS, sAsg, gLe, gLt, gGe, gGt, gSub, gI20, gIsN, gNotN, gNotB, newL, eCut, ePart, gCut, iZip2, sFor, iAny, gIntA, gInA, gMulA, gEqA, gNeA, h1]) (fun x hx => by
        rcases List.mem_or_eq_of_mem_set hx with hx | rfl
        · exact h2 x hx
        · omega) (by omega) (by omega)
      refine ⟨this.1, fun j hj => ?_⟩
      have := this.2 j hj
      omega
    | none =>
      refine ⟨fun m h => (nomatch h), fun j h => ?_⟩
      simp only [Sum.inr.injEq] at h
      omega
/-- what reading comes to, as data -/
def mD : List (List Int) ⊕ Nat → D
  | .inl m => .tup [.str "read", mcD m]
  | .inr k => .tup [.str "bad", .int (k : Nat)]
def rD : List Int ⊕ Nat → D
  | .inl m => .tup [.str "read", tupI m]
  | .inr k => .tup [.str "bad", .int (k : Nat)]
theorem mD_repr (z : Str) {μ : List MO} : ∃ t, gRepr [.d (mD (resM 0 (prt z) []))] μ = some (.ok (.d (.str t)) μ) := by
  obtain ⟨b1, b2⟩ := resM_bound (prt z) 0 [] rfl (by omega) (by simp [eV_app, startS, eIsi, eNot, eAnd, eOr, eChain, sRet, sSeq, sSet, sIf, sNx, sDrop, sRaise, sRetN, aCons, eB, eCall, eTup, eLst, eIf, bAnd, bOr, bNot, tst, allD, viewT, viewL, viewX, tyD, isiB, hName, hTup, hsCons, hsNil, iSeq, wipeS, sAsg, gLe, gLt, gGe, gGt, gSub, gI20, gIsN, gNotN, gNotB, newL, eCut, ePart, gCut, iZip2, sFor, iAny, gIntA, gInA, gMulA, gEqA, gNeA])
  refine ⟨_, gRepr_ok (n := 4) (b := 900) ?_ (by omega) (by omega) (by cases resM 0 (prt z) [] <;> exact ⟨_, rfl⟩)⟩
  cases h : resM 0 (prt z) [] with
  | inl m => exact Shw.read.pair (Shw.mach (b1 m h).1 (b1 m h).2)
  | inr k => exact Shw.bad.pair ((Shw.int (n := 3) (by have := b2 k h; omega)).mono (by omega) (by omega))
theorem rD_repr (z : Str) {μ : List MO} : ∃ t, gRepr [.d (rD (resRR z))] μ = some (.ok (.d (.str t)) μ) := by
  obtain ⟨b1, b2⟩ := resR_bound (prt z) 0 zeros (-1) rfl (by decide) (by omega) (by omega)
  refine ⟨_, gRepr_ok (n := 4) (b := 900) ?_ (by omega) (by omega) (by cases resRR z <;> exact ⟨_, rfl⟩)⟩
  unfold resRR
  by_cases hd : z = "-"
  · rw [if_pos hd]
    exact Shw.read.pair ((Shw.ints (ns := zeros) (by decide) (by decide)).mono (by omega) (by omega))
  · rw [if_neg hd]
    cases h : resR 0 (prt z) zeros (-1) with
    | inl m => exact Shw.read.pair ((Shw.ints (by rw [(b1 m h).1]; omega) (b1 m h).2).mono (by omega) (by omega))
    | inr k => exact Shw.bad.pair ((Shw.int (n := 3) (by have := b2 k h; omega)).mono (by omega) (by omega))
end K05
end

section
set_option linter.all false
set_option maxRecDepth 100000
set_option maxHeartbeats 2000000
namespace K05
open PySem DL
theorem met_machine {z : Str} {fe : EF} {ρ : List S} {μ : List MO} (h : z.length ≤ 1000) (he : fe ρ μ = some (.ok (.d (.str z)) μ)) : eMet (eCall 1 g_read_machine (aCons fe aNil)) ρ μ = some (.ok (.d (mD (resM 0 (prt z) []))) μ) := by
  rcases s_read_machine (z := z) (μ := μ) h with ⟨m, e1, e2⟩ | ⟨k, e1, e2⟩
  · rw [e1]
    simp only [eMet, eCall, aCons, he, aNil_app, bAE_ok, List.length_cons, List.length_nil, Nat.reduceAdd, if_true, e2, onlyD_ok, mD]
  · rw [e1]
    simp only [eMet, eCall, aCons, he, aNil_app, bAE_ok, List.length_cons, List.length_nil, Nat.reduceAdd, if_true, e2, onlyD_ex, mD]
theorem met_reading {z : Str} {fe : EF} {ρ : List S} {μ : List MO} (h : z.length ≤ 1000) (hr : Real z) (he : fe ρ μ = some (.ok (.d (.str z)) μ)) : eMet (eCall 1 g_read_reading (aCons fe aNil)) ρ μ = some (.ok (.d (rD (resRR z))) μ) := by
  rcases s_read_reading (z := z) (μ := μ) h hr with ⟨m, e1, e2⟩ | ⟨k, e1, e2⟩
  · rw [e1]
    simp only [eMet, eCall, aCons, he, aNil_app, bAE_ok, List.length_cons, List.length_nil, Nat.reduceAdd, if_true, e2, onlyD_ok, rD]
  · rw [e1]
    simp only [eMet, eCall, aCons, he, aNil_app, bAE_ok, List.length_cons, List.length_nil, Nat.reduceAdd, if_true, e2, onlyD_ex, rD]
theorem due_machine {z : Str} {fe : EF} {ρ : List S} {μ : List MO} (h : z.length ≤ 1000) (hr : Real z) (he : fe ρ μ = some (.ok (.d (.str z)) μ)) : eCall 1 g__law_machine_due (aCons fe aNil) ρ μ = some (.ok (.d (mD (resM 0 (prt z) []))) μ) := by
  rcases s_machine_due (z := z) (μ := μ) h hr with ⟨m, e1, e2⟩ | ⟨k, e1, e2⟩
  · rw [e1]
    simp only [eCall, aCons, he, aNil_app, bAE_ok, List.length_cons, List.length_nil, Nat.reduceAdd, if_true, e2, onlyD_ok, mD]
  · rw [e1]
    simp only [eCall, aCons, he, aNil_app, bAE_ok, List.length_cons, List.length_nil, Nat.reduceAdd, if_true, e2, onlyD_ok, mD]
theorem due_reading {z : Str} {fe : EF} {ρ : List S} {μ : List MO} (h : z.length ≤ 1000) (hr : Real z) (he : fe ρ μ = some (.ok (.d (.str z)) μ)) : eCall 1 g__law_reading_due (aCons fe aNil) ρ μ = some (.ok (.d (rD (resRR z))) μ) := by
  rcases s_reading_due (z := z) (μ := μ) h hr with ⟨m, e1, e2⟩ | ⟨k, e1, e2⟩
  · rw [e1]
    simp only [eCall, aCons, he, aNil_app, bAE_ok, List.length_cons, List.length_nil, Nat.reduceAdd, if_true, e2, onlyD_ok, rD]
  · rw [e1]
    simp only [eCall, aCons, he, aNil_app, bAE_ok, List.length_cons, List.length_nil, Nat.reduceAdd, if_true, e2, onlyD_ok, rD]
theorem gNeA_str {t : Str} {μ : List MO} : gNeA (.d (.str t)) (.d (.str t)) μ = some (.ok (.d (.bl false)) μ) := by simp [eV_app, startS, eIsi, eNot, eAnd, eOr, eChain, sRet, sSeq, sSet, sIf, sNx, sDrop, sRaise, sRetN, aCons, eB, eCall, eTup, eLst, eIf, bAnd, bOr, bNot, tst, allD, viewT, viewL, viewX, tyD, isiB, hName, hTup, hsCons, hsNil, iSeq, wipeS, sAsg, gLe, gLt, gGe, gGt, gSub, gI20, gIsN, gNotN, gNotB, newL, eCut, ePart, gCut, iZip2, sFor, iAny, gIntA, gInA, gMulA, gEqA, gNeA]
section
variable {M : Dice → List MO} {i : Nat} (hM : Sto M i)
include hM
theorem turn_body {N : Nat} {d : Dice} {z y : Str} {a1 a2 a3 a6 a7 a8 a9 a10 a11 a12 a13 : S} (hd : d.Ok N) (hN : N + 20 < 1000000) (hz : Real z) (hzl : z.length ≤ 100) (hy : Real y) (hyl : y.length ≤ 100) : ∃ e b9 b10, e.Ok (N + 6) ∧
    lb__law_right_0 [.m i, a1, a2, a3, .d (.str z), .d (.str y), a6, a7, a8, a9, a10, a11, a12, a13] (M d) = some (.nx [.m i, a1, a2, a3, .d (.str z), .d (.str y), a6, a7, a8, b9, b10, a11, a12, a13] (M e)) := by
  obtain ⟨w, d1, w1, w2, w3, w4⟩ := s_bent hM hd (by omega) hz hzl
  obtain ⟨v, d2, v1, v2, v3, v4⟩ := s_bent hM w4 (by omega) hy hyl
  refine ⟨d2, .d (.str w), .d (.str v), v4, ?_⟩
  generalize hρ : ([.m i, a1, a2, a3, .d (.str z), .d (.str y), a6, a7, a8, .d (.str w), .d (.str v), a11, a12, a13] : List S) = ρ
  have h9 : eV 9 ρ (M d2) = some (.ok (.d (.str w)) (M d2)) := by rw [← hρ]; rfl
  have h10 : eV 10 ρ (M d2) = some (.ok (.d (.str v)) (M d2)) := by rw [← hρ]; rfl
  have hasg : sAsg (hTup 2 (hsCons (hName 9) (hsCons (hName 10) hsNil))) (eTup (aCons (eCall 2 g__law_bent (aCons (eV 0) (aCons (eV 4) aNil))) (aCons (eCall 2 g__law_bent (aCons (eV 0) (aCons (eV 5) aNil))) aNil))) [.m i, a1, a2, a3, .d (.str z), .d (.str y), a6, a7, a8, a9, a10, a11, a12, a13] (M d) = some (.nx ρ (M d2)) := by
    rw [← hρ]
    simp [eV_app, startS, eIsi, eNot, eAnd, eOr, eChain, sRet, sSeq, sSet, sIf, sNx, sDrop, sRaise, sRetN, aCons, eB, eCall, eTup, eLst, eIf, bAnd, bOr, bNot, tst, allD, viewT, viewL, viewX, tyD, isiB, hName, hTup, hsCons, hsNil, iSeq, wipeS, sAsg, gLe, gLt, gGe, gGt, gSub, gI20, gIsN, gNotN, gNotB, newL, eCut, ePart, gCut, iZip2, sFor, iAny, gIntA, gInA, gMulA, gEqA, gNeA, w1, v1]
  unfold lb__law_right_0
  refine sSeq_nx hasg ?_
  obtain ⟨t1, q1⟩ := mD_repr w (μ := M d2)
  obtain ⟨t2, q2⟩ := rD_repr v (μ := M d2)
  have c1 : (tst (e2 gNeA (eB (gRepr) (aCons (eMet (eCall 1 g_read_machine (aCons (eV 9) aNil))) aNil)) (eB (gRepr) (aCons (eCall 1 g__law_machine_due (aCons (eV 9) aNil)) aNil)))) ρ (M d2) = some (.ok false (M d2)) := by
    simp only [tst, e2_app, eB_1 (met_machine (by omega) h9) q1, bE_ok, eB_1 (due_machine (by omega) w2 h9) q1, gNeA_str, toB_ok]
  have c2 : (tst (e2 gNeA (eB (gRepr) (aCons (eMet (eCall 1 g_read_reading (aCons (eV 10) aNil))) aNil)) (eB (gRepr) (aCons (eCall 1 g__law_reading_due (aCons (eV 10) aNil)) aNil)))) ρ (M d2) = some (.ok false (M d2)) := by
    simp only [tst, e2_app, eB_1 (met_reading (by omega) v2 h10) q2, bE_ok, eB_1 (due_reading (by omega) v2 h10) q2, gNeA_str, toB_ok]
  refine sSeq_nx (ρ1 := ρ) (μ1 := M d2) (sIf_no c1 rfl) ?_
  exact sIf_no c2 rfl
theorem turns {N : Nat} {d : Dice} {z y : Str} {a1 a2 a3 a6 a7 a8 a9 a10 a11 a12 a13 : S} (hd : d.Ok N) (hN : N + 100 < 1000000) (hz : Real z) (hzl : z.length ≤ 100) (hy : Real y) (hyl : y.length ≤ 100) : ∃ e b8 b9 b10, e.Ok (N + 60) ∧
    sFor (iRg none (eC (.int 10))) (hName 8) lb__law_right_0 [.m i, a1, a2, a3, .d (.str z), .d (.str y), a6, a7, a8, a9, a10, a11, a12, a13] (M d) = some (.nx [.m i, a1, a2, a3, .d (.str z), .d (.str y), a6, a7, b8, b9, b10, a11, a12, a13] (M e)) := by
  obtain ⟨ρ', μ', e1, e2⟩ := forF_inv (h := hName 8) (b := lb__law_right_0) D.int (full := rgI 0 10)
    (fun done ρ μ' => ∃ e b8 b9 b10, ρ = [.m i, a1, a2, a3, .d (.str z), .d (.str y), a6, a7, b8, b9, b10, a11, a12, a13] ∧ μ' = M e ∧ e.Ok (N + 6 * done.length))
    (fun done x rest ρ μ' hf hI => by
      obtain ⟨e, b8, b9, b10, rfl, rfl, hI⟩ := hI
      obtain ⟨hx, hx2⟩ := rgI_split hf
      obtain ⟨e', c9, c10, g1, g2⟩ := turn_body hM (a1 := a1) (a2 := a2) (a3 := a3) (a6 := a6) (a7 := a7) (a8 := .d (.int x)) (a9 := b9) (a10 := b10) (a11 := a11) (a12 := a12) (a13 := a13) hI (by omega) hz hzl hy hyl
      refine ⟨_, _, _, rfl, g2, e', .d (.int x), c9, c10, rfl, rfl, ?_⟩
      rw [List.length_append, List.length_singleton, Nat.mul_add]; exact g1)
    (rgI 0 10) [] [.m i, a1, a2, a3, .d (.str z), .d (.str y), a6, a7, a8, a9, a10, a11, a12, a13] (M d) rfl ⟨d, a8, a9, a10, rfl, rfl, by simpa [eV_app, startS, eIsi, eNot, eAnd, eOr, eChain, sRet, sSeq, sSet, sIf, sNx, sDrop, sRaise, sRetN, aCons, eB, eCall, eTup, eLst, eIf, bAnd, bOr, bNot, tst, allD, viewT, viewL, viewX, tyD, isiB, hName, hTup, hsCons, hsNil, iSeq, wipeS, sAsg, gLe, gLt, gGe, gGt, gSub, gI20, gIsN, gNotN, gNotB, newL, eCut, ePart, gCut, iZip2, sFor, iAny, gIntA, gInA, gMulA, gEqA, gNeA] using hd⟩
  obtain ⟨e, b8, b9, b10, rfl, rfl, h⟩ := e2
  refine ⟨e, b8, b9, b10, by simpa [eV_app, startS, eIsi, eNot, eAnd, eOr, eChain, sRet, sSeq, sSet, sIf, sNx, sDrop, sRaise, sRetN, aCons, eB, eCall, eTup, eLst, eIf, bAnd, bOr, bNot, tst, allD, viewT, viewL, viewX, tyD, isiB, hName, hTup, hsCons, hsNil, iSeq, wipeS, sAsg, gLe, gLt, gGe, gGt, gSub, gI20, gIsN, gNotN, gNotB, newL, eCut, ePart, gCut, iZip2, sFor, iAny, gIntA, gInA, gMulA, gEqA, gNeA, rgI_length] using h, ?_⟩
  unfold sFor
  rw [show iRg none (eC (.int 10)) [.m i, a1, a2, a3, .d (.str z), .d (.str y), a6, a7, a8, a9, a10, a11, a12, a13] (M d) = some (.ok ((rgI 0 10).map .int) (M d)) from by simp [eV_app, startS, eIsi, eNot, eAnd, eOr, eChain, sRet, sSeq, sSet, sIf, sNx, sDrop, sRaise, sRetN, aCons, eB, eCall, eTup, eLst, eIf, bAnd, bOr, bNot, tst, allD, viewT, viewL, viewX, tyD, isiB, hName, hTup, hsCons, hsNil, iSeq, wipeS, sAsg, gLe, gLt, gGe, gGt, gSub, gI20, gIsN, gNotN, gNotB, newL, eCut, ePart, gCut, iZip2, sFor, iAny, gIntA, gInA, gMulA, gEqA, gNeA, iRg]]
  exact e1
end
/-! ### what is refused -/
theorem zz_len : (timesS ("0" : Str) 1001).length = 1001 := by
  show (timesS ("0" : Str) 1001).cps.size = 1001
  unfold timesS
  simp only
  rw [times_size]
  decide
theorem bad_machine {v : D} {μ : List MO} (h : g_parts_of [.d v] (μ ++ [.ml []]) = some (.ex (.txt (.int (-1))) (μ ++ [.ml []]))) : g_read_machine [.d v] μ = some (.ex (.txt (.int (-1))) μ) := by
  simp [eV_app, startS, eIsi, eNot, eAnd, eOr, eChain, sRet, sSeq, sSet, sIf, sNx, sDrop, sRaise, sRetN, aCons, eB, eCall, eTup, eLst, eIf, bAnd, bOr, bNot, tst, allD, viewT, viewL, viewX, tyD, isiB, hName, hTup, hsCons, hsNil, iSeq, wipeS, sAsg, gLe, gLt, gGe, gGt, gSub, gI20, gIsN, gNotN, gNotB, newL, eCut, ePart, gCut, iZip2, sFor, iAny, gIntA, gInA, gMulA, gEqA, gNeA, g_read_machine, fb_read_machine, iEnm, h]
theorem bad_reading {v : D} {μ : List MO} (h : g_parts_of [.d v] μ = some (.ex (.txt (.int (-1))) μ)) : g_read_reading [.d v] μ = some (.ex (.txt (.int (-1))) μ) := by
  simp [eV_app, startS, eIsi, eNot, eAnd, eOr, eChain, sRet, sSeq, sSet, sIf, sNx, sDrop, sRaise, sRetN, aCons, eB, eCall, eTup, eLst, eIf, bAnd, bOr, bNot, tst, allD, viewT, viewL, viewX, tyD, isiB, hName, hTup, hsCons, hsNil, iSeq, wipeS, sAsg, gLe, gLt, gGe, gGt, gSub, gI20, gIsN, gNotN, gNotB, newL, eCut, ePart, gCut, iZip2, sFor, iAny, gIntA, gInA, gMulA, gEqA, gNeA, g_read_reading, fb_read_reading, sPar3, h]
def bads : List D := [.non, .int 5, .tup [], .lst [.str "0"], .bl true, .str (timesS "0" 1001)]
def odds : List D := [.non, .tup [], .lst [.tup [.int 0]], .tup [.tup [.int 8]], tupI [0, 0, 0, 0, 0, 0, 0], tupI [201, 201, 201, 201, 201, 201, 201, 201], .tup [tupI [0], tupI [0], tupI [0], tupI [0], tupI [0], tupI [0], tupI [0]]]
theorem bads_ok {v : D} (h : v ∈ bads) (μ : List MO) : g_parts_of [.d v] μ = some (.ex (.txt (.int (-1))) μ) := by
  simp only [bads, List.mem_cons, List.not_mem_nil, or_false] at h
  rcases h with rfl | rfl | rfl | rfl | rfl | rfl
  · exact x_parts_of (by simp [eV_app, startS, eIsi, eNot, eAnd, eOr, eChain, sRet, sSeq, sSet, sIf, sNx, sDrop, sRaise, sRetN, aCons, eB, eCall, eTup, eLst, eIf, bAnd, bOr, bNot, tst, allD, viewT, viewL, viewX, tyD, isiB, hName, hTup, hsCons, hsNil, iSeq, wipeS, sAsg, gLe, gLt, gGe, gGt, gSub, gI20, gIsN, gNotN, gNotB, newL, eCut, ePart, gCut, iZip2, sFor, iAny, gIntA, gInA, gMulA, gEqA, gNeA]) (by simp [eV_app, startS, eIsi, eNot, eAnd, eOr, eChain, sRet, sSeq, sSet, sIf, sNx, sDrop, sRaise, sRetN, aCons, eB, eCall, eTup, eLst, eIf, bAnd, bOr, bNot, tst, allD, viewT, viewL, viewX, tyD, isiB, hName, hTup, hsCons, hsNil, iSeq, wipeS, sAsg, gLe, gLt, gGe, gGt, gSub, gI20, gIsN, gNotN, gNotB, newL, eCut, ePart, gCut, iZip2, sFor, iAny, gIntA, gInA, gMulA, gEqA, gNeA])
  · exact x_parts_of (by simp [eV_app, startS, eIsi, eNot, eAnd, eOr, eChain, sRet, sSeq, sSet, sIf, sNx, sDrop, sRaise, sRetN, aCons, eB, eCall, eTup, eLst, eIf, bAnd, bOr, bNot, tst, allD, viewT, viewL, viewX, tyD, isiB, hName, hTup, hsCons, hsNil, iSeq, wipeS, sAsg, gLe, gLt, gGe, gGt, gSub, gI20, gIsN, gNotN, gNotB, newL, eCut, ePart, gCut, iZip2, sFor, iAny, gIntA, gInA, gMulA, gEqA, gNeA]) (by simp [eV_app, startS, eIsi, eNot, eAnd, eOr, eChain, sRet, sSeq, sSet, sIf, sNx, sDrop, sRaise, sRetN, aCons, eB, eCall, eTup, eLst, eIf, bAnd, bOr, bNot, tst, allD, viewT, viewL, viewX, tyD, isiB, hName, hTup, hsCons, hsNil, iSeq, wipeS, sAsg, gLe, gLt, gGe, gGt, gSub, gI20, gIsN, gNotN, gNotB, newL, eCut, ePart, gCut, iZip2, sFor, iAny, gIntA, gInA, gMulA, gEqA, gNeA])
  · exact x_parts_of (by simp [eV_app, startS, eIsi, eNot, eAnd, eOr, eChain, sRet, sSeq, sSet, sIf, sNx, sDrop, sRaise, sRetN, aCons, eB, eCall, eTup, eLst, eIf, bAnd, bOr, bNot, tst, allD, viewT, viewL, viewX, tyD, isiB, hName, hTup, hsCons, hsNil, iSeq, wipeS, sAsg, gLe, gLt, gGe, gGt, gSub, gI20, gIsN, gNotN, gNotB, newL, eCut, ePart, gCut, iZip2, sFor, iAny, gIntA, gInA, gMulA, gEqA, gNeA]) (by simp [eV_app, startS, eIsi, eNot, eAnd, eOr, eChain, sRet, sSeq, sSet, sIf, sNx, sDrop, sRaise, sRetN, aCons, eB, eCall, eTup, eLst, eIf, bAnd, bOr, bNot, tst, allD, viewT, viewL, viewX, tyD, isiB, hName, hTup, hsCons, hsNil, iSeq, wipeS, sAsg, gLe, gLt, gGe, gGt, gSub, gI20, gIsN, gNotN, gNotB, newL, eCut, ePart, gCut, iZip2, sFor, iAny, gIntA, gInA, gMulA, gEqA, gNeA])
  · exact x_parts_of (by simp [eV_app, startS, eIsi, eNot, eAnd, eOr, eChain, sRet, sSeq, sSet, sIf, sNx, sDrop, sRaise, sRetN, aCons, eB, eCall, eTup, eLst, eIf, bAnd, bOr, bNot, tst, allD, viewT, viewL, viewX, tyD, isiB, hName, hTup, hsCons, hsNil, iSeq, wipeS, sAsg, gLe, gLt, gGe, gGt, gSub, gI20, gIsN, gNotN, gNotB, newL, eCut, ePart, gCut, iZip2, sFor, iAny, gIntA, gInA, gMulA, gEqA, gNeA]) (by simp [eV_app, startS, eIsi, eNot, eAnd, eOr, eChain, sRet, sSeq, sSet, sIf, sNx, sDrop, sRaise, sRetN, aCons, eB, eCall, eTup, eLst, eIf, bAnd, bOr, bNot, tst, allD, viewT, viewL, viewX, tyD, isiB, hName, hTup, hsCons, hsNil, iSeq, wipeS, sAsg, gLe, gLt, gGe, gGt, gSub, gI20, gIsN, gNotN, gNotB, newL, eCut, ePart, gCut, iZip2, sFor, iAny, gIntA, gInA, gMulA, gEqA, gNeA])
  · exact x_parts_of (by simp [eV_app, startS, eIsi, eNot, eAnd, eOr, eChain, sRet, sSeq, sSet, sIf, sNx, sDrop, sRaise, sRetN, aCons, eB, eCall, eTup, eLst, eIf, bAnd, bOr, bNot, tst, allD, viewT, viewL, viewX, tyD, isiB, hName, hTup, hsCons, hsNil, iSeq, wipeS, sAsg, gLe, gLt, gGe, gGt, gSub, gI20, gIsN, gNotN, gNotB, newL, eCut, ePart, gCut, iZip2, sFor, iAny, gIntA, gInA, gMulA, gEqA, gNeA]) (by simp [eV_app, startS, eIsi, eNot, eAnd, eOr, eChain, sRet, sSeq, sSet, sIf, sNx, sDrop, sRaise, sRetN, aCons, eB, eCall, eTup, eLst, eIf, bAnd, bOr, bNot, tst, allD, viewT, viewL, viewX, tyD, isiB, hName, hTup, hsCons, hsNil, iSeq, wipeS, sAsg, gLe, gLt, gGe, gGt, gSub, gI20, gIsN, gNotN, gNotB, newL, eCut, ePart, gCut, iZip2, sFor, iAny, gIntA, gInA, gMulA, gEqA, gNeA])
  · exact x_parts_long (by rw [zz_len]; omega) (by rw [zz_len]; omega)
theorem odds_ok {v : D} (h : v ∈ odds) : okD 5 v = true ∧ machineB v = false ∧ areB v 8 8 0 200 = false := by
  simp only [odds, List.mem_cons, List.not_mem_nil, or_false] at h
  rcases h with rfl | rfl | rfl | rfl | rfl | rfl | rfl <;> decide +kernel
theorem tail_ok {M : Dice → List MO} {i : Nat} (hM : Sto M i) {N : Nat} {d : Dice} {a1 a2 a3 a4 a5 a6 a7 a8 a9 a10 a11 a12 a13 : S} (hd : d.Ok N) (hN : N + 100 < 1000000) : ∃ e,
    (sSeq (sAsg (hTup 2 (hsCons (hName 11) (hsCons (hName 12) hsNil))) (eTup (aCons (eCall 2 g__law_pick (aCons (eV 0) (aCons (eLst false (aCons (eC .non) (aCons (eC (.int 5)) (aCons (eTup aNil) (aCons (eLst false (aCons (eC (.str "0")) aNil)) (aCons (eC (.bl true)) (aCons (e2 (gMulA false) (eC (.str "0")) (eC (.int 1001))) aNil))))))) aNil))) (aCons (eCall 2 g__law_pick (aCons (eV 0) (aCons (eLst false (aCons (eC .non) (aCons (eTup aNil) (aCons (eLst false (aCons (eTup (aCons (eC (.int 0)) aNil)) aNil)) (aCons (eTup (aCons (eTup (aCons (eC (.int 8)) aNil)) aNil)) (aCons (e2 (gMulA false) (eTup (aCons (eC (.int 0)) aNil)) (eC (.int 7))) (aCons (e2 (gMulA false) (eTup (aCons (eC (.int 201)) aNil)) (eC (.int 8))) (aCons (e2 (gMulA false) (eTup (aCons (eTup (aCons (eC (.int 0)) aNil)) aNil)) (eC (.int 7))) aNil)))))))) aNil))) aNil)))) (sSeq (sSet 13 (eLst false (aCons (eMet (eCall 1 g_read_machine (aCons (eV 11) aNil))) (aCons (eMet (eCall 1 g_read_reading (aCons (eV 11) aNil))) aNil)))) (sRet (eAnd (e2 gEqA (eV 13) (e2 (gMulA false) (eLst false (aCons (eTup (aCons (eC (.str "bad")) (aCons (eNeg (eC (.int 1))) aNil))) aNil)) (eC (.int 2)))) (e2 gEqA (eLst false (aCons (eRefused (eCall 1 g_write_machine (aCons (eV 12) aNil))) (aCons (eRefused (eCall 1 g_write_reading (aCons (eV 12) aNil))) aNil))) (eLst false (aCons (eC (.str "machine")) (aCons (eC (.str "reading")) aNil)))))))) [.m i, a1, a2, a3, a4, a5, a6, a7, a8, a9, a10, a11, a12, a13] (M d) = some (.ret (.d (.bl true)) (M e)) := by
  obtain ⟨v, d1, v1, v2, v3⟩ := s_pick hM (ds := bads) hd (by omega) (by simp [eV_app, startS, eIsi, eNot, eAnd, eOr, eChain, sRet, sSeq, sSet, sIf, sNx, sDrop, sRaise, sRetN, aCons, eB, eCall, eTup, eLst, eIf, bAnd, bOr, bNot, tst, allD, viewT, viewL, viewX, tyD, isiB, hName, hTup, hsCons, hsNil, iSeq, wipeS, sAsg, gLe, gLt, gGe, gGt, gSub, gI20, gIsN, gNotN, gNotB, newL, eCut, ePart, gCut, iZip2, sFor, iAny, gIntA, gInA, gMulA, gEqA, gNeA, bads]) (by simp [eV_app, startS, eIsi, eNot, eAnd, eOr, eChain, sRet, sSeq, sSet, sIf, sNx, sDrop, sRaise, sRetN, aCons, eB, eCall, eTup, eLst, eIf, bAnd, bOr, bNot, tst, allD, viewT, viewL, viewX, tyD, isiB, hName, hTup, hsCons, hsNil, iSeq, wipeS, sAsg, gLe, gLt, gGe, gGt, gSub, gI20, gIsN, gNotN, gNotB, newL, eCut, ePart, gCut, iZip2, sFor, iAny, gIntA, gInA, gMulA, gEqA, gNeA, bads])
  obtain ⟨u, d2, u1, u2, u3⟩ := s_pick hM (ds := odds) v3 (by omega) (by simp [eV_app, startS, eIsi, eNot, eAnd, eOr, eChain, sRet, sSeq, sSet, sIf, sNx, sDrop, sRaise, sRetN, aCons, eB, eCall, eTup, eLst, eIf, bAnd, bOr, bNot, tst, allD, viewT, viewL, viewX, tyD, isiB, hName, hTup, hsCons, hsNil, iSeq, wipeS, sAsg, gLe, gLt, gGe, gGt, gSub, gI20, gIsN, gNotN, gNotB, newL, eCut, ePart, gCut, iZip2, sFor, iAny, gIntA, gInA, gMulA, gEqA, gNeA, odds]) (by simp [eV_app, startS, eIsi, eNot, eAnd, eOr, eChain, sRet, sSeq, sSet, sIf, sNx, sDrop, sRaise, sRetN, aCons, eB, eCall, eTup, eLst, eIf, bAnd, bOr, bNot, tst, allD, viewT, viewL, viewX, tyD, isiB, hName, hTup, hsCons, hsNil, iSeq, wipeS, sAsg, gLe, gLt, gGe, gGt, gSub, gI20, gIsN, gNotN, gNotB, newL, eCut, ePart, gCut, iZip2, sFor, iAny, gIntA, gInA, gMulA, gEqA, gNeA, odds])
  have hzt : ∀ μ, gMulA false (.d (.str "0")) (.d (.int 1001)) μ = some (.ok (.d (.str (timesS "0" 1001))) μ) := fun μ => by
    have : 2 ≤ (1001 : Int) ∧ (1001 : Int) ≤ 2000 ∧ 0 < ("0" : Str).length ∧ ("0" : Str).length ≤ 10 := by decide
    simp only [gMulA, this, and_self, if_true]
    rfl
  have l1 : ∀ ρ μ, eLst false (aCons (eC .non) (aCons (eC (.int 5)) (aCons (eTup aNil) (aCons (eLst false (aCons (eC (.str "0")) aNil)) (aCons (eC (.bl true)) (aCons (e2 (gMulA false) (eC (.str "0")) (eC (.int 1001))) aNil)))))) ρ μ = some (.ok (.d (.lst bads)) μ) := fun ρ μ => by
    simp only [eLst, eTup, aCons, eC_app, e2_app, aNil_app, bAE_ok, bE_ok, allD, Option.map_some, List.length_cons, List.length_nil, newL, Nat.reduceAdd, Nat.reduceLeDiff, if_true, hzt]
    rfl
  have m1 : ∀ μ, gMulA false (.d (.tup [.int 0])) (.d (.int 7)) μ = some (.ok (.d (tupI [0, 0, 0, 0, 0, 0, 0])) μ) := fun μ => rfl
  have m2 : ∀ μ, gMulA false (.d (.tup [.int 201])) (.d (.int 8)) μ = some (.ok (.d (tupI [201, 201, 201, 201, 201, 201, 201, 201])) μ) := fun μ => rfl
  have m3 : ∀ μ, gMulA false (.d (.tup [.tup [.int 0]])) (.d (.int 7)) μ = some (.ok (.d (.tup [tupI [0], tupI [0], tupI [0], tupI [0], tupI [0], tupI [0], tupI [0]])) μ) := fun μ => rfl
  have l2 : ∀ ρ μ, eLst false (aCons (eC .non) (aCons (eTup aNil) (aCons (eLst false (aCons (eTup (aCons (eC (.int 0)) aNil)) aNil)) (aCons (eTup (aCons (eTup (aCons (eC (.int 8)) aNil)) aNil)) (aCons (e2 (gMulA false) (eTup (aCons (eC (.int 0)) aNil)) (eC (.int 7))) (aCons (e2 (gMulA false) (eTup (aCons (eC (.int 201)) aNil)) (eC (.int 8))) (aCons (e2 (gMulA false) (eTup (aCons (eTup (aCons (eC (.int 0)) aNil)) aNil)) (eC (.int 7))) aNil))))))) ρ μ = some (.ok (.d (.lst odds)) μ) := fun ρ μ => by
    simp only [eLst, eTup, aCons, eC_app, e2_app, aNil_app, bAE_ok, bE_ok, allD, Option.map_some, List.length_cons, List.length_nil, newL, Nat.reduceAdd, Nat.reduceLeDiff, if_true, m1, m2, m3]
    rfl
  have h0 : ∀ μ, eV 0 [.m i, a1, a2, a3, a4, a5, a6, a7, a8, a9, a10, a11, a12, a13] μ = some (.ok (.m i) μ) := fun _ => rfl
  have hasg : sAsg (hTup 2 (hsCons (hName 11) (hsCons (hName 12) hsNil))) (eTup (aCons (eCall 2 g__law_pick (aCons (eV 0) (aCons (eLst false (aCons (eC .non) (aCons (eC (.int 5)) (aCons (eTup aNil) (aCons (eLst false (aCons (eC (.str "0")) aNil)) (aCons (eC (.bl true)) (aCons (e2 (gMulA false) (eC (.str "0")) (eC (.int 1001))) aNil))))))) aNil))) (aCons (eCall 2 g__law_pick (aCons (eV 0) (aCons (eLst false (aCons (eC .non) (aCons (eTup aNil) (aCons (eLst false (aCons (eTup (aCons (eC (.int 0)) aNil)) aNil)) (aCons (eTup (aCons (eTup (aCons (eC (.int 8)) aNil)) aNil)) (aCons (e2 (gMulA false) (eTup (aCons (eC (.int 0)) aNil)) (eC (.int 7))) (aCons (e2 (gMulA false) (eTup (aCons (eC (.int 201)) aNil)) (eC (.int 8))) (aCons (e2 (gMulA false) (eTup (aCons (eTup (aCons (eC (.int 0)) aNil)) aNil)) (eC (.int 7))) aNil)))))))) aNil))) aNil))) [.m i, a1, a2, a3, a4, a5, a6, a7, a8, a9, a10, a11, a12, a13] (M d) = some (.nx [.m i, a1, a2, a3, a4, a5, a6, a7, a8, a9, a10, .d v, .d u, a13] (M d2)) := by
    have f1 : (eCall 2 g__law_pick (aCons (eV 0) (aCons (eLst false (aCons (eC .non) (aCons (eC (.int 5)) (aCons (eTup aNil) (aCons (eLst false (aCons (eC (.str "0")) aNil)) (aCons (eC (.bl true)) (aCons (e2 (gMulA false) (eC (.str "0")) (eC (.int 1001))) aNil))))))) aNil))) [.m i, a1, a2, a3, a4, a5, a6, a7, a8, a9, a10, a11, a12, a13] (M d) = some (.ok (.d v) (M d1)) := by
      unfold eCall
      rw [aCons_app (h0 _) (aCons_app (l1 _ _) aNil_app)]
      simp only [bAE_ok, List.length_cons, List.length_nil, Nat.reduceAdd, if_true, v1, onlyD_ok]
    have f2 : (eCall 2 g__law_pick (aCons (eV 0) (aCons (eLst false (aCons (eC .non) (aCons (eTup aNil) (aCons (eLst false (aCons (eTup (aCons (eC (.int 0)) aNil)) aNil)) (aCons (eTup (aCons (eTup (aCons (eC (.int 8)) aNil)) aNil)) (aCons (e2 (gMulA false) (eTup (aCons (eC (.int 0)) aNil)) (eC (.int 7))) (aCons (e2 (gMulA false) (eTup (aCons (eC (.int 201)) aNil)) (eC (.int 8))) (aCons (e2 (gMulA false) (eTup (aCons (eTup (aCons (eC (.int 0)) aNil)) aNil)) (eC (.int 7))) aNil)))))))) aNil))) [.m i, a1, a2, a3, a4, a5, a6, a7, a8, a9, a10, a11, a12, a13] (M d1) = some (.ok (.d u) (M d2)) := by
      unfold eCall
      rw [aCons_app (h0 _) (aCons_app (l2 _ _) aNil_app)]
      simp only [bAE_ok, List.length_cons, List.length_nil, Nat.reduceAdd, if_true, u1, onlyD_ok]
    have ft : eTup (aCons (eCall 2 g__law_pick (aCons (eV 0) (aCons (eLst false (aCons (eC .non) (aCons (eC (.int 5)) (aCons (eTup aNil) (aCons (eLst false (aCons (eC (.str "0")) aNil)) (aCons (eC (.bl true)) (aCons (e2 (gMulA false) (eC (.str "0")) (eC (.int 1001))) aNil))))))) aNil))) (aCons (eCall 2 g__law_pick (aCons (eV 0) (aCons (eLst false (aCons (eC .non) (aCons (eTup aNil) (aCons (eLst false (aCons (eTup (aCons (eC (.int 0)) aNil)) aNil)) (aCons (eTup (aCons (eTup (aCons (eC (.int 8)) aNil)) aNil)) (aCons (e2 (gMulA false) (eTup (aCons (eC (.int 0)) aNil)) (eC (.int 7))) (aCons (e2 (gMulA false) (eTup (aCons (eC (.int 201)) aNil)) (eC (.int 8))) (aCons (e2 (gMulA false) (eTup (aCons (eTup (aCons (eC (.int 0)) aNil)) aNil)) (eC (.int 7))) aNil)))))))) aNil))) aNil)) [.m i, a1, a2, a3, a4, a5, a6, a7, a8, a9, a10, a11, a12, a13] (M d) = some (.ok (.d (.tup [v, u])) (M d2)) := by
      show bAE _ _ = _
      rw [aCons_app f1 (aCons_app f2 aNil_app)]
      rfl
    unfold sAsg
    rw [ft]
    rfl
  generalize hρ : ([.m i, a1, a2, a3, a4, a5, a6, a7, a8, a9, a10, .d v, .d u, a13] : List S) = ρ at hasg
  have h11 : ∀ μ, eV 11 ρ μ = some (.ok (.d v) μ) := fun _ => by rw [← hρ]; rfl
  have h12 : ∀ (x : S) μ, eV 12 (ρ.set 13 x) μ = some (.ok (.d u) μ) := fun _ _ => by rw [← hρ]; rfl
  have h13 : ∀ (x : D) μ, eV 13 (ρ.set 13 (.d x)) μ = some (.ok (.d x) μ) := fun _ _ => by rw [← hρ]; rfl
  obtain ⟨o1, o2, o3⟩ := odds_ok u2
  have b1 := bad_machine (μ := M d2) (bads_ok v2 _)
  have b2 := bad_reading (μ := M d2) (bads_ok v2 _)
  have w1 := x_write_machine (μ := M d2) o1 o2
  have w2 := x_write_reading (μ := M d2) o1 o3
  have told : (eLst false (aCons (eMet (eCall 1 g_read_machine (aCons (eV 11) aNil))) (aCons (eMet (eCall 1 g_read_reading (aCons (eV 11) aNil))) aNil))) ρ (M d2) = some (.ok (.d (.lst [.tup [.str "bad", .int (-1)], .tup [.str "bad", .int (-1)]])) (M d2)) := by
    simp only [eLst, eMet, eCall, aCons, h11, aNil_app, bAE_ok, List.length_cons, List.length_nil, Nat.reduceAdd, if_true, b1, b2, onlyD_ex, allD, Option.map_some, newL, Nat.reduceLeDiff]
  refine ⟨d2, sSeq_nx hasg (sSeq_nx (sSet_ok told) ?_)⟩
  have r1 : (e2 gEqA (eV 13) (e2 (gMulA false) (eLst false (aCons (eTup (aCons (eC (.str "bad")) (aCons (eNeg (eC (.int 1))) aNil))) aNil)) (eC (.int 2)))) (ρ.set 13 (.d (.lst [.tup [.str "bad", .int (-1)], .tup [.str "bad", .int (-1)]]))) (M d2) = some (.ok (.d (.bl true)) (M d2)) := by
    have h2 : ∀ ρ μ, (e2 (gMulA false) (eLst false (aCons (eTup (aCons (eC (.str "bad")) (aCons (eNeg (eC (.int 1))) aNil))) aNil)) (eC (.int 2))) ρ μ = some (.ok (.d (.lst [.tup [.str "bad", .int (-1)], .tup [.str "bad", .int (-1)]])) μ) := fun _ _ => rfl
    rw [e2_app, h13, bE_ok, h2, bE_ok]
    exact gEq_same (by decide +kernel)
  have r2 : (e2 gEqA (eLst false (aCons (eRefused (eCall 1 g_write_machine (aCons (eV 12) aNil))) (aCons (eRefused (eCall 1 g_write_reading (aCons (eV 12) aNil))) aNil))) (eLst false (aCons (eC (.str "machine")) (aCons (eC (.str "reading")) aNil)))) (ρ.set 13 (.d (.lst [.tup [.str "bad", .int (-1)], .tup [.str "bad", .int (-1)]]))) (M d2) = some (.ok (.d (.bl true)) (M d2)) := by
    have h1 : (eLst false (aCons (eRefused (eCall 1 g_write_machine (aCons (eV 12) aNil))) (aCons (eRefused (eCall 1 g_write_reading (aCons (eV 12) aNil))) aNil))) (ρ.set 13 (.d (.lst [.tup [.str "bad", .int (-1)], .tup [.str "bad", .int (-1)]]))) (M d2) = some (.ok (.d (.lst [.str "machine", .str "reading"])) (M d2)) := by
      simp only [eLst, eRefused, eCall, aCons, h12, aNil_app, bAE_ok, List.length_cons, List.length_nil, Nat.reduceAdd, if_true, w1, w2, onlyD_ex, allD, Option.map_some, newL, Nat.reduceLeDiff]
    have h2 : ∀ ρ μ, (eLst false (aCons (eC (.str "machine")) (aCons (eC (.str "reading")) aNil))) ρ μ = some (.ok (.d (.lst [.str "machine", .str "reading"])) μ) := fun _ _ => rfl
    rw [e2_app, h1, bE_ok, h2, bE_ok]
    exact gEq_same (by decide +kernel)
  simp only [sRet, eAnd, r1, asB_ok', r2]
end K05
end

section
set_option linter.all false
set_option maxRecDepth 100000
set_option maxHeartbeats 2000000
namespace K05
open PySem DL
theorem sAny {z : Str} {e1 : Str} {μ : List MO} : gNeA (.d (.str z)) (.d (.str e1)) μ = some (.ok (.d (.bl (!(z == e1)))) μ) := rfl
theorem callK0_1 {g : GF} {p : List S → List S → List S} {fe : EF} {ρ : List S} {μ : List MO} {s : S} (hp : p [] [s] = [s]) (he : fe ρ μ = some (.ok s μ)) : eCallK0 1 g p (aCons fe aNil) ρ μ = onlyD (g [s] μ) := by
  unfold eCallK0
  rw [aCons_app he aNil_app]
  simp only [bAE_ok, hp, List.length_cons, List.length_nil, Nat.reduceAdd, if_true]
theorem call_1 {g : GF} {fe : EF} {ρ : List S} {μ : List MO} {s : S} (he : fe ρ μ = some (.ok s μ)) : eCall 1 g (aCons fe aNil) ρ μ = onlyD (g [s] μ) := by
  unfold eCall
  rw [aCons_app he aNil_app]
  simp only [bAE_ok, List.length_cons, List.length_nil, Nat.reduceAdd, if_true]
theorem call_2 {g : GF} {f1 f2 : EF} {ρ : List S} {μ μ1 μ2 : List MO} {s u : S} (h1 : f1 ρ μ = some (.ok s μ1)) (h2 : f2 ρ μ1 = some (.ok u μ2)) : eCall 2 g (aCons f1 (aCons f2 aNil)) ρ μ = onlyD (g [s, u] μ2) := by
  unfold eCall
  rw [aCons_app h1 (aCons_app h2 aNil_app)]
  simp only [bAE_ok, List.length_cons, List.length_nil, Nat.reduceAdd, if_true]
theorem s_right {M : Dice → List MO} {i : Nat} (hM : Sto M i) {N : Nat} {d : Dice} (hd : d.Ok N) (hN : N + 1000 < 1000000) : ∃ e, g__law_right [.m i] (M d) = some (.ok (.d (.bl true)) (M e)) := by
  obtain ⟨k, d1, r1, r2, r3, r4⟩ := s_roll hM (t := 6) hd (by omega) (by omega) (by omega)
  obtain ⟨d2, m, m1, m2, m3, m4⟩ := s_b_machine hM (kinds := 1 + k) r4 (by omega) (by omega) (by omega)
  have hmc : McOk m := m1.mc (by omega) (by omega)
  have s1 : (eCall 2 g__law_b_machine (aCons (eV 0) (aCons (e2 (gAdd false) (eC (.int 1)) (eCall 2 g__law_roll (aCons (eV 0) (aCons (eC (.int 6)) aNil)))) aNil))) [.m i, .un, .un, .un, .un, .un, .un, .un, .un, .un, .un, .un, .un, .un] (M d) = some (.ok (.d (mcD m)) (M d2)) := by
    have h0 : ∀ μ, eV 0 [.m i, .un, .un, .un, .un, .un, .un, .un, .un, .un, .un, .un, .un, .un] μ = some (.ok (.m i) μ) := fun _ => rfl
    have h1 : (e2 (gAdd false) (eC (.int 1)) (eCall 2 g__law_roll (aCons (eV 0) (aCons (eC (.int 6)) aNil)))) [.m i, .un, .un, .un, .un, .un, .un, .un, .un, .un, .un, .un, .un, .un] (M d) = some (.ok (.d (.int (1 + k))) (M d1)) := by
      simp [eV_app, startS, eIsi, eNot, eAnd, eOr, eChain, sRet, sSeq, sSet, sIf, sNx, sDrop, sRaise, sRetN, aCons, eB, eCall, eTup, eLst, eIf, bAnd, bOr, bNot, tst, allD, viewT, viewL, viewX, tyD, isiB, hName, hTup, hsCons, hsNil, iSeq, wipeS, sAsg, gLe, gLt, gGe, gGt, gSub, gI20, gIsN, gNotN, gNotB, newL, eCut, ePart, gCut, iZip2, sFor, iAny, gIntA, gInA, gMulA, gEqA, gNeA, r1, gAdd]
    rw [call_2 (h0 _) h1, m4, onlyD_ok]
  -- the reading
  have hloop := eLc_st (vs := [3]) (fi := iRg none (eC (.int 8))) (h := hName 3) (e := eCall 2 g__law_pick (aCons (eV 0) (aCons (eLst false (aCons (eC (.int 0)) (aCons (eC (.int 0)) (aCons (eC (.int 1)) (aCons (eC (.int 200)) (aCons (eCall 2 g__law_roll (aCons (eV 0) (aCons (eC (.int 201)) aNil))) aNil)))))) aNil)))
    (ρ := [.m i, .d (mcD m), .un, .un, .un, .un, .un, .un, .un, .un, .un, .un, .un, .un]) (μ := M d2) M (fun k e => e.Ok (N + 1 + 24 + 2 * k)) D.int (fun _ y => ∃ z : Int, y = .int z ∧ 0 ≤ z ∧ z ≤ 200) (rgI 0 8) 0 d2 m3 (by simp [eV_app, startS, eIsi, eNot, eAnd, eOr, eChain, sRet, sSeq, sSet, sIf, sNx, sDrop, sRaise, sRetN, aCons, eB, eCall, eTup, eLst, eIf, bAnd, bOr, bNot, tst, allD, viewT, viewL, viewX, tyD, isiB, hName, hTup, hsCons, hsNil, iSeq, wipeS, sAsg, gLe, gLt, gGe, gGt, gSub, gI20, gIsN, gNotN, gNotB, newL, eCut, ePart, gCut, iZip2, sFor, iAny, gIntA, gInA, gMulA, gEqA, gNeA, iRg]) (by rw [rgI_length]; decide)
    (fun x hx j b _ hj hI => ?_)
  case refine_1 =>
    rw [rgI_length] at hj
    obtain ⟨r, b1, q1, q2, q3, q4⟩ := s_roll hM (t := 201) hI (by omega) (by omega) (by omega)
    obtain ⟨y, b2, p1, p2, p3⟩ := s_pick hM (ds := [.int 0, .int 0, .int 1, .int 200, .int r]) q4 (by omega) (by simp [eV_app, startS, eIsi, eNot, eAnd, eOr, eChain, sRet, sSeq, sSet, sIf, sNx, sDrop, sRaise, sRetN, aCons, eB, eCall, eTup, eLst, eIf, bAnd, bOr, bNot, tst, allD, viewT, viewL, viewX, tyD, isiB, hName, hTup, hsCons, hsNil, iSeq, wipeS, sAsg, gLe, gLt, gGe, gGt, gSub, gI20, gIsN, gNotN, gNotB, newL, eCut, ePart, gCut, iZip2, sFor, iAny, gIntA, gInA, gMulA, gEqA, gNeA]) (by simp [eV_app, startS, eIsi, eNot, eAnd, eOr, eChain, sRet, sSeq, sSet, sIf, sNx, sDrop, sRaise, sRetN, aCons, eB, eCall, eTup, eLst, eIf, bAnd, bOr, bNot, tst, allD, viewT, viewL, viewX, tyD, isiB, hName, hTup, hsCons, hsNil, iSeq, wipeS, sAsg, gLe, gLt, gGe, gGt, gSub, gI20, gIsN, gNotN, gNotB, newL, eCut, ePart, gCut, iZip2, sFor, iAny, gIntA, gInA, gMulA, gEqA, gNeA])
    refine ⟨_, y, b2, rfl, ?_, ?_, ?_⟩
    · simp [eV_app, startS, eIsi, eNot, eAnd, eOr, eChain, sRet, sSeq, sSet, sIf, sNx, sDrop, sRaise, sRetN, aCons, eB, eCall, eTup, eLst, eIf, bAnd, bOr, bNot, tst, allD, viewT, viewL, viewX, tyD, isiB, hName, hTup, hsCons, hsNil, iSeq, wipeS, sAsg, gLe, gLt, gGe, gGt, gSub, gI20, gIsN, gNotN, gNotB, newL, eCut, ePart, gCut, iZip2, sFor, iAny, gIntA, gInA, gMulA, gEqA, gNeA, q1, p1]
    · simp [eV_app, startS, eIsi, eNot, eAnd, eOr, eChain, sRet, sSeq, sSet, sIf, sNx, sDrop, sRaise, sRetN, aCons, eB, eCall, eTup, eLst, eIf, bAnd, bOr, bNot, tst, allD, viewT, viewL, viewX, tyD, isiB, hName, hTup, hsCons, hsNil, iSeq, wipeS, sAsg, gLe, gLt, gGe, gGt, gSub, gI20, gIsN, gNotN, gNotB, newL, eCut, ePart, gCut, iZip2, sFor, iAny, gIntA, gInA, gMulA, gEqA, gNeA] at p2
      rcases p2 with rfl | rfl | rfl | rfl
      · exact ⟨0, rfl, by omega, by omega⟩
      · exact ⟨1, rfl, by omega, by omega⟩
      · exact ⟨200, rfl, by omega, by omega⟩
      · exact ⟨r, rfl, by omega, by omega⟩
    · have : N + 1 + 24 + 2 * (j + 1) = N + 1 + 24 + 2 * j + 1 + 1 := by omega
      rw [this]; exact p3
  obtain ⟨ys, d3, g1, g2, g3, g4⟩ := hloop
  have hk0 : (rgI 0 8).length = 8 := by rw [rgI_length]; rfl
  obtain ⟨r, rfl, hr⟩ := ints_of_all (a := 0) (b := 200) fun y hy => (mem_G (xs := rgI 0 8) g3 g4 y hy).elim fun _ q => q.2
  rw [hk0] at g2 g3
  have hrd : RdOk r := ⟨by simpa [eV_app, startS, eIsi, eNot, eAnd, eOr, eChain, sRet, sSeq, sSet, sIf, sNx, sDrop, sRaise, sRetN, aCons, eB, eCall, eTup, eLst, eIf, bAnd, bOr, bNot, tst, allD, viewT, viewL, viewX, tyD, isiB, hName, hTup, hsCons, hsNil, iSeq, wipeS, sAsg, gLe, gLt, gGe, gGt, gSub, gI20, gIsN, gNotN, gNotB, newL, eCut, ePart, gCut, iZip2, sFor, iAny, gIntA, gInA, gMulA, gEqA, gNeA] using g3, hr⟩
  have s2 := eB_1 (g := gTup) (r := some (.ok (.d (tupI r)) (M d3))) g1 (by simp [eV_app, startS, eIsi, eNot, eAnd, eOr, eChain, sRet, sSeq, sSet, sIf, sNx, sDrop, sRaise, sRetN, aCons, eB, eCall, eTup, eLst, eIf, bAnd, bOr, bNot, tst, allD, viewT, viewL, viewX, tyD, isiB, hName, hTup, hsCons, hsNil, iSeq, wipeS, sAsg, gLe, gLt, gGe, gGt, gSub, gI20, gIsN, gNotN, gNotB, newL, eCut, ePart, gCut, iZip2, sFor, iAny, gIntA, gInA, gMulA, gEqA, gNeA, gTup, tupI])
  have zr := wm_real hmc
  have zl := wm_len hmc
  have yr := wr_real hrd
  have yl := wr_len hrd
  have wmw := s_write_machine (μ := M d3) hmc
  have wrw := s_write_reading (μ := M d3) hrd
  -- texts
  have s3 : sPar 4 5 (aCons (eCallK0 1 g_write_machine pm_write_machine_0_machine (aCons (eV 1) aNil)) (aCons (eCall 1 g_write_reading (aCons (eV 2) aNil)) aNil)) [.m i, .d (mcD m), .d (tupI r), .un, .un, .un, .un, .un, .un, .un, .un, .un, .un, .un] (M d3) = some (.nx [.m i, .d (mcD m), .d (tupI r), .un, .d (.str (wm m)), .d (.str (wr r)), .un, .un, .un, .un, .un, .un, .un, .un] (M d3)) := by
    have f1 := callK0_1 (g := g_write_machine) (p := pm_write_machine_0_machine) (fe := eV 1) (ρ := [.m i, .d (mcD m), .d (tupI r), .un, .un, .un, .un, .un, .un, .un, .un, .un, .un, .un]) (μ := M d3) (s := .d (mcD m)) rfl rfl
    rw [wmw, onlyD_ok] at f1
    have f2 := call_1 (g := g_write_reading) (fe := eV 2) (ρ := [.m i, .d (mcD m), .d (tupI r), .un, .un, .un, .un, .un, .un, .un, .un, .un, .un, .un]) (μ := M d3) (s := .d (tupI r)) rfl
    rw [wrw, onlyD_ok] at f2
    unfold sPar
    rw [aCons_app f1 (aCons_app f2 aNil_app)]
    rfl
  have s4 : (eM1 gJoin (eC (.str " ")) (eLc false [3] (iRg none (eC (.int 8))) (hName 3) (tst (e2 gGt (e2 gIx (eV 2) (eV 3)) (eC (.int 0)))) (e2 (gAdd false) (e2 (gAdd false) (eB (gStr) (aCons (eV 3) aNil)) (eC (.str ":"))) (eB (gStr) (aCons (e2 gIx (eV 2) (eV 3)) aNil))))) [.m i, .d (mcD m), .d (tupI r), .un, .d (.str (wm m)), .d (.str (wr r)), .un, .un, .un, .un, .un, .un, .un, .un] (M d3) = some (.ok (.d (.str (Txt.join " " (rps 0 r)))) (M d3)) := by
    have hc := eLc_p (vs := [3]) (fi := iRg none (eC (.int 8))) (h := hName 3) (c := tst (e2 gGt (e2 gIx (eV 2) (eV 3)) (eC (.int 0)))) (e := e2 (gAdd false) (e2 (gAdd false) (eB (gStr) (aCons (eV 3) aNil)) (eC (.str ":"))) (eB (gStr) (aCons (e2 gIx (eV 2) (eV 3)) aNil))) (ρ := [.m i, .d (mcD m), .d (tupI r), .un, .d (.str (wm m)), .d (.str (wr r)), .un, .un, .un, .un, .un, .un, .un, .un]) (μ := M d3)
      (prsK 0 r) (fun z => .int z.1) (fun z => decide (0 < z.2)) (fun z => .str (rp z)) (by
        have := prsK_fst 0 r
        rw [hrd.1] at this
        have e : (prsK 0 r).map (fun z => D.int z.1) = (rgI 0 8).map D.int := by
          rw [show (fun z : Int × Int => D.int z.1) = D.int ∘ (·.1) from rfl, ← List.map_map, this]
          rfl
        rw [e]
        simp [eV_app, startS, eIsi, eNot, eAnd, eOr, eChain, sRet, sSeq, sSet, sIf, sNx, sDrop, sRaise, sRetN, aCons, eB, eCall, eTup, eLst, eIf, bAnd, bOr, bNot, tst, allD, viewT, viewL, viewX, tyD, isiB, hName, hTup, hsCons, hsNil, iSeq, wipeS, sAsg, gLe, gLt, gGe, gGt, gSub, gI20, gIsN, gNotN, gNotB, newL, eCut, ePart, gCut, iZip2, sFor, iAny, gIntA, gInA, gMulA, gEqA, gNeA, iRg]) (by unfold prsK cap; simp [eV_app, startS, eIsi, eNot, eAnd, eOr, eChain, sRet, sSeq, sSet, sIf, sNx, sDrop, sRaise, sRetN, aCons, eB, eCall, eTup, eLst, eIf, bAnd, bOr, bNot, tst, allD, viewT, viewL, viewX, tyD, isiB, hName, hTup, hsCons, hsNil, iSeq, wipeS, sAsg, gLe, gLt, gGe, gGt, gSub, gI20, gIsN, gNotN, gNotB, newL, eCut, ePart, gCut, iZip2, sFor, iAny, gIntA, gInA, gMulA, gEqA, gNeA, hrd.1, rgI_length]) (fun z hz => by
        obtain ⟨a, b, c, e⟩ := prsK_mem hz
        rw [hrd.1] at b
        have hz2 := hrd.2 _ e
        obtain ⟨x, x1, x2⟩ := atI_map D.int (xs := r) (r := z.1) (by omega) (by rw [hrd.1]; omega)
        simp only [Int.natCast_zero, Int.sub_zero] at c
        rw [c] at x1
        cases x1
        have gx : ∀ μ, gIx (.d (tupI r)) (.d (.int z.1)) μ = some (.ok (.d (.int z.2)) μ) := fun μ => by simp [eV_app, startS, eIsi, eNot, eAnd, eOr, eChain, sRet, sSeq, sSet, sIf, sNx, sDrop, sRaise, sRetN, aCons, eB, eCall, eTup, eLst, eIf, bAnd, bOr, bNot, tst, allD, viewT, viewL, viewX, tyD, isiB, hName, hTup, hsCons, hsNil, iSeq, wipeS, sAsg, gLe, gLt, gGe, gGt, gSub, gI20, gIsN, gNotN, gNotB, newL, eCut, ePart, gCut, iZip2, sFor, iAny, gIntA, gInA, gMulA, gEqA, gNeA, gIx, tupI, x2]
        generalize hρ : (([.m i, .d (mcD m), .d (tupI r), .un, .d (.str (wm m)), .d (.str (wr r)), .un, .un, .un, .un, .un, .un, .un, .un] : List S).set 3 (.d (.int z.1))) = ρ1
        have v2 : ∀ μ, eV 2 ρ1 μ = some (.ok (.d (tupI r)) μ) := fun _ => by rw [← hρ]; rfl
        have v3 : ∀ μ, eV 3 ρ1 μ = some (.ok (.d (.int z.1)) μ) := fun _ => by rw [← hρ]; rfl
        have n1 := num_len (i := z.1) (by omega)
        have n2 := num_len (i := z.2) (by omega)
        have cl : (":" : Str).length = 1 := by decide
        have ga : ∀ (a b : Str) (μ : List MO), a.length + b.length ≤ 1000 → gAdd false (.d (.str a)) (.d (.str b)) μ = some (.ok (.d (.str (a ++ b))) μ) := fun a b μ h => by
          have : a.length + b.length ≤ small24 := by unfold small24; omega
          simp only [gAdd, this, if_true]
        refine ⟨ρ1, by rw [← hρ]; rfl, ?_, fun _ => ?_⟩
        · simp only [tst, e2_app, v2, v3, bE_ok, gx, eC_app, gGt, gI20, toB_ok]
        · simp only [e2_app, eB, aCons, v2, v3, aNil_app, bAE_ok, gStr_dig (show 0 ≤ z.1 ∧ z.1 ≤ 200 by omega), bE_ok, eC_app, ga (dig z.1) ":" _ (by omega), gx, gStr_dig hz2, ga (dig z.1 ++ ":") (dig z.2) _ (by rw [len_app]; omega)]
          rfl)
    have hmm : ((prsK 0 r).filter fun z => decide (0 < z.2)).map (fun z => D.str (rp z)) = (rps 0 r).map D.str := by unfold rps; rw [List.map_map]; rfl
    rw [hmm] at hc
    simp only [eM1, eC_app, bE_ok, hc, rp_joins hrd]
  generalize hsm : Txt.join " " (rps 0 r) = sm at s4
  generalize hρ : ([.m i, .d (mcD m), .d (tupI r), .un, .d (.str (wm m)), .d (.str (wr r)), .d (.str sm), .un, .un, .un, .un, .un, .un, .un] : List S) = ρ
  have v1 : ∀ μ, eV 1 ρ μ = some (.ok (.d (mcD m)) μ) := fun _ => by rw [← hρ]; rfl
  have v2 : ∀ μ, eV 2 ρ μ = some (.ok (.d (tupI r)) μ) := fun _ => by rw [← hρ]; rfl
  have v4 : ∀ μ, eV 4 ρ μ = some (.ok (.d (.str (wm m))) μ) := fun _ => by rw [← hρ]; rfl
  have v5 : ∀ μ, eV 5 ρ μ = some (.ok (.d (.str (wr r))) μ) := fun _ => by rw [← hρ]; rfl
  have v6 : ∀ μ, eV 6 ρ μ = some (.ok (.d (.str sm)) μ) := fun _ => by rw [← hρ]; rfl
  have wex := wm_expr (fe := eV 1) (a := 7) (b := 3) (ρ := ρ) (μ := M d3) hmc (by decide) (by rw [← hρ]; simp [eV_app, startS, eIsi, eNot, eAnd, eOr, eChain, sRet, sSeq, sSet, sIf, sNx, sDrop, sRaise, sRetN, aCons, eB, eCall, eTup, eLst, eIf, bAnd, bOr, bNot, tst, allD, viewT, viewL, viewX, tyD, isiB, hName, hTup, hsCons, hsNil, iSeq, wipeS, sAsg, gLe, gLt, gGe, gGt, gSub, gI20, gIsN, gNotN, gNotB, newL, eCut, ePart, gCut, iZip2, sFor, iAny, gIntA, gInA, gMulA, gEqA, gNeA]) (by rw [← hρ]; simp [eV_app, startS, eIsi, eNot, eAnd, eOr, eChain, sRet, sSeq, sSet, sIf, sNx, sDrop, sRaise, sRetN, aCons, eB, eCall, eTup, eLst, eIf, bAnd, bOr, bNot, tst, allD, viewT, viewL, viewX, tyD, isiB, hName, hTup, hsCons, hsNil, iSeq, wipeS, sAsg, gLe, gLt, gGe, gGt, gSub, gI20, gIsN, gNotN, gNotB, newL, eCut, ePart, gCut, iZip2, sFor, iAny, gIntA, gInA, gMulA, gEqA, gNeA]) (v1 _)
  have sme : (sm == ("" : Str)) = decide (rps 0 r = []) := by
    rw [str_beq]
    have e0 : tl ("" : Str) = [] := by decide
    rw [e0, decide_eq_decide, ← hsm]
    constructor
    · intro h
      cases hn : rps 0 r with
      | nil => rfl
      | cons p ps =>
        have := join_58 hrd (by rw [hn]; simp [eV_app, startS, eIsi, eNot, eAnd, eOr, eChain, sRet, sSeq, sSet, sIf, sNx, sDrop, sRaise, sRetN, aCons, eB, eCall, eTup, eLst, eIf, bAnd, bOr, bNot, tst, allD, viewT, viewL, viewX, tyD, isiB, hName, hTup, hsCons, hsNil, iSeq, wipeS, sAsg, gLe, gLt, gGe, gGt, gSub, gI20, gIsN, gNotN, gNotB, newL, eCut, ePart, gCut, iZip2, sFor, iAny, gIntA, gInA, gMulA, gEqA, gNeA])
        rw [h] at this; simp [eV_app, startS, eIsi, eNot, eAnd, eOr, eChain, sRet, sSeq, sSet, sIf, sNx, sDrop, sRaise, sRetN, aCons, eB, eCall, eTup, eLst, eIf, bAnd, bOr, bNot, tst, allD, viewT, viewL, viewX, tyD, isiB, hName, hTup, hsCons, hsNil, iSeq, wipeS, sAsg, gLe, gLt, gGe, gGt, gSub, gI20, gIsN, gNotN, gNotB, newL, eCut, ePart, gCut, iZip2, sFor, iAny, gIntA, gInA, gMulA, gEqA, gNeA] at this
    · intro h; rw [h]; decide
  have s5 : (bOr (tst (e2 gNeA (eV 4) (eM1 gJoin (eC (.str " ")) (eLc false [7] (iAny (eV 1)) (hName 7) bYes (eM1 gJoin (eC (.str "")) (eLc false [3] (iAny (eV 7)) (hName 3) bYes (eB (gStr) (aCons (eV 3) aNil)))))))) (tst (e2 gNeA (eV 5) (eIf (tst (e2 gNeA (eV 6) (eC (.str "")))) (eV 6) (eC (.str "-")))))) ρ (M d3) = some (.ok false (M d3)) := by
    have hif : (eIf (tst (e2 gNeA (eV 6) (eC (.str "")))) (eV 6) (eC (.str "-"))) ρ (M d3) = some (.ok (.d (.str (wr r))) (M d3)) := by
      by_cases hn : rps 0 r = []
      · rw [decide_eq_true hn] at sme
        simp only [eIf, tst, e2_app, v6, bE_ok, eC_app, sAny, sme, Bool.not_true, toB_ok, bB_ok]
        unfold wr; rw [if_pos hn]
      · rw [decide_eq_false hn] at sme
        simp only [eIf, tst, e2_app, v6, bE_ok, eC_app, sAny, sme, Bool.not_false, toB_ok, bB_ok]
        unfold wr; rw [if_neg hn, hsm]
    simp only [bOr, tst, e2_app, v4, wex, bE_ok, gNeA_str, toB_ok, bBB_ok, v5, hif]
  have rm : g_read_machine [.d (.str (wm m))] (M d3) = some (.ok (.d (mcD m)) (M d3)) := by
    rcases s_read_machine (z := wm m) (μ := M d3) (by omega) with ⟨m', e1, e2⟩ | ⟨k, e1, e2⟩
    · rw [wm_back hmc] at e1
      cases e1; exact e2
    · rw [wm_back hmc] at e1; cases e1
  have rr : g_read_reading [.d (.str (wr r))] (M d3) = some (.ok (.d (tupI r)) (M d3)) := by
    rcases s_read_reading (z := wr r) (μ := M d3) (by omega) yr with ⟨m', e1, e2⟩ | ⟨k, e1, e2⟩
    · rw [wr_back hrd] at e1
      cases e1; exact e2
    · rw [wr_back hrd] at e1; cases e1
  have nm : ∀ μ, gNeA (.d (mcD m)) (.d (mcD m)) μ = some (.ok (.d (.bl false)) μ) := fun μ => gNe_same (ok_mc 18 m)
  have nr : ∀ μ, gNeA (.d (tupI r)) (.d (tupI r)) μ = some (.ok (.d (.bl false)) μ) := fun μ => gNe_same (ok_tupI 19 r)
  have s6 : (bOr (tst (e2 gNeA (eCall 1 g_read_machine (aCons (eV 4) aNil)) (eV 1))) (bOr (tst (e2 gNeA (eCallK0 1 g_read_reading pm_read_reading_0_text (aCons (eV 5) aNil)) (eV 2))) (bOr (tst (e2 gNeA (eCallK0 1 g_read_machine pm_read_machine_0_text (aCons (eV 4) aNil)) (eV 1))) (tst (e2 gNeA (eCallK0 1 g_write_reading pm_write_reading_0_reading (aCons (eV 2) aNil)) (eV 5)))))) ρ (M d3) = some (.ok false (M d3)) := by
    have c1 := call_1 (g := g_read_machine) (v4 (M d3))
    have c2 := callK0_1 (g := g_read_reading) (p := pm_read_reading_0_text) rfl (v5 (M d3))
    have c3 := callK0_1 (g := g_read_machine) (p := pm_read_machine_0_text) rfl (v4 (M d3))
    have c4 := callK0_1 (g := g_write_reading) (p := pm_write_reading_0_reading) rfl (v2 (M d3))
    rw [rm, onlyD_ok] at c1 c3
    rw [rr, onlyD_ok] at c2
    rw [wrw, onlyD_ok] at c4
    simp only [bOr, tst, e2_app, c1, c2, c3, c4, bE_ok, v1, v2, v5, nm, nr, gNeA_str, toB_ok, bBB_ok]
  obtain ⟨d4, b8, b9, b10, t1, t2⟩ := turns hM (z := wm m) (y := wr r) (a1 := .d (mcD m)) (a2 := .d (tupI r)) (a3 := .un) (a6 := .d (.str sm)) (a7 := .un) (a8 := .un) (a9 := .un) (a10 := .un) (a11 := .un) (a12 := .un) (a13 := .un) g2 (by omega) zr (by omega) yr (by omega)
  obtain ⟨d5, t3⟩ := tail_ok hM (a1 := .d (mcD m)) (a2 := .d (tupI r)) (a3 := .un) (a4 := .d (.str (wm m))) (a5 := .d (.str (wr r))) (a6 := .d (.str sm)) (a7 := .un) (a8 := b8) (a9 := b9) (a10 := b10) (a11 := .un) (a12 := .un) (a13 := .un) t1 (by omega)
  refine ⟨d5, ?_⟩
  show fin (M d).length (fb__law_right [.m i, .un, .un, .un, .un, .un, .un, .un, .un, .un, .un, .un, .un, .un] (M d)) = _
  have main : fb__law_right [.m i, .un, .un, .un, .un, .un, .un, .un, .un, .un, .un, .un, .un, .un] (M d) = some (.ret (.d (.bl true)) (M d5)) := by
    unfold fb__law_right
    refine sSeq_nx (sSet_ok s1) ?_
    simp only [List.set_cons_succ, List.set_cons_zero]
    refine sSeq_nx (sSet_ok s2) ?_
    simp only [List.set_cons_succ, List.set_cons_zero]
    refine sSeq_nx s3 (sSeq_nx (sSet_ok s4) ?_)
    simp only [List.set_cons_succ, List.set_cons_zero]
    rw [hρ]
    refine sSeq_nx (ρ1 := ρ) (μ1 := M d3) (sIf_no s5 rfl) ?_
    refine sSeq_nx (ρ1 := ρ) (μ1 := M d3) (sIf_no s6 rfl) ?_
    rw [← hρ]
    exact sSeq_nx t2 t3
  rw [main]
  simp [eV_app, startS, eIsi, eNot, eAnd, eOr, eChain, sRet, sSeq, sSet, sIf, sNx, sDrop, sRaise, sRetN, aCons, eB, eCall, eTup, eLst, eIf, bAnd, bOr, bNot, tst, allD, viewT, viewL, viewX, tyD, isiB, hName, hTup, hsCons, hsNil, iSeq, wipeS, sAsg, gLe, gLt, gGe, gGt, gSub, gI20, gIsN, gNotN, gNotB, newL, eCut, ePart, gCut, iZip2, sFor, iAny, gIntA, gInA, gMulA, gEqA, gNeA, hM.take]
end K05
end

section
set_option linter.all false
set_option maxRecDepth 100000
set_option maxHeartbeats 2000000
namespace K05
open PySem DL
theorem law_body {ns : List Int} {spot : Nat} {μ : List MO} (hl : ns.length ≤ 63) (hs : spot ≤ 10) : ∃ μ', lb_law_0 [.d (.scr ns), .d (.int spot)] μ = some (.nx [.d (.scr ns), .d (.int spot)] μ') := by
  obtain ⟨d, h1, h2⟩ := s_dice (μ := μ) hl hs
  obtain ⟨e, h3⟩ := s_right (sto_last μ) h1 (by omega)
  refine ⟨μ ++ [e.mo], ?_⟩
  unfold lb_law_0
  refine sIf_no (μ1 := μ ++ [e.mo]) ?_ rfl
  simp [eV_app, startS, eIsi, eNot, eAnd, eOr, eChain, sRet, sSeq, sSet, sIf, sNx, sDrop, sRaise, sRetN, aCons, eB, eCall, eTup, eLst, eIf, bAnd, bOr, bNot, tst, allD, viewT, viewL, viewX, tyD, isiB, hName, hTup, hsCons, hsNil, iSeq, wipeS, sAsg, gLe, gLt, gGe, gGt, gSub, gI20, gIsN, gNotN, gNotB, newL, eCut, ePart, gCut, iZip2, sFor, iAny, gIntA, gInA, gMulA, gEqA, gNeA, h2, h3]
theorem plain : ∀ ns : List Int, ns.length ≤ 63 → (∀ z ∈ ns, Builtin.Int.intBits z ≤ 1048576) → ∃ μ', g_law [.d (.scr ns)] [] = some (.ok (.d (.bl true)) μ') := by
  intro ns hl _
  have hk : (0 : Int) ≤ max 1 (min 6 (ns.length : Int)) ∧ max 1 (min 6 (ns.length : Int)) ≤ 6 := by omega
  obtain ⟨ρ', μ', e1, e2⟩ := forF_inv (h := hName 1) (b := lb_law_0) D.int (full := rgI 0 (max 1 (min 6 (ns.length : Int))))
    (fun done ρ μ' => ∃ b, ρ = [.d (.scr ns), b])
    (fun done x rest ρ μ' hf hI => by
      obtain ⟨b, rfl⟩ := hI
      obtain ⟨hx, hx2⟩ := rgI_split hf
      obtain ⟨μ2, h⟩ := law_body (ns := ns) (spot := done.length) (μ := μ') hl (by omega)
      have : x = (done.length : Int) := by omega
      subst this
      exact ⟨_, _, μ2, rfl, h, _, rfl⟩)
    (rgI 0 (max 1 (min 6 (ns.length : Int)))) [] [.d (.scr ns), .un] [] rfl ⟨.un, rfl⟩
  obtain ⟨b, rfl⟩ := e2
  refine ⟨[], ?_⟩
  have hi : iRg none (eB (gMax) (aCons (eC (.int 1)) (aCons (eB (gMin) (aCons (eC (.int 6)) (aCons (eB (gLen) (aCons (eV 0) aNil)) aNil))) aNil))) [.d (.scr ns), .un] [] = some (.ok ((rgI 0 (max 1 (min 6 (ns.length : Int)))).map .int) []) := by
    simp [eV_app, startS, eIsi, eNot, eAnd, eOr, eChain, sRet, sSeq, sSet, sIf, sNx, sDrop, sRaise, sRetN, aCons, eB, eCall, eTup, eLst, eIf, bAnd, bOr, bNot, tst, allD, viewT, viewL, viewX, tyD, isiB, hName, hTup, hsCons, hsNil, iSeq, wipeS, sAsg, gLe, gLt, gGe, gGt, gSub, gI20, gIsN, gNotN, gNotB, newL, eCut, ePart, gCut, iZip2, sFor, iAny, gIntA, gInA, gMulA, gEqA, gNeA, iRg, gMax, gMin, gLen]; omega
  show fin 0 (fb_law [.d (.scr ns), .un] []) = _
  have hem : ∀ ρ μ, (eC (.str "")) ρ μ = some (.ok (.d (.str "")) μ) := fun _ _ => rfl
  have rE : Real "" := fun c hc => by
    have : tl ("" : Str) = [] := by decide
    rw [this] at hc; simp [eV_app, startS, eIsi, eNot, eAnd, eOr, eChain, sRet, sSeq, sSet, sIf, sNx, sDrop, sRaise, sRetN, aCons, eB, eCall, eTup, eLst, eIf, bAnd, bOr, bNot, tst, allD, viewT, viewL, viewX, tyD, isiB, hName, hTup, hsCons, hsNil, iSeq, wipeS, sAsg, gLe, gLt, gGe, gGt, gSub, gI20, gIsN, gNotN, gNotB, newL, eCut, ePart, gCut, iZip2, sFor, iAny, gIntA, gInA, gMulA, gEqA, gNeA] at hc
  have lE : ("" : Str).length ≤ 1000 := by decide
  have q1 : mD (resM 0 (prt "") []) = .tup [.str "bad", .int 0] := by
    rw [prt_empty]
    have : okM "" = false := by decide
    simp [eV_app, startS, eIsi, eNot, eAnd, eOr, eChain, sRet, sSeq, sSet, sIf, sNx, sDrop, sRaise, sRetN, aCons, eB, eCall, eTup, eLst, eIf, bAnd, bOr, bNot, tst, allD, viewT, viewL, viewX, tyD, isiB, hName, hTup, hsCons, hsNil, iSeq, wipeS, sAsg, gLe, gLt, gGe, gGt, gSub, gI20, gIsN, gNotN, gNotB, newL, eCut, ePart, gCut, iZip2, sFor, iAny, gIntA, gInA, gMulA, gEqA, gNeA, resM, this, mD]
  have q2 : rD (resRR "") = .tup [.str "bad", .int 0] := by
    have hd : ¬ ("" : Str) = "-" := by
      intro h
      have := congrArg tl h
      rw [dash_tl] at this
      have e0 : tl ("" : Str) = [] := by decide
      rw [e0] at this; cases this
    unfold resRR
    rw [if_neg hd, prt_empty]
    have : okR (-1) (tl ("" : Str)) = none := by decide
    simp [eV_app, startS, eIsi, eNot, eAnd, eOr, eChain, sRet, sSeq, sSet, sIf, sNx, sDrop, sRaise, sRetN, aCons, eB, eCall, eTup, eLst, eIf, bAnd, bOr, bNot, tst, allD, viewT, viewL, viewX, tyD, isiB, hName, hTup, hsCons, hsNil, iSeq, wipeS, sAsg, gLe, gLt, gGe, gGt, gSub, gI20, gIsN, gNotN, gNotB, newL, eCut, ePart, gCut, iZip2, sFor, iAny, gIntA, gInA, gMulA, gEqA, gNeA, resR, this, rD]
  have m1 := fun ρ μ => met_machine (z := "") (fe := eC (.str "")) (ρ := ρ) (μ := μ) lE rfl
  have m2 := fun ρ μ => met_reading (z := "") (fe := eC (.str "")) (ρ := ρ) (μ := μ) lE rE rfl
  simp only [q1] at m1
  simp only [q2] at m2
  have hb : ∀ ρ μ, (eTup (aCons (eC (.str "bad")) (aCons (eC (.int 0)) aNil))) ρ μ = some (.ok (.d (.tup [.str "bad", .int 0])) μ) := fun _ _ => rfl
  have hq : ∀ μ, gEqA (.d (.tup [.str "bad", .int 0])) (.d (.tup [.str "bad", .int 0])) μ = some (.ok (.d (.bl true)) μ) := fun μ => gEq_same (by decide +kernel)
  have main : fb_law [.d (.scr ns), .un] [] = some (.ret (.d (.bl true)) μ') := by
    unfold fb_law
    refine sSeq_nx (ρ1 := [.d (.scr ns), b]) (μ1 := μ') ?_ ?_
    · unfold sFor; rw [hi]; exact e1
    · simp only [sRet, eAnd, e2_app, m1, m2, hb, bE_ok, hq, asB_ok']
  rw [main]; rfl
end K05
end


set_option Elab.async false
set_option linter.all false
set_option maxRecDepth 100000
set_option maxHeartbeats 0
open PySem PySem.W PySem.Calls PyProof.Rows
theorem PySem.Challenge.cw_surebag_k05_whole_texts_holds : PySem.Challenge.rw_surebag_k05_whole_texts.Holds := by
  w_on; o_law
  refine HandSHeadRun.head_any (r := K05.R) (q := view K05.R.prog [35]) (H := K05.hk) (ob := K05.ob) (M := 4000) (loose := K05.loose) (d := HandSHeadRun.topDef K05.R.prog 35) (kwd := []) K05.ob_eq
    (by kernel_rfl) (fun s => by kernel_rfl) K05.run (by kernel_rfl) (by kernel_rfl) (by kernel_rfl) (by rfl) (by first | assumption | decide +kernel) (by decide +kernel) ⟨rfl, rfl, rfl, rfl, rfl, by decide +kernel⟩ ?hw ?hc
  case hw => w_witness2
  case hc =>
    refine DL.walk_ofTsG (l := PySem.Challenge.rw_surebag_k05_whole_texts) (n := 63) (k := 13) (x := "script") (CX := fun w => L2.CX PySem.Challenge.rw_surebag_k05_whole_texts.prog w) rfl (by decide) (by kernel_rfl) ⟨rfl, by decide, by decide⟩ ?F (fun w H s e s' z => DL.noCX z)
    intro w mg fa h Y G hmg0
    obtain ⟨K, KX, c⟩ := Y
    have hmg : mg ("law" : PySem.Str) = some (.ref fa) := by
      have e : (HandSHeadRun.topDef K05.R.prog 35).name = ("law" : PySem.Str) := by kernel_rfl
      rw [← e]
      exact hmg0
    refine ⟨K, KX, ?_⟩
    obtain ⟨f0, fd0, hm0, hF0⟩ := (DL.st0_of c.t.d KX G ("law", 35) 23 23 rfl rfl : DL.St0 K mg "law" (K05.topS 35)).ex
    have ef : f0 = fa := Value.ref.inj (Option.some.inj (hm0.symm.trans hmg))
    subst ef
    refine ⟨⟨fd0, K05.tf.map (He.cT K), DL.spG K (K05.wd K) 1 K05.g_law, fun p hp => ?_, fun p hp => ?_, fun p hp => ?_, fun s u => ?_, fun H a ns hl hb hT hS => ?_, fun base KB GB TB => ?_⟩⟩
    · obtain ⟨q, hq, e⟩ := List.mem_map.mp hp
      rw [← e]; exact c.empty q hq
    · obtain ⟨q, hq, e⟩ := List.mem_map.mp hp
      rw [← e]; exact c.out q hq
    · obtain ⟨q, hq, e⟩ := List.mem_map.mp hp
      rw [← e]; exact codeHd_of_K KX (c.hd q hq)
    · obtain ⟨oc, od, kV, doc, pm, an, cdv, ct, osl, rfl, lk, hcd⟩ := hF0.ex
      exact BindsTo.of_eq (K05.bi_law kV doc pm an cdv ct [u] rfl)
    · refine DL.law_sp (fun p hp => ?_) hS (K05.plain ns hl hb)
      obtain ⟨q, hq, e⟩ := K05.wd_tabs K p hp
      have := hT (He.cT K q) (List.mem_map.mpr ⟨q, hq, rfl⟩)
      exact LamX.TabS.nil (by rw [e]; exact this)
    · obtain ⟨f1, fd1, hm1, hF1, hok⟩ := (K05.law_ok c KB GB TB).ex
      have ef : f1 = f0 := Value.ref.inj (Option.some.inj (hm1.symm.trans hmg))
      subst ef
      rw [DL.fun_uniq hF0 hF1]
      exact hok
