import PyProof.Rows.All
import Wide.All
import OpenK.AllK
import Wide.FinOn
import HandS.ForMost
import HandS.Walk
import HandS.TupAny
import HandS.Deep
import HandS.Style
import HandS.TupLe
import HandS.Wide
import HandS.IsInst
import HandS.Ends
import HandS.Words
import HandS.TupLen
import HandS.More
import HandS.NoneIn
import HandS.TupMul
import HandS.Conv
import HandS.Zip
import KE.SortData
import KE.KDictKeyed
import PyProof.Rows.TupDisplay
import KE.DataFind
import KE.DataCmp
import KE.DataMinMax
import KE.GoesMore
import PyProof.EnumMake
import PyProof.Claim2Refuses
import HandS.Strs
import PyProof.ReprRoads
import HandS.SetFor
import HandS.Keys
import HandS.Iter
import KE.KDictZip
import KE.KDictWalk
import PyProof.DictMoreH
import KE.DatumOrd
import PySem.Challenge.RW_flatbody_k37_squares
set_option Elab.async false
set_option linter.all false
set_option maxRecDepth 100000
namespace Ve
open PySem PySem.Spec L2

inductive D where
  | non | bl (b : Bool) | int (i : Int) | str (x : Str) | tup (ds : List D) | ref (n : Nat) | scr (ns : List Int) | wt (ds : List D)

inductive O where
  | lst (xs : List D) | dic (kvs : List (D × D)) | dicL (kvs : List (D × D))

abbrev Hd := List O
abbrev Ls := List (Option D)

def TpAt (H : Hp) (a : Addr) (vs : List V) : Prop := H a = some (.tup vs)
def WtAt (K : PySem.W.Frag) (a : Addr) (vs : List V) : Prop := ∃ (o : Obj) (its : Array Value) (n : Nat), K.lookup a = some o ∧ o.cls = .type "tuple" ∧ o.data = .seq its n ∧ its.size ≤ sizeLine ∧ Vals vs its.toList
theorem TpAt.sq {K : PySem.W.Frag} {H : Hp} {a : Addr} {vs : List V} (h : TpAt H a vs) : SqT K H a vs := .inl (.inl h)
theorem WtAt.sq {K : PySem.W.Frag} {H : Hp} {a : Addr} {vs : List V} (h : WtAt K a vs) : SqT K H a vs := .inr h
def ScAt (K : PySem.W.Frag) (H : Hp) (a : Addr) (vs : List V) : Prop :=
  (∃ o, H a = some (.frz o (.lst vs))) ∨ ∃ (o : Obj) (its : Array Value) (n : Nat), K.lookup a = some o ∧ o.cls = .type "list" ∧ o.dict = none ∧ o.data = .seq its n ∧ its.size ≤ sizeLine ∧ Vals vs its.toList
theorem ScAt.sq {K : PySem.W.Frag} {H : Hp} {a : Addr} {vs : List V} (h : ScAt K H a vs) : SqL K H a vs := h.elim (fun ⟨o, e⟩ => .inl (.inr ⟨o, e⟩)) .inr

mutual
def Rp (K : PySem.W.Frag) (H : Hp) (μ : List Addr) : D → V → Prop
  | .non, v => v = .non
  | .bl b, v => v = .bl b
  | .int i, v => v = .int i
  | .str x, v => v = .str x
  | .ref n, v => ∃ a, μ[n]? = some a ∧ v = .ref a
  | .scr ns, v => ∃ a, v = .ref a ∧ ScAt K H a (ns.map V.int)
  | .tup ds, v => ∃ a vs, v = .ref a ∧ TpAt H a vs ∧ Rps K H μ ds vs
  | .wt ds, v => ∃ a vs, v = .ref a ∧ WtAt K a vs ∧ Rps K H μ ds vs
def Rps (K : PySem.W.Frag) (H : Hp) (μ : List Addr) : List D → List V → Prop
  | [], vs => vs = []
  | d :: ds, vs => ∃ v r, vs = v :: r ∧ Rp K H μ d v ∧ Rps K H μ ds r
end

def toKey : D → Option Key
  | .int i => some (.inl i)
  | .str x => some (.inr x)
  | _ => none
def toKeys : List D → Option (List Key)
  | [] => some []
  | d :: ds => match toKey d, toKeys ds with
    | some k, some ks => some (k :: ks)
    | _, _ => none

def RpK (K : PySem.W.Frag) (H : Hp) (μ : List Addr) : List (D × D) → List (Key × V) → Prop
  | [], vs => vs = []
  | p :: ds, vs => ∃ k v r, vs = (k, v) :: r ∧ toKey p.1 = some k ∧ Rp K H μ p.2 v ∧ RpK K H μ ds r
def RpT (K : PySem.W.Frag) (H : Hp) (μ : List Addr) : List (D × D) → List (List Key × V) → Prop
  | [], vs => vs = []
  | p :: ds, vs => ∃ ks k v r, p.1 = .tup ks ∧ vs = (k, v) :: r ∧ toKeys ks = some k ∧ Rp K H μ p.2 v ∧ RpT K H μ ds r

def KNd : List (D × D) → Prop
  | [] => True
  | p :: r => (∀ q ∈ r, q.1 ≠ p.1) ∧ KNd r

def Ro (K : PySem.W.Frag) (H : Hp) (μ : List Addr) : O → Option HO → Prop
  | .lst xs, h => ∃ vs, h = some (.lst vs) ∧ Rps K H μ xs vs
  | .dic kvs, h => KNd kvs ∧ ((∃ vs, h = some (.dK vs) ∧ RpK K H μ kvs vs) ∨ ∃ vs, h = some (.dT vs) ∧ RpT K H μ kvs vs)
  | .dicL kvs, h => KNd kvs ∧ ((∃ o vs, h = some (.frz o (.dK vs)) ∧ RpK K H μ kvs vs) ∨ ∃ o vs, h = some (.frz o (.dT vs)) ∧ RpT K H μ kvs vs)

structure RelH (K : PySem.W.Frag) (H : Hp) (μ : List Addr) (hp : Hd) : Prop where
  len : μ.length = hp.length
  nd : μ.Nodup
  obj : ∀ (n : Nat) (o : O) (a : Addr), hp[n]? = some o → μ[n]? = some a → Ro K H μ o (H a)

structure Ext (μ : List Addr) (H : Hp) (μ' : List Addr) (H' : Hp) : Prop where
  pre : ∃ ν, μ' = μ ++ ν
  new : ∀ a o, a ∉ μ → H a = some o → a ∉ μ'
  keep : ∀ a o, a ∉ μ → H a = some o → H' a = some o
  tups : ∀ a xs, H a = some (.tup xs) → H' a = some (.tup xs)
  scrs : ∀ a o xs, H a = some (.frz o xs) → H' a = some (.frz o xs)

structure Mon (μ : List Addr) (H : Hp) (μ' : List Addr) (H' : Hp) : Prop where
  pre : ∃ ν, μ' = μ ++ ν
  tups : ∀ a xs, H a = some (.tup xs) → H' a = some (.tup xs)
  scrs : ∀ a o xs, H a = some (.frz o (.lst xs)) → H' a = some (.frz o (.lst xs))

def Rl (K : PySem.W.Frag) (H : Hp) (μ : List Addr) (ls : Ls) (σ : St) : Prop :=
  σ.length = ls.length ∧ ∀ (i : Nat) (d : D), ls[i]? = some (some d) → ∃ v, σ[i]? = some (some v) ∧ Rp K H μ d v

section
variable {K : PySem.W.Frag} {H H' H2 : Hp} {μ μ' μ2 : List Addr} {hp hp' : Hd} {ls : Ls} {σ : St}

theorem Ext.refl : Ext μ H μ H := ⟨⟨[], by simp⟩, fun _ _ h _ => h, fun _ _ _ h => h, fun _ _ h => h, fun _ _ _ h => h⟩
theorem Ext.trans (x : Ext μ H μ' H') (y : Ext μ' H' μ2 H2) : Ext μ H μ2 H2 := by
  obtain ⟨ν, e1⟩ := x.pre
  obtain ⟨ν2, e2⟩ := y.pre
  exact ⟨⟨ν ++ ν2, by rw [e2, e1, List.append_assoc]⟩, fun a o hn e => y.new a o (x.new a o hn e) (x.keep a o hn e), fun a o hn e => y.keep a o (x.new a o hn e) (x.keep a o hn e),
    fun a xs e => y.tups a xs (x.tups a xs e), fun a o xs e => y.scrs a o xs (x.scrs a o xs e)⟩
theorem Ext.m (x : Ext μ H μ' H') : Mon μ H μ' H' := ⟨x.pre, x.tups, fun a o xs e => x.scrs a o _ e⟩
theorem Mon.at_ (x : Mon μ H μ' H') {n : Nat} {a : Addr} (h : μ[n]? = some a) : μ'[n]? = some a := by
  obtain ⟨ν, e⟩ := x.pre
  rw [e, List.getElem?_append_left (List.getElem?_eq_some_iff.mp h).1]
  exact h
theorem TpAt.mon (x : Mon μ H μ' H') {a : Addr} {vs : List V} (h : TpAt H a vs) : TpAt H' a vs := x.tups _ _ h
theorem ScAt.mon (x : Mon μ H μ' H') {a : Addr} {vs : List V} (h : ScAt K H a vs) : ScAt K H' a vs := h.elim (fun ⟨o, e⟩ => .inl ⟨o, x.scrs _ _ _ e⟩) .inr
mutual
theorem Rp.mon (x : Mon μ H μ' H') : ∀ {d : D} {v : V}, Rp K H μ d v → Rp K H' μ' d v
  | .non, _, h => by rw [Rp] at *; exact h
  | .bl b, _, h => by rw [Rp] at *; exact h
  | .int i, _, h => by rw [Rp] at *; exact h
  | .str s, _, h => by rw [Rp] at *; exact h
  | .ref n, _, h => by
    rw [Rp] at *
    obtain ⟨a, e, r⟩ := h
    exact ⟨a, x.at_ e, r⟩
  | .scr ns, _, h => by
    rw [Rp] at *
    obtain ⟨a, e, r⟩ := h
    exact ⟨a, e, r.mon x⟩
  | .tup ds, _, h => by
    rw [Rp] at *
    obtain ⟨a, vs, e, t, r⟩ := h
    exact ⟨a, vs, e, t.mon x, Rps.mon x r⟩
  | .wt ds, _, h => by
    rw [Rp] at *
    obtain ⟨a, vs, e, t, r⟩ := h
    exact ⟨a, vs, e, t, Rps.mon x r⟩
theorem Rps.mon (x : Mon μ H μ' H') : ∀ {ds : List D} {vs : List V}, Rps K H μ ds vs → Rps K H' μ' ds vs
  | [], _, h => by rw [Rps] at *; exact h
  | d :: ds, _, h => by
    rw [Rps] at *
    obtain ⟨v, r, e, h1, h2⟩ := h
    exact ⟨v, r, e, Rp.mon x h1, Rps.mon x h2⟩
end
theorem RpK.mon (x : Mon μ H μ' H') : ∀ {ds : List (D × D)} {vs : List (Key × V)}, RpK K H μ ds vs → RpK K H' μ' ds vs
  | [], _, h => by rw [RpK] at *; exact h
  | d :: ds, _, h => by
    rw [RpK] at *
    obtain ⟨k, v, r, e, h1, h2, h3⟩ := h
    exact ⟨k, v, r, e, h1, h2.mon x, RpK.mon x h3⟩
theorem RpT.mon (x : Mon μ H μ' H') : ∀ {ds : List (D × D)} {vs : List (List Key × V)}, RpT K H μ ds vs → RpT K H' μ' ds vs
  | [], _, h => by rw [RpT] at *; exact h
  | d :: ds, _, h => by
    rw [RpT] at *
    obtain ⟨ks, k, v, r, e0, e, h1, h2, h3⟩ := h
    exact ⟨ks, k, v, r, e0, e, h1, h2.mon x, RpT.mon x h3⟩
theorem Rl.mon (x : Mon μ H μ' H') (h : Rl K H μ ls σ) : Rl K H' μ' ls σ := ⟨h.1, fun i d e => let ⟨v, e1, r⟩ := h.2 i d e; ⟨v, e1, r.mon x⟩⟩
theorem Ro.mon (x : Mon μ H μ' H') {o : O} {h : Option HO} (r : Ro K H μ o h) : Ro K H' μ' o h := by
  cases o with
  | lst xs => obtain ⟨vs, e, q⟩ := r; exact ⟨vs, e, q.mon x⟩
  | dic kvs =>
    rcases r with ⟨nd, ⟨vs, e, q⟩ | ⟨vs, e, q⟩⟩
    · exact ⟨nd, .inl ⟨vs, e, q.mon x⟩⟩
    · exact ⟨nd, .inr ⟨vs, e, q.mon x⟩⟩
  | dicL kvs =>
    rcases r with ⟨nd, ⟨o, vs, e, q⟩ | ⟨o, vs, e, q⟩⟩
    · exact ⟨nd, .inl ⟨o, vs, e, q.mon x⟩⟩
    · exact ⟨nd, .inr ⟨o, vs, e, q.mon x⟩⟩
theorem Ro.some {o : O} {h : Option HO} (r : Ro K H μ o h) : ∃ u, h = some u ∧ ∀ xs, u ≠ .tup xs := by
  cases o with
  | lst xs => obtain ⟨vs, e, q⟩ := r; exact ⟨_, e, fun _ z => nomatch z⟩
  | dic kvs =>
    rcases r with ⟨nd, ⟨vs, e, q⟩ | ⟨vs, e, q⟩⟩ <;> exact ⟨_, e, fun _ z => nomatch z⟩
  | dicL kvs =>
    rcases r with ⟨nd, ⟨o, vs, e, q⟩ | ⟨o, vs, e, q⟩⟩ <;> exact ⟨_, e, fun _ z => nomatch z⟩
theorem Rp.ext (x : Ext μ H μ' H') {d : D} {v : V} (h : Rp K H μ d v) : Rp K H' μ' d v := h.mon x.m
theorem Rps.ext (x : Ext μ H μ' H') {d : List D} {v : List V} (h : Rps K H μ d v) : Rps K H' μ' d v := h.mon x.m
theorem Rl.ext (x : Ext μ H μ' H') (h : Rl K H μ ls σ) : Rl K H' μ' ls σ := h.mon x.m
theorem TpAt.ext (x : Ext μ H μ' H') {a : Addr} {vs : List V} (h : TpAt H a vs) : TpAt H' a vs := h.mon x.m
theorem RelH.at_ (r : RelH K H μ hp) {n : Nat} {o : O} (h : hp[n]? = some o) : ∃ a, μ[n]? = some a ∧ Ro K H μ o (H a) := by
  have hl := (List.getElem?_eq_some_iff.mp h).1
  rw [← r.len] at hl
  exact ⟨μ[n], List.getElem?_eq_getElem hl, r.obj n o _ h (List.getElem?_eq_getElem hl)⟩
theorem RelH.taken (r : RelH K H μ hp) {a : Addr} (h : a ∈ μ) : ∃ u, H a = some u ∧ ∀ xs, u ≠ .tup xs := by
  obtain ⟨n, hn, e⟩ := List.mem_iff_getElem.mp h
  have hn' : n < hp.length := by rw [← r.len]; exact hn
  exact (r.obj n hp[n] a (List.getElem?_eq_getElem hn') (by rw [List.getElem?_eq_getElem hn, e])).some
theorem RelH.notIn (r : RelH K H μ hp) {a : Addr} (h : H a = none) : a ∉ μ := fun m => by
  obtain ⟨u, e, _⟩ := r.taken m
  rw [h] at e
  cases e
theorem Ext.laid (r : RelH K H μ hp) {p : Addr} {o : HO} (h : H p = none) : Ext μ H μ (upd H p o) :=
  ⟨⟨[], by simp⟩, fun _ _ n _ => n, fun a u _ e => by rw [upd_ne (ne_of_none e h)]; exact e, fun a xs e => by rw [upd_ne (ne_of_none e h)]; exact e, fun a o xs e => by rw [upd_ne (ne_of_none e h)]; exact e⟩
theorem RelH.laid (r : RelH K H μ hp) {p : Addr} {o : HO} (h : H p = none) : RelH K (upd H p o) μ hp :=
  ⟨r.len, r.nd, fun n ob a e1 e2 => by
    have q := r.obj n ob a e1 e2
    obtain ⟨u, e, _⟩ := q.some
    rw [upd_ne (ne_of_none e h)]
    exact q.mon (Ext.laid r h).m⟩
theorem Mon.grow {p : Addr} : Mon μ H (μ ++ [p]) H := ⟨⟨[p], rfl⟩, fun _ _ e => e, fun _ _ _ e => e⟩
theorem Ext.place {p : Addr} (x : Ext μ H μ' H') (hp0 : H p = none) : Ext μ H (μ' ++ [p]) H' := by
  obtain ⟨ν, e⟩ := x.pre
  refine ⟨⟨ν ++ [p], by rw [e, List.append_assoc]⟩, fun a o n e1 hm => ?_, x.keep, x.tups, x.scrs⟩
  rcases List.mem_append.mp hm with hm | hm
  · exact x.new a o n e1 hm
  · have : a = p := by simpa using hm
    subst this
    rw [hp0] at e1
    cases e1
theorem RelH.place (r : RelH K H μ hp) {p : Addr} {o : O} (hn : p ∉ μ) (q : Ro K H (μ ++ [p]) o (H p)) : RelH K H (μ ++ [p]) (hp ++ [o]) := by
  refine ⟨by simp [r.len], List.nodup_append.mpr ⟨r.nd, by simp, fun a ha b hb => ?_⟩, fun n ob a e1 e2 => ?_⟩
  · have : b = p := by simpa using hb
    subst this
    intro e
    subst e
    exact hn ha
  · by_cases hl : n < hp.length
    · rw [List.getElem?_append_left hl] at e1
      rw [List.getElem?_append_left (by rw [r.len]; exact hl)] at e2
      exact (r.obj n ob a e1 e2).mon Mon.grow
    · have hl2 : n < (hp ++ [o]).length := (List.getElem?_eq_some_iff.mp e1).1
      have : n = hp.length := by
        simp at hl2
        omega
      subst this
      rw [List.getElem?_append_right (Nat.le_refl _)] at e1
      rw [List.getElem?_append_right (by rw [r.len]; exact Nat.le_refl _)] at e2
      simp [r.len] at e1 e2
      subst e1; subst e2
      exact q
theorem RelH.put (r : RelH K H μ hp) {n : Nat} {a : Addr} {o : O} {u : HO} (h : μ[n]? = some a) (q : Ro K (upd H a u) μ o (some u)) {u1 : HO} (e1 : H a = some u1 := by assumption) (nf : ∀ ob w, u1 ≠ .frz ob w := by intro _ _ z; exact nomatch z) : RelH K (upd H a u) μ (hp.set n o) ∧ Ext μ H μ (upd H a u) := by
  have ha : a ∈ μ := List.mem_of_getElem? h
  obtain ⟨u0, e0, nt⟩ := r.taken ha
  have x : Ext μ H μ (upd H a u) := by
    refine ⟨⟨[], by simp⟩, fun _ _ n _ => n, fun b v hb e => ?_, fun b xs e => ?_, fun b ob xs e => ?_⟩
    · rw [upd_ne (show b ≠ a from fun z => hb (by rw [z]; exact ha))]
      exact e
    · rw [upd_ne (fun z => ?_)]
      · exact e
      · subst z
        rw [e0] at e
        exact nt _ (Option.some.inj e)
    · rw [upd_ne (fun z => ?_)]
      · exact e
      · subst z
        rw [e1] at e
        exact nf _ _ (Option.some.inj e)
  refine ⟨⟨by simp [r.len], r.nd, fun m ob b e1 e2 => ?_⟩, x⟩
  by_cases hm : m = n
  · subst hm
    rw [h] at e2
    cases e2
    have hl : m < hp.length := by rw [← r.len]; exact (List.getElem?_eq_some_iff.mp h).1
    rw [List.getElem?_set_self hl] at e1
    cases e1
    rw [upd_same]
    exact q
  · rw [List.getElem?_set_ne (Ne.symm hm)] at e1
    have hb : b ≠ a := fun z => by
      subst z
      obtain ⟨h1, h2⟩ := List.getElem?_eq_some_iff.mp h
      obtain ⟨h3, h4⟩ := List.getElem?_eq_some_iff.mp e2
      exact hm ((List.getElem_inj r.nd).mp (h4.trans h2.symm))
    rw [upd_ne hb]
    exact (r.obj m ob b e1 e2).mon x.m
end
end Ve
namespace Ve
open PySem PySem.Spec L2

abbrev AE := Ls → Hd → Option (D × Hd)
abbrev AT := Ls → Hd → Option (Bool × Hd)
abbrev AA := Ls → Hd → Option (List D × Hd)

def tD (K : PySem.W.Frag) (f : AE) : TE := fun σ H Q => ∃ ls hp μ d hp', Rl K H μ ls σ ∧ RelH K H μ hp ∧ f ls hp = some (d, hp') ∧
  ∀ v H' μ', Ext μ H μ' H' → RelH K H' μ' hp' → Rp K H' μ' d v → Q v H'
def tT (K : PySem.W.Frag) (f : AT) : TT := fun σ H Q => ∃ ls hp μ b hp', Rl K H μ ls σ ∧ RelH K H μ hp ∧ f ls hp = some (b, hp') ∧
  ∀ H' μ', Ext μ H μ' H' → RelH K H' μ' hp' → Q b H'
def tAs (K : PySem.W.Frag) (f : AA) : TA := fun σ H Q => ∃ ls hp μ ds hp', Rl K H μ ls σ ∧ RelH K H μ hp ∧ f ls hp = some (ds, hp') ∧
  ∀ vs H' μ', Ext μ H μ' H' → RelH K H' μ' hp' → Rps K H' μ' ds vs → Q vs H'
def tL (K : PySem.W.Frag) (f : AA) : TE := fun σ H Q => ∃ ls hp μ ds hp', Rl K H μ ls σ ∧ RelH K H μ hp ∧ f ls hp = some (ds, hp') ∧
  ∀ a vs H' μ', Ext μ H μ' H' → RelH K H' μ' hp' → H a = none → a ∉ μ' → H' a = some (.lst vs) → Rps K H' μ' ds vs → Q (.ref a) H'
abbrev DE (X : Cx) (e : Expr) (f : AE) : Prop := PE X e (tD X.K f)
abbrev DT (X : Cx) (e : Expr) (f : AT) : Prop := PT X e (tT X.K f)
abbrev DW (X : Cx) (e : Expr) (f : AT) : Prop := PW X e (tT X.K f)
abbrev DA (X : Cx) (es : List Expr) (f : AA) : Prop := PA X es (tAs X.K f)
abbrev LE (X : Cx) (e : Expr) (f : AA) : Prop := PE X e (tL X.K f)

theorem PE.imp {X : Cx} {e : Expr} {t t' : TE} (h : PE X e t) (i : ∀ σ H Q, t' σ H Q → t σ H Q) : PE X e t' := ⟨fun pins s σ H Q I q => h.run pins s σ H Q I (i σ H Q q)⟩
theorem PT.imp {X : Cx} {e : Expr} {t t' : TT} (h : PT X e t) (i : ∀ σ H Q, t' σ H Q → t σ H Q) : PT X e t' := ⟨fun pins s σ H Q I q => h.run pins s σ H Q I (i σ H Q q)⟩
theorem PW.imp {X : Cx} {e : Expr} {t t' : TT} (h : PW X e t) (i : ∀ σ H Q, t' σ H Q → t σ H Q) : PW X e t' := ⟨fun w pins s σ H Q I q => h.run w pins s σ H Q I (i σ H Q q)⟩
theorem PA.imp {X : Cx} {e : List Expr} {t t' : TA} (h : PA X e t) (i : ∀ σ H Q, t' σ H Q → t σ H Q) : PA X e t' := ⟨fun p pins s σ H Q I q => h.run p pins s σ H Q I (i σ H Q q)⟩
theorem PS.imp {X : Cx} {e : Stmt} {t t' : TS} (h : PS X e t) (i : ∀ D σ H, t' D σ H → t D σ H) : PS X e t' := ⟨fun pins s σ H Q I q => h.run pins s σ H Q I (i Q σ H q)⟩
theorem PSs.imp {X : Cx} {e : List Stmt} {t t' : TS} (h : PSs X e t) (i : ∀ D σ H, t' D σ H → t D σ H) : PSs X e t' := ⟨fun pins s σ H Q I q => h.run pins s σ H Q I (i Q σ H q)⟩

def mVar (i : Nat) : AE := fun ls hp => match ls[i]? with
  | some (some d) => some (d, hp)
  | _ => none
def mC (d : D) : AE := fun _ hp => some (d, hp)
def m2 (fa fb : AE) (g : D → D → Hd → Option (D × Hd)) : AE := fun ls hp => match fa ls hp with
  | some (a, hp1) => match fb ls hp1 with
    | some (b, hp2) => g a b hp2
    | none => none
  | none => none
def m1 (fa : AE) (g : D → Hd → Option (D × Hd)) : AE := fun ls hp => match fa ls hp with
  | some (a, hp1) => g a hp1
  | none => none
def mT (fa : AE) : AT := fun ls hp => match fa ls hp with
  | some (.bl b, hp1) => some (b, hp1)
  | _ => none
def mTE (fa : AT) : AE := fun ls hp => match fa ls hp with
  | some (b, hp1) => some (.bl b, hp1)
  | _ => none
def mNil : AA := fun _ hp => some ([], hp)
def mCons (fa : AE) (fr : AA) : AA := fun ls hp => match fa ls hp with
  | some (a, hp1) => match fr ls hp1 with
    | some (r, hp2) => some (a :: r, hp2)
    | none => none
  | none => none
def mAs (fa : AA) (g : List D → Hd → Option (D × Hd)) : AE := fun ls hp => match fa ls hp with
  | some (a, hp1) => g a hp1
  | none => none
def mNew (f : AA) : AE := fun ls hp => match f ls hp with
  | some (ds, hp1) => some (.ref hp1.length, hp1 ++ [.lst ds])
  | none => none

section
variable {X : Cx} {e a b : Expr} {es : List Expr} {fa fb : AE} {ft : AT} {fr : AA} {pos : Pos}

theorem de_var (i : Nat) {x : Str} (hN : X.N[i]? = some x := by rfl) (hv : Vis X.env.scope x := by first | exact Or.inl rfl | exact Or.inr (Or.inl rfl) | exact Or.inr (Or.inr rfl))
    (hd : (x == ("__debug__" : Str)) = false := by decide) (hcd : (x == ("__classdict__" : Str)) = false := by decide) : DE X (.Name x pos) (mVar i) :=
  PE.imp (pe_var hN hv hd hcd) fun σ H Q ⟨ls, hp, μ, d, hp', rl, rh, e, q⟩ => by
    unfold mVar at e
    split at e
    · rename_i d' e1
      cases e
      obtain ⟨v, e2, r⟩ := rl.2 i _ e1
      exact ⟨v, e2, q v H μ Ext.refl rh r⟩
    · cases e
theorem de_c {v : V} {d : D} {e : Expr} (h : PE X e (tC v)) (hd : ∀ H μ, Rp X.K H μ d v) : DE X e (mC d) :=
  PE.imp h fun σ H Q ⟨ls, hp, μ, d', hp', rl, rh, e, q⟩ => by
    cases e
    exact q v H μ Ext.refl rh (hd H μ)
theorem de_int {i j} : DE X (.Constant (.int i) j pos) (mC (.int i)) := de_c pe_int fun _ _ => by rw [Rp]
theorem de_bl {c j} : DE X (.Constant (.bool c) j pos) (mC (.bl c)) := de_c pe_bl fun _ _ => by rw [Rp]
theorem de_non {j} : DE X (.Constant .none j pos) (mC .non) := de_c pe_non fun _ _ => by rw [Rp]
theorem de_str {x j} : DE X (.Constant (.str x) j pos) (mC (.str x)) := de_c pe_str fun _ _ => by rw [Rp]

def RD (K : PySem.W.Frag) (g : D → D → Hd → Option (D × Hd)) : R2 := fun x y H Q => ∃ hp μ d1 d2 d hp', RelH K H μ hp ∧ Rp K H μ d1 x ∧ Rp K H μ d2 y ∧ g d1 d2 hp = some (d, hp') ∧
  ∀ v H' μ', Ext μ H μ' H' → RelH K H' μ' hp' → Rp K H' μ' d v → Q v H'
def RD1 (K : PySem.W.Frag) (g : D → Hd → Option (D × Hd)) : V → Hp → VK → Prop := fun x H Q => ∃ hp μ d1 d hp', RelH K H μ hp ∧ Rp K H μ d1 x ∧ g d1 hp = some (d, hp') ∧
  ∀ v H' μ', Ext μ H μ' H' → RelH K H' μ' hp' → Rp K H' μ' d v → Q v H'
def RDs (K : PySem.W.Frag) (g : List D → Hd → Option (D × Hd)) : List V → Hp → VK → Prop := fun xs H Q => ∃ hp μ ds d hp', RelH K H μ hp ∧ Rps K H μ ds xs ∧ g ds hp = some (d, hp') ∧
  ∀ v H' μ', Ext μ H μ' H' → RelH K H' μ' hp' → Rp K H' μ' d v → Q v H'

theorem tOp_of {K : PySem.W.Frag} {g : D → D → Hd → Option (D × Hd)} {σ : St} {H : Hp} {Q : VK} (h : tD K (m2 fa fb g) σ H Q) : tOp (RD K g) (tD K fa) (tD K fb) σ H Q := by
  obtain ⟨ls, hp, μ, d, hp', rl, rh, e, q⟩ := h
  unfold m2 at e
  cases e1 : fa ls hp with
  | none => rw [e1] at e; cases e
  | some p1 =>
    obtain ⟨d1, hp1⟩ := p1
    rw [e1] at e
    dsimp only at e
    cases e2 : fb ls hp1 with
    | none => rw [e2] at e; cases e
    | some p2 =>
      obtain ⟨d2, hp2⟩ := p2
      rw [e2] at e
      dsimp only at e
      exact ⟨ls, hp, μ, d1, hp1, rl, rh, e1, fun v1 H1 μ1 x1 rh1 r1 => ⟨ls, hp1, μ1, d2, hp2, rl.ext x1, rh1, e2, fun v2 H2 μ2 x2 rh2 r2 =>
        ⟨hp2, μ2, d1, d2, d, hp', rh2, r1.ext x2, r2, e, fun v H' μ' x3 rh3 r3 => q v H' μ' ((x1.trans x2).trans x3) rh3 r3⟩⟩⟩
theorem tUn_of {K : PySem.W.Frag} {g : D → Hd → Option (D × Hd)} {σ : St} {H : Hp} {Q : VK} (h : tD K (m1 fa g) σ H Q) : tUn (RD1 K g) (tD K fa) σ H Q := by
  obtain ⟨ls, hp, μ, d, hp', rl, rh, e, q⟩ := h
  unfold m1 at e
  cases e1 : fa ls hp with
  | none => rw [e1] at e; cases e
  | some p1 =>
    obtain ⟨d1, hp1⟩ := p1
    rw [e1] at e
    dsimp only at e
    exact ⟨ls, hp, μ, d1, hp1, rl, rh, e1, fun v1 H1 μ1 x1 rh1 r1 => ⟨hp1, μ1, d1, d, hp', rh1, r1, e, fun v H' μ' x3 rh3 r3 => q v H' μ' (x1.trans x3) rh3 r3⟩⟩
theorem tCB_of {K : PySem.W.Frag} {g : List D → Hd → Option (D × Hd)} {σ : St} {H : Hp} {Q : VK} (h : tD K (mAs fr g) σ H Q) : tCB (RDs K g) (tAs K fr) σ H Q := by
  obtain ⟨ls, hp, μ, d, hp', rl, rh, e, q⟩ := h
  unfold mAs at e
  cases e1 : fr ls hp with
  | none => rw [e1] at e; cases e
  | some p1 =>
    obtain ⟨d1, hp1⟩ := p1
    rw [e1] at e
    dsimp only at e
    exact ⟨ls, hp, μ, d1, hp1, rl, rh, e1, fun v1 H1 μ1 x1 rh1 r1 => ⟨hp1, μ1, d1, d, hp', rh1, r1, e, fun v H' μ' x3 rh3 r3 => q v H' μ' (x1.trans x3) rh3 r3⟩⟩

theorem de_op {op : Operator} {g : D → D → Hd → Option (D × Hd)} (ho : OpR X (binaryOp op) (RD X.K g)) (ha : DE X a fa) (hb : DE X b fb) : DE X (.BinOp a op b pos) (m2 fa fb g) :=
  PE.imp (pe_op ho ha hb) fun _ _ _ h => tOp_of h
theorem de_un {op : UnaryOp} {g : D → Hd → Option (D × Hd)} (ho : UnR X (unaryOp op) (RD1 X.K g)) (ha : DE X a fa) : DE X (.UnaryOp op a pos) (m1 fa g) :=
  PE.imp (pe_un ho ha) fun _ _ _ h => tUn_of h
theorem de_cmp {op : CmpOp} {g : D → D → Hd → Option (D × Hd)} (ho : OpR X (compareOp op) (RD X.K g)) (ha : DE X a fa) (hb : DE X b fb) (hm : behindInMarks op b = false) : DE X (.Compare a [op] [b] pos) (m2 fa fb g) :=
  PE.imp (pe_cmpR ho ha hb hm) fun _ _ _ h => tOp_of h
theorem tTest_of {K : PySem.W.Frag} {t : TE} {f : AE} {σ : St} {H : Hp} {Q : Bool → Hp → Prop} (i : ∀ σ H Q, tD K f σ H Q → t σ H Q) (h : tT K (mT f) σ H Q) : tTest t σ H Q := by
  obtain ⟨ls, hp, μ, c, hp', rl, rh, e, q⟩ := h
  unfold mT at e
  split at e
  · rename_i c' hp1 e1
    cases e
    refine i _ _ _ ⟨ls, hp, μ, .bl c, hp', rl, rh, e1, fun v H' μ' x1 rh1 r1 => ?_⟩
    rw [Rp] at r1
    exact ⟨c, r1, q H' μ' x1 rh1⟩
  · cases e
theorem dt_cmp {op : CmpOp} {g : D → D → Hd → Option (D × Hd)} (ho : OpR X (compareOp op) (RD X.K g)) (ha : DE X a fa) (hb : DE X b fb) (hm : behindInMarks op b = false) : DT X (.Compare a [op] [b] pos) (mT (m2 fa fb g)) :=
  PT.imp (pt_cmpR ho ha hb hm) fun _ _ _ h => tTest_of (fun _ _ _ h => tOp_of h) h

theorem da_nil : DA X [] mNil := PA.imp pa_nil fun σ H Q ⟨ls, hp, μ, ds, hp', rl, rh, e, q⟩ => by
  cases e
  exact q [] H μ Ext.refl rh (by rw [Rps])
theorem da_cons (ha : DE X e fa) (hr : DA X es fr) (hs : starEach (e :: es) X.env = (false, eval e X.env) :: starEach es X.env := by rfl) : DA X (e :: es) (mCons fa fr) :=
  PA.imp (pa_cons ha hr hs) fun σ H Q ⟨ls, hp, μ, ds, hp', rl, rh, e, q⟩ => by
    unfold mCons at e
    cases e1 : fa ls hp with
    | none => rw [e1] at e; cases e
    | some p1 =>
      obtain ⟨d1, hp1⟩ := p1
      rw [e1] at e
      dsimp only at e
      cases e2 : fr ls hp1 with
      | none => rw [e2] at e; cases e
      | some p2 =>
        obtain ⟨d2, hp2⟩ := p2
        rw [e2] at e
        cases e
        exact ⟨ls, hp, μ, d1, hp1, rl, rh, e1, fun v1 H1 μ1 x1 rh1 r1 => ⟨ls, hp1, μ1, d2, hp', rl.ext x1, rh1, e2, fun v2 H2 μ2 x2 rh2 r2 =>
          q _ H2 μ2 (x1.trans x2) rh2 (by rw [Rps]; exact ⟨v1, v2, rfl, r1.ext x2, r2⟩)⟩⟩
theorem Rps.len {K : PySem.W.Frag} {H : Hp} {μ : List Addr} : ∀ {ds : List D} {vs : List V}, Rps K H μ ds vs → vs.length = ds.length
  | [], vs, h => by rw [Rps] at h; rw [h]; rfl
  | d :: ds, vs, h => by
    rw [Rps] at h
    obtain ⟨v, r, e, _, h2⟩ := h
    rw [e, List.length_cons, List.length_cons, Rps.len h2]
def mTup (fr : AA) : AE := fun ls hp => match fr ls hp with
  | some (ds, hp1) => if ds.length ≤ sizeLine then some (.tup ds, hp1) else none
  | none => none
def mLst (fr : AA) : AA := fun ls hp => match fr ls hp with
  | some (ds, hp1) => if ds.length ≤ sizeLine then some (ds, hp1) else none
  | none => none
theorem de_tup {x1} (h : DA X es fr) : DE X (.Tuple es x1 pos) (mTup fr) :=
  PE.imp (pe_tup h) fun σ H Q ⟨ls, hp, μ, d, hp', rl, rh, e, q⟩ => by
    unfold mTup at e
    cases e1 : fr ls hp with
    | none => rw [e1] at e; cases e
    | some p1 =>
      obtain ⟨ds, hp1⟩ := p1
      rw [e1] at e
      dsimp only at e
      split at e
      · rename_i hl
        cases e
        refine ⟨ls, hp, μ, ds, hp', rl, rh, e1, fun vs H1 μ1 x1 rh1 r1 => ⟨by rw [r1.len]; exact hl, fun p hp0 => ?_⟩⟩
        have x2 := Ext.laid rh1 (o := .tup vs) hp0
        exact q _ _ μ1 (x1.trans x2) (rh1.laid hp0) (by rw [Rp]; exact ⟨p, vs, rfl, upd_same, r1.ext x2⟩)
      · cases e
theorem le_lst (h : DA X es fr) : LE X (.List es pos) (mLst fr) :=
  PE.imp (pe_lst h) fun σ H Q ⟨ls, hp, μ, d, hp', rl, rh, e, q⟩ => by
    unfold mLst at e
    cases e1 : fr ls hp with
    | none => rw [e1] at e; cases e
    | some p1 =>
      obtain ⟨ds, hp1⟩ := p1
      rw [e1] at e
      dsimp only at e
      split at e
      · rename_i hl
        cases e
        refine ⟨ls, hp, μ, d, hp', rl, rh, e1, fun vs H1 μ1 x1 rh1 r1 => ⟨by rw [r1.len]; exact hl, fun p hp0 => ?_⟩⟩
        have x2 := Ext.laid rh1 (o := .lst vs) hp0
        have h0 : H p = none := by
          cases hh : H p with
          | none => rfl
          | some o =>
            exfalso
            by_cases hm : p ∈ μ
            · exact rh1.notIn hp0 (by
                obtain ⟨ν, e⟩ := x1.pre
                rw [e]
                exact List.mem_append_left _ hm)
            · have := x1.keep p o hm hh
              rw [hp0] at this
              cases this
        exact q p vs _ μ1 (x1.trans x2) (rh1.laid hp0) h0 (rh1.notIn hp0) upd_same (r1.ext x2)
      · cases e
theorem de_new {f : AA} (h : LE X e f) : DE X e (mNew f) :=
  PE.imp h fun σ H Q ⟨ls, hp, μ, d, hp', rl, rh, e, q⟩ => by
    unfold mNew at e
    cases e1 : f ls hp with
    | none => rw [e1] at e; cases e
    | some p1 =>
      obtain ⟨ds, hp1⟩ := p1
      rw [e1] at e
      cases e
      refine ⟨ls, hp, μ, ds, hp1, rl, rh, e1, fun a vs H1 μ1 x1 rh1 h0 hn hl r1 => ?_⟩
      refine q (.ref a) H1 (μ1 ++ [a]) (x1.place h0) (rh1.place hn ⟨vs, hl, r1.mon Mon.grow⟩) ?_
      rw [Rp]
      refine ⟨a, ?_, rfl⟩
      rw [List.getElem?_append_right (by rw [rh1.len]; exact Nat.le_refl _), rh1.len]
      simp
end
end Ve
namespace Ve
open PySem PySem.Spec L2

def gI (c : Int → Int → Bool) (g : Int → Int → D) : D → D → Hd → Option (D × Hd)
  | .int i, .int j, hp => if c i j then some (g i j, hp) else none
  | _, _, _ => none
theorem gI_some {c : Int → Int → Bool} {g : Int → Int → D} {a b d : D} {hp hp' : Hd} (h : gI c g a b hp = some (d, hp')) : ∃ i j, a = .int i ∧ b = .int j ∧ c i j = true ∧ d = g i j ∧ hp' = hp := by
  unfold gI at h
  split at h
  · rename_i i j
    split at h
    · rename_i hc
      cases h
      exact ⟨i, j, rfl, rfl, hc, rfl, rfl⟩
    · cases h
  · cases h
theorem Rp.intE {K : PySem.W.Frag} {H : Hp} {μ : List Addr} {i : Int} {v : V} (h : Rp K H μ (.int i) v) : v = .int i := by rw [Rp] at h; exact h
theorem Rp.blE {K : PySem.W.Frag} {H : Hp} {μ : List Addr} {i : Bool} {v : V} (h : Rp K H μ (.bl i) v) : v = .bl i := by rw [Rp] at h; exact h
theorem Rp.nonE {K : PySem.W.Frag} {H : Hp} {μ : List Addr} {v : V} (h : Rp K H μ .non v) : v = .non := by rw [Rp] at h; exact h
theorem Rp.strE {K : PySem.W.Frag} {H : Hp} {μ : List Addr} {i : Str} {v : V} (h : Rp K H μ (.str i) v) : v = .str i := by rw [Rp] at h; exact h
theorem Rp.refE {K : PySem.W.Frag} {H : Hp} {μ : List Addr} {n : Nat} {v : V} (h : Rp K H μ (.ref n) v) : ∃ a, μ[n]? = some a ∧ v = .ref a := by rw [Rp] at h; exact h
theorem Rp.scrE {K : PySem.W.Frag} {H : Hp} {μ : List Addr} {ns : List Int} {v : V} (h : Rp K H μ (.scr ns) v) : ∃ a, v = .ref a ∧ ScAt K H a (ns.map V.int) := by rw [Rp] at h; exact h
theorem Rp.tupE {K : PySem.W.Frag} {H : Hp} {μ : List Addr} {ds : List D} {v : V} (h : Rp K H μ (.tup ds) v) : ∃ a vs, v = .ref a ∧ TpAt H a vs ∧ Rps K H μ ds vs := by rw [Rp] at h; exact h
theorem Rp.wtE {K : PySem.W.Frag} {H : Hp} {μ : List Addr} {ds : List D} {v : V} (h : Rp K H μ (.wt ds) v) : ∃ a vs, v = .ref a ∧ WtAt K a vs ∧ Rps K H μ ds vs := by rw [Rp] at h; exact h
theorem Rp.int {K : PySem.W.Frag} {H : Hp} {μ : List Addr} {i : Int} : Rp K H μ (.int i) (.int i) := by rw [Rp]
theorem Rp.bl {K : PySem.W.Frag} {H : Hp} {μ : List Addr} {i : Bool} : Rp K H μ (.bl i) (.bl i) := by rw [Rp]
theorem Rp.non {K : PySem.W.Frag} {H : Hp} {μ : List Addr} : Rp K H μ .non .non := by rw [Rp]
theorem Rp.str {K : PySem.W.Frag} {H : Hp} {μ : List Addr} {i : Str} : Rp K H μ (.str i) (.str i) := by rw [Rp]

section
variable {X : Cx}
theorem op_gI {f : Value → Value → Sem Value} {C : Int → Int → Prop} {c : Int → Int → Bool} {g : Int → Int → Int} (h : OpR X f (rI C fun i j => .int (g i j))) (hc : ∀ i j, c i j = true → C i j) :
    OpR X f (RD X.K (gI c fun i j => .int (g i j))) := fun pins s σ H x y v u Q I rx ry ⟨hp, μ, d1, d2, d, hp', rh, r1, r2, e, q⟩ => by
  obtain ⟨i, j, rfl, rfl, c1, rfl, rfl⟩ := gI_some e
  exact h pins s σ H x y v u Q I rx ry ⟨i, j, r1.intE, r2.intE, hc i j c1, q _ H μ Ext.refl rh Rp.int⟩
theorem op_gI0 {f : Value → Value → Sem Value} {c : Int → Int → Bool} {g : Int → Int → Int} (h : OpR X f (rI0 fun i j => .int (g i j))) :
    OpR X f (RD X.K (gI c fun i j => .int (g i j))) := fun pins s σ H x y v u Q I rx ry ⟨hp, μ, d1, d2, d, hp', rh, r1, r2, e, q⟩ => by
  obtain ⟨i, j, rfl, rfl, c1, rfl, rfl⟩ := gI_some e
  exact h pins s σ H x y v u Q I rx ry ⟨i, j, r1.intE, r2.intE, q _ H μ Ext.refl rh Rp.int⟩
theorem op_gB0 {f : Value → Value → Sem Value} {c : Int → Int → Bool} {g : Int → Int → Bool} (h : OpR X f (rI0 fun i j => .bl (g i j))) :
    OpR X f (RD X.K (gI c fun i j => .bl (g i j))) := fun pins s σ H x y v u Q I rx ry ⟨hp, μ, d1, d2, d, hp', rh, r1, r2, e, q⟩ => by
  obtain ⟨i, j, rfl, rfl, c1, rfl, rfl⟩ := gI_some e
  exact h pins s σ H x y v u Q I rx ry ⟨i, j, r1.intE, r2.intE, q _ H μ Ext.refl rh Rp.bl⟩

def gSub : D → D → Hd → Option (D × Hd) := gI (fun _ _ => true) fun i j => .int (i - j)
def cMul (i j : Int) : Bool := decide (((-(2 ^ 64) < i ∧ i < 2 ^ 64) ∨ (-(2 ^ 64) < j ∧ j < 2 ^ 64)) ∨ i.natAbs.log2 + j.natAbs.log2 < 1000000)
def gMul : D → D → Hd → Option (D × Hd) := gI cMul fun i j => .int (i * j)
def cDiv (_ j : Int) : Bool := decide (0 < j ∧ (j < 1073741824 ∨ j.natAbs.log2 < 9000))
def gDiv : D → D → Hd → Option (D × Hd) := gI cDiv fun i j => .int (i / j)
def gMod : D → D → Hd → Option (D × Hd) := gI (fun _ j => decide (0 < j)) fun i j => .int (i % j)
def cPow (i j : Int) : Bool := decide (0 ≤ j ∧ j ≤ 1000000 ∧ i.natAbs < 2 ^ 64)
def gPow : D → D → Hd → Option (D × Hd) := gI cPow fun i j => .int (i ^ j.toNat)
theorem o_sub : OpR X (binaryOp .Sub) (RD X.K gSub) := op_gI0 op_sub
theorem o_mul : OpR X (binaryOp .Mult) (RD X.K gMul) := fun pins s σ H x y v u Q I rx ry ⟨hp, μ, d1, d2, d, hp', rh, r1, r2, e, q⟩ => by
  obtain ⟨i, j, rfl, rfl, c1, rfl, rfl⟩ := gI_some e
  have q' := q _ H μ Ext.refl rh Rp.int
  rcases of_decide_eq_true c1 with c2 | c2
  · exact op_mul pins s σ H x y v u Q I rx ry ⟨i, j, r1.intE, r2.intE, c2, q'⟩
  · exact op_mulW pins s σ H x y v u Q I rx ry ⟨i, j, r1.intE, r2.intE, c2, q'⟩
theorem o_div : OpR X (binaryOp .FloorDiv) (RD X.K gDiv) := fun pins s σ H x y v u Q I rx ry ⟨hp, μ, d1, d2, d, hp', rh, r1, r2, e, q⟩ => by
  obtain ⟨i, j, rfl, rfl, c1, rfl, rfl⟩ := gI_some e
  have q' := q _ H μ Ext.refl rh Rp.int
  obtain ⟨c0, c2⟩ := of_decide_eq_true c1
  rcases c2 with c2 | c2
  · exact op_fdiv pins s σ H x y v u Q I rx ry ⟨i, j, r1.intE, r2.intE, ⟨c0, c2⟩, q'⟩
  · exact op_fdivW pins s σ H x y v u Q I rx ry ⟨i, j, r1.intE, r2.intE, ⟨c0, c2⟩, q'⟩
theorem o_mod : OpR X (binaryOp .Mod) (RD X.K gMod) := op_gI op_mod fun _ _ h => of_decide_eq_true h
theorem o_pow : OpR X (binaryOp .Pow) (RD X.K gPow) := op_gI op_pow fun i j h => (show 0 ≤ j ∧ j ≤ 1000000 ∧ i.natAbs < 2 ^ 64 from of_decide_eq_true h)
def gNeg : D → Hd → Option (D × Hd)
  | .int i, hp => some (.int (-i), hp)
  | _, _ => none
theorem u_neg : UnR X (unaryOp .USub) (RD1 X.K gNeg) := fun pins s σ H x v Q I rx ⟨hp, μ, d1, d, hp', rh, r1, e, q⟩ => by
  unfold gNeg at e
  split at e
  · rename_i i
    cases e
    exact un_neg pins s σ H x v Q I rx ⟨i, r1.intE, q _ H μ Ext.refl rh Rp.int⟩
  · cases e

def gAdd : D → D → Hd → Option (D × Hd)
  | .int i, .int j, hp => some (.int (i + j), hp)
  | .tup a, .tup b, hp => if a.length + b.length ≤ sizeLine then some (.tup (a ++ b), hp) else none
  | .str a, .str b, hp => if a.length + b.length ≤ sizeLine then some (.str (a ++ b), hp) else none
  | .int i, .bl b, hp => some (.int (i + (if b then 1 else 0)), hp)
  | _, _, _ => none
theorem Rps.append {K : PySem.W.Frag} {H : Hp} {μ : List Addr} : ∀ {a b : List D} {vs ws : List V}, Rps K H μ a vs → Rps K H μ b ws → Rps K H μ (a ++ b) (vs ++ ws)
  | [], b, vs, ws, h, h2 => by rw [Rps] at h; rw [h]; exact h2
  | d :: ds, b, vs, ws, h, h2 => by
    rw [Rps] at h
    obtain ⟨v, r, e, h3, h4⟩ := h
    rw [e, List.cons_append, List.cons_append, Rps]
    exact ⟨v, _, rfl, h3, Rps.append h4 h2⟩
theorem Rps.nil {K : PySem.W.Frag} {H : Hp} {μ : List Addr} : Rps K H μ [] [] := by rw [Rps]
theorem Rps.nil_iff {K : PySem.W.Frag} {H : Hp} {μ : List Addr} {a : List D} {vs : List V} (h : Rps K H μ a vs) : vs = [] ↔ a = [] := by
  have := h.len
  constructor
  · intro e
    rw [e] at this
    exact List.eq_nil_of_length_eq_zero this.symm
  · intro e
    rw [e] at this
    exact List.eq_nil_of_length_eq_zero this
theorem Rp.tup {K : PySem.W.Frag} {H : Hp} {μ : List Addr} {ds : List D} {a : Addr} {vs : List V} (h : H a = some (.tup vs)) (r : Rps K H μ ds vs) : Rp K H μ (.tup ds) (.ref a) := by rw [Rp]; exact ⟨a, vs, rfl, h, r⟩
theorem Rp.tup' {K : PySem.W.Frag} {H : Hp} {μ : List Addr} {ds : List D} {a : Addr} {vs : List V} (h : TpAt H a vs) (r : Rps K H μ ds vs) : Rp K H μ (.tup ds) (.ref a) := by rw [Rp]; exact ⟨a, vs, rfl, h, r⟩
theorem o_add : OpR X (binaryOp .Add) (RD X.K gAdd) := fun pins s σ H x y v u Q I rx ry ⟨hp, μ, d1, d2, d, hp', rh, r1, r2, e, q⟩ => by
  unfold gAdd at e
  split at e
  · rename_i i j
    cases e
    exact op_add pins s σ H x y v u Q I rx ry ⟨i, j, r1.intE, r2.intE, q _ H μ Ext.refl rh Rp.int⟩
  · rename_i a b
    split at e
    · rename_i hl
      cases e
      obtain ⟨p1, vs, e1, t1, q1⟩ := r1.tupE
      obtain ⟨p2, ws, e2, t2, q2⟩ := r2.tupE
      refine op_catA pins s σ H x y v u Q I rx ry ⟨p1, p2, vs, ws, e1, e2, t1.sq, t2.sq, by rw [q1.len, q2.len]; exact hl, fun z => ?_, fun _ z => ?_, fun _ _ p h0 => ?_⟩
      · have := q1.nil_iff.mp z
        subst this
        exact q _ H μ Ext.refl rh (Rp.tup' t2 q2)
      · have := q2.nil_iff.mp z
        subst this
        rw [List.append_nil] at q
        exact q _ H μ Ext.refl rh (Rp.tup' t1 q1)
      · have x2 := Ext.laid rh (o := .tup (vs ++ ws)) h0
        exact q _ _ μ x2 (rh.laid h0) (Rp.tup upd_same ((q1.append q2).ext x2))
    · cases e
  · rename_i a b
    split at e
    · rename_i hl
      cases e
      exact op_add_str pins s σ H x y v u Q I rx ry ⟨a, b, r1.strE, r2.strE, hl, q _ H μ Ext.refl rh Rp.str⟩
    · cases e
  · rename_i i b
    cases e
    exact op_add_ib pins s σ H x y v u Q I rx ry ⟨i, b, r1.intE, r2.blE, q _ H μ Ext.refl rh Rp.int⟩
  · cases e

def gLe : D → D → Hd → Option (D × Hd) := gI (fun _ _ => true) fun i j => .bl (decide (i ≤ j))
def gGt : D → D → Hd → Option (D × Hd) := gI (fun _ _ => true) fun i j => .bl (decide (j < i))
def gGe : D → D → Hd → Option (D × Hd) := gI (fun _ _ => true) fun i j => .bl (decide (j ≤ i))
theorem o_le : OpR X (compareOp .LtE) (RD X.K gLe) := op_gB0 op_le
theorem o_gt : OpR X (compareOp .Gt) (RD X.K gGt) := op_gB0 op_gt
theorem o_ge : OpR X (compareOp .GtE) (RD X.K gGe) := op_gB0 op_ge
def ints? : List D → Option (List Int)
  | [] => some []
  | .int i :: r => (ints? r).map (i :: ·)
  | _ :: _ => none
theorem ints?_eq : ∀ {ds : List D} {ns : List Int}, ints? ds = some ns → ds = ns.map D.int
  | [], ns, h => by cases h; rfl
  | d :: r, ns, h => by
    cases d <;> simp only [ints?] at h <;> try (cases h)
    rename_i i
    cases e : ints? r with
    | none => rw [e] at h; cases h
    | some m =>
      rw [e] at h
      cases h
      rw [ints?_eq e]
      rfl
theorem ints?_map : ∀ ns : List Int, ints? (ns.map D.int) = some ns
  | [] => rfl
  | n :: ns => by
    show (ints? (ns.map D.int)).map (n :: ·) = _
    rw [ints?_map ns]
    rfl
theorem Rps.ints {K : PySem.W.Frag} {H : Hp} {μ : List Addr} : ∀ {ns : List Int} {vs : List V}, Rps K H μ (ns.map D.int) vs → vs = ns.map V.int
  | [], vs, h => by rw [List.map_nil, Rps] at h; rw [h]; rfl
  | n :: ns, vs, h => by
    rw [List.map_cons, Rps] at h
    obtain ⟨v, r, e, h1, h2⟩ := h
    rw [e, h1.intE, Rps.ints h2]
    rfl
theorem Rps.ofInts {K : PySem.W.Frag} {H : Hp} {μ : List Addr} : ∀ {ns : List Int}, Rps K H μ (ns.map D.int) (ns.map V.int)
  | [] => Rps.nil
  | n :: ns => by
    rw [List.map_cons, List.map_cons, Rps]
    exact ⟨_, _, rfl, Rp.int, Rps.ofInts⟩
def gLt : D → D → Hd → Option (D × Hd)
  | .int i, .int j, hp => some (.bl (decide (i < j)), hp)
  | .tup a, .tup b, hp => match ints? a, ints? b with
    | some ns, some ms => some (.bl (HT.lexLt ns ms), hp)
    | _, _ => none
  | _, _, _ => none
theorem o_lt (hu : X.A.units < cLine) : OpR X (compareOp .Lt) (RD X.K gLt) := fun pins s σ H x y v u Q I rx ry ⟨hp, μ, d1, d2, d, hp', rh, r1, r2, e, q⟩ => by
  unfold gLt at e
  split at e
  · rename_i i j
    cases e
    exact op_lt pins s σ H x y v u Q I rx ry ⟨i, j, r1.intE, r2.intE, q _ H μ Ext.refl rh Rp.bl⟩
  · rename_i a b
    split at e
    · rename_i ns ms e1 e2
      cases e
      have z1 := ints?_eq e1
      have z2 := ints?_eq e2
      subst z1 z2
      obtain ⟨p1, vs, f1, t1, q1⟩ := r1.tupE
      obtain ⟨p2, ws, f2, t2, q2⟩ := r2.tupE
      have z1 := q1.ints
      have z2 := q2.ints
      subst z1 z2
      exact op_ltT hu pins s σ H x y v u Q I rx ry ⟨p1, p2, ns, ms, f1, f2, t1.sq, t2.sq, q _ H μ Ext.refl rh Rp.bl⟩
    · cases e
  · cases e

def mapO {α β : Type} (f : α → Option β) : List α → Option (List β)
  | [] => some []
  | x :: r => match f x, mapO f r with
    | some y, some ys => some (y :: ys)
    | _, _ => none
def pyF (hp : Hd) : Nat → D → Option PyData
  | 0, _ => none
  | n + 1, d => match d with
    | .non => some .none
    | .bl b => some (.bool b)
    | .int i => some (.int i)
    | .str x => some (.str x)
    | .tup ds => (mapO (pyF hp n) ds).map .tuple
    | .wt ds => (mapO (pyF hp n) ds).map .tuple
    | .scr ns => some (.list (ns.map .int))
    | .ref k => match hp[k]? with
      | some (.lst xs) => (mapO (pyF hp n) xs).map .list
      | _ => none
theorem DpAll.ints {K : PySem.W.Frag} {H : Hp} : ∀ ns : List Int, DpAll K H (ns.map V.int) (ns.map PyData.int)
  | [] => .nil
  | n :: ns => .cons (.int n) (DpAll.ints ns)
theorem pyF_dp {K : PySem.W.Frag} {H : Hp} {μ : List Addr} {hp : Hd} (rh : RelH K H μ hp) : ∀ (n : Nat) (d : D) (p : PyData) (v : V), pyF hp n d = some p → Rp K H μ d v → Dp K H v p
  | 0, d, p, v, h, _ => by simp [pyF] at h
  | n + 1, d, p, v, h, r => by
    have all : ∀ (ds : List D) (ps : List PyData) (vs : List V), mapO (pyF hp n) ds = some ps → Rps K H μ ds vs → DpAll K H vs ps := by
      intro ds
      induction ds with
      | nil =>
        intro ps vs h r
        rw [Rps] at r
        simp only [mapO] at h
        cases h
        subst r
        exact .nil
      | cons d ds ih =>
        intro ps vs h r
        rw [Rps] at r
        obtain ⟨v, w, e, r1, r2⟩ := r
        subst e
        simp only [mapO] at h
        split at h
        · rename_i y ys e1 e2
          cases h
          exact .cons (pyF_dp rh n d y v e1 r1) (ih _ _ e2 r2)
        · cases h
    cases d with
    | non => simp only [pyF] at h; cases h; cases r.nonE; exact .non
    | bl b => simp only [pyF] at h; cases h; cases r.blE; exact .bl b
    | int i => simp only [pyF] at h; cases h; cases r.intE; exact .int i
    | str x => simp only [pyF] at h; cases h; cases r.strE; exact .str x
    | scr ns =>
      simp only [pyF] at h
      cases h
      obtain ⟨a, rfl, s⟩ := r.scrE
      exact .lst s.sq (DpAll.ints ns)
    | tup ds =>
      simp only [pyF] at h
      obtain ⟨a, vs, rfl, t, q⟩ := r.tupE
      cases e : mapO (pyF hp n) ds with
      | none => rw [e] at h; cases h
      | some ps =>
        rw [e] at h
        cases h
        exact .tup t.sq (all _ _ _ e q)
    | wt ds =>
      simp only [pyF] at h
      obtain ⟨a, vs, rfl, t, q⟩ := r.wtE
      cases e : mapO (pyF hp n) ds with
      | none => rw [e] at h; cases h
      | some ps =>
        rw [e] at h
        cases h
        exact .tup t.sq (all _ _ _ e q)
    | ref k =>
      simp only [pyF] at h
      split at h
      · rename_i xs e0
        obtain ⟨a, ea, rfl⟩ := r.refE
        obtain ⟨a2, ea2, vs, eh, q⟩ := rh.at_ e0
        rw [ea] at ea2
        cases ea2
        cases e : mapO (pyF hp n) xs with
        | none => rw [e] at h; cases h
        | some ps =>
          rw [e] at h
          cases h
          exact .lst (.inl (.inl eh)) (all _ _ _ e q)
      · cases h
def eqH (hp : Hd) (x y : D) : Option Bool := match pyF hp 16 x, pyF hp 16 y with
  | some p, some q => if (SeqAt.shaped p && SeqAt.shaped q) = true then some (PyData.eqv p q) else none
  | _, _ => none
def gEq (x y : D) (hp : Hd) : Option (D × Hd) := match eqH hp x y with
  | some b => some (.bl b, hp)
  | none => none
def gNe (x y : D) (hp : Hd) : Option (D × Hd) := match eqH hp x y with
  | some b => some (.bl (!b), hp)
  | none => none
theorem eqH_some {hp : Hd} {x y : D} {b : Bool} (h : eqH hp x y = some b) : ∃ p q, pyF hp 16 x = some p ∧ pyF hp 16 y = some q ∧ SeqAt.shaped p = true ∧ SeqAt.shaped q = true ∧ b = PyData.eqv p q := by
  unfold eqH at h
  split at h
  · rename_i p q e1 e2
    split at h
    · rename_i hs
      rw [Bool.and_eq_true] at hs
      cases h
      exact ⟨p, q, e1, e2, hs.1, hs.2, rfl⟩
    · cases h
  · cases h
theorem o_eq (hu : X.A.units + 64 < cLine) : OpR X (compareOp .Eq) (RD X.K gEq) := fun pins s σ H x y v u Q I rx ry ⟨hp, μ, d1, d2, d, hp', rh, r1, r2, e, q⟩ => by
  unfold gEq at e
  split at e
  · rename_i b eb
    cases e
    obtain ⟨p, q2, e1, e2, s1, s2, rfl⟩ := eqH_some eb
    exact op_eqD hu pins s σ H x y v u Q I rx ry ⟨p, q2, pyF_dp rh _ _ _ _ e1 r1, pyF_dp rh _ _ _ _ e2 r2, s1, s2, q _ H μ Ext.refl rh Rp.bl⟩
  · cases e
theorem o_ne (hu : X.A.units + 64 < cLine) : OpR X (compareOp .NotEq) (RD X.K gNe) := fun pins s σ H x y v u Q I rx ry ⟨hp, μ, d1, d2, d, hp', rh, r1, r2, e, q⟩ => by
  unfold gNe at e
  split at e
  · rename_i b eb
    cases e
    obtain ⟨p, q2, e1, e2, s1, s2, rfl⟩ := eqH_some eb
    exact op_neD hu pins s σ H x y v u Q I rx ry ⟨p, q2, pyF_dp rh _ _ _ _ e1 r1, pyF_dp rh _ _ _ _ e2 r2, s1, s2, q _ H μ Ext.refl rh Rp.bl⟩
  · cases e
end
end Ve
namespace Ve
open PySem PySem.Spec L2

mutual
def D.same : D → D → Bool
  | .non, .non => true
  | .bl a, .bl b => a == b
  | .int a, .int b => decide (a = b)
  | .str a, .str b => decide (a = b)
  | .ref a, .ref b => a == b
  | .scr a, .scr b => decide (a = b)
  | .tup a, .tup b => D.sames a b
  | .wt a, .wt b => D.sames a b
  | _, _ => false
def D.sames : List D → List D → Bool
  | [], [] => true
  | a :: as, b :: bs => D.same a b && D.sames as bs
  | _, _ => false
end
mutual
theorem D.same_eq : ∀ (a b : D), D.same a b = true → a = b
  | .non, b, h => by cases b <;> simp [D.same] at h ⊢
  | .bl x, b, h => by cases b <;> simp [D.same] at h ⊢ <;> exact h
  | .int x, b, h => by cases b <;> simp [D.same] at h ⊢ <;> exact h
  | .str x, b, h => by cases b <;> simp [D.same] at h ⊢ <;> exact h
  | .ref x, b, h => by cases b <;> simp [D.same] at h ⊢ <;> exact h
  | .scr x, b, h => by cases b <;> simp [D.same] at h ⊢ <;> exact h
  | .tup x, b, h => by
    cases b <;> simp [D.same] at h ⊢
    exact D.sames_eq _ _ h
  | .wt x, b, h => by
    cases b <;> simp [D.same] at h ⊢
    exact D.sames_eq _ _ h
theorem D.sames_eq : ∀ (a b : List D), D.sames a b = true → a = b
  | [], b, h => by cases b <;> simp [D.sames] at h ⊢
  | x :: xs, b, h => by
    cases b with
    | nil => simp [D.sames] at h
    | cons y ys =>
      simp [D.sames] at h
      rw [D.same_eq x y h.1, D.sames_eq xs ys h.2]
end
mutual
theorem D.same_self : ∀ a : D, D.same a a = true
  | .non => by simp [D.same]
  | .bl x => by simp [D.same]
  | .int x => by simp [D.same]
  | .str x => by simp [D.same]
  | .ref x => by simp [D.same]
  | .scr x => by simp [D.same]
  | .tup x => by simp [D.same, D.sames_self x]
  | .wt x => by simp [D.same, D.sames_self x]
theorem D.sames_self : ∀ a : List D, D.sames a a = true
  | [] => by simp [D.sames]
  | x :: xs => by simp [D.sames, D.same_self x, D.sames_self xs]
end

inductive Fl where
  | nx | rt (d : D) | bk | ct
abbrev AS := Ls → Hd → Option (Fl × Ls × Hd)
def En (K : PySem.W.Frag) (Dn : Ends) (fl : Fl) (ls' : Ls) (H' : Hp) (μ' : List Addr) : Prop := match fl with
  | .nx => ∀ σ', Rl K H' μ' ls' σ' → Dn.nx σ' H'
  | .rt d => ∀ v, Rp K H' μ' d v → Dn.rt v H'
  | .bk => ∀ σ', Rl K H' μ' ls' σ' → Dn.bk σ' H'
  | .ct => ∀ σ', Rl K H' μ' ls' σ' → Dn.ct σ' H'
def tS (K : PySem.W.Frag) (f : AS) : TS := fun Dn σ H => ∃ ls hp μ fl ls' hp', Rl K H μ ls σ ∧ RelH K H μ hp ∧ f ls hp = some (fl, ls', hp') ∧
  ∀ H' μ', Ext μ H μ' H' → RelH K H' μ' hp' → En K Dn fl ls' H' μ'
abbrev DS (X : Cx) (e : Stmt) (f : AS) : Prop := PS X e (tS X.K f)
abbrev DSs (X : Cx) (e : List Stmt) (f : AS) : Prop := PSs X e (tS X.K f)

def sNext : AS := fun ls hp => some (.nx, ls, hp)
def sSeq (f g : AS) : AS := fun ls hp => match f ls hp with
  | some (.nx, ls1, hp1) => g ls1 hp1
  | r => r
def sBrk : AS := fun ls hp => some (.bk, ls, hp)
def sCnt : AS := fun ls hp => some (.ct, ls, hp)
def sDrop (f : AE) : AS := fun ls hp => match f ls hp with
  | some (_, hp1) => some (.nx, ls, hp1)
  | none => none
def sRet (f : AE) : AS := fun ls hp => match f ls hp with
  | some (d, hp1) => some (.rt d, ls, hp1)
  | none => none
def sRetN : AS := fun ls hp => some (.rt .non, ls, hp)
def sIf (c : AT) (f g : AS) : AS := fun ls hp => match c ls hp with
  | some (true, hp1) => f ls hp1
  | some (false, hp1) => g ls hp1
  | none => none
def sSet (i : Nat) (f : AE) : AS := fun ls hp => match f ls hp with
  | some (d, hp1) => some (.nx, ls.set i (some d), hp1)
  | none => none
inductive Tg where
  | nm (i : Nat) | tp (ts : List Tg)
mutual
def Tg.asg : Tg → D → Ls → Option Ls
  | .nm i, d, ls => some (ls.set i (some d))
  | .tp ts, .tup ds, ls => Tg.asgs ts ds ls
  | .tp ts, .wt ds, ls => Tg.asgs ts ds ls
  | .tp _, _, _ => none
def Tg.asgs : List Tg → List D → Ls → Option Ls
  | [], [], ls => some ls
  | t :: ts, d :: ds, ls => match Tg.asg t d ls with
    | some ls1 => Tg.asgs ts ds ls1
    | none => none
  | _, _, _ => none
end
mutual
def Tg.slots : Tg → List Nat
  | .nm i => [i]
  | .tp ts => Tg.slotss ts
def Tg.slotss : List Tg → List Nat
  | [] => []
  | t :: ts => Tg.slots t ++ Tg.slotss ts
end
def gD (K : PySem.W.Frag) (t : Tg) : TG := fun v σ H Q => ∃ ls μ d ls', Rl K H μ ls σ ∧ Rp K H μ d v ∧ t.asg d ls = some ls' ∧
  ∀ σ', Rl K H μ ls' σ' → (∀ vs : List Nat, (∀ i ∈ t.slots, i ∈ vs) → wipe σ' vs = wipe σ vs) → Q σ' H
def gDs (K : PySem.W.Frag) (t : List Tg) : TGs := fun v σ H Q => ∃ ls μ d ls', Rl K H μ ls σ ∧ Rps K H μ d v ∧ Tg.asgs t d ls = some ls' ∧
  ∀ σ', Rl K H μ ls' σ' → (∀ vs : List Nat, (∀ i ∈ Tg.slotss t, i ∈ vs) → wipe σ' vs = wipe σ vs) → Q σ' H
abbrev DG (X : Cx) (e : Expr) (t : Tg) : Prop := PG X e (gD X.K t)
abbrev DGs (X : Cx) (e : List Expr) (t : List Tg) : Prop := PGs X e (gDs X.K t)
theorem PG.imp {X : Cx} {e : Expr} {t t' : TG} (h : PG X e t) (i : ∀ v σ H Q, t' v σ H Q → t v σ H Q) : PG X e t' := ⟨fun pins s σ H v u Q I r q => h.run pins s σ H v u Q I r (i v σ H Q q)⟩
theorem PGs.imp {X : Cx} {e : List Expr} {t t' : TGs} (h : PGs X e t) (i : ∀ v σ H Q, t' v σ H Q → t v σ H Q) : PGs X e t' := ⟨fun pins s σ H v u Q I r q => h.run pins s σ H v u Q I r (i v σ H Q q)⟩
theorem Rl.set {K : PySem.W.Frag} {H : Hp} {μ : List Addr} {ls : Ls} {σ : St} {i : Nat} {d : D} {v : V} (h : Rl K H μ ls σ) (r : Rp K H μ d v) : Rl K H μ (ls.set i (some d)) (σ.set i (some v)) := by
  refine ⟨by rw [List.length_set, List.length_set, h.1], fun j e hj => ?_⟩
  by_cases hji : i = j
  · subst hji
    by_cases hl : i < ls.length
    · rw [List.getElem?_set_self hl] at hj
      cases hj
      exact ⟨v, List.getElem?_set_self (by rw [h.1]; exact hl), r⟩
    · rw [List.getElem?_eq_none (by simpa using hl)] at hj
      cases hj
  · rw [List.getElem?_set_ne hji] at hj
    rw [List.getElem?_set_ne hji]
    exact h.2 j e hj
theorem wipe_set {σ : St} {i : Nat} {x : Option V} : ∀ {vs : List Nat}, i ∈ vs → wipe (σ.set i x) vs = wipe σ vs
  | [], h => by cases h
  | v :: vs, h => by
    unfold wipe
    by_cases e : i ∈ vs
    · rw [wipe_set e]
    · rcases List.mem_cons.mp h with z | z
      · subst z
        have go : ∀ (ws : List Nat), i ∉ ws → wipe (σ.set i x) ws = (wipe σ ws).set i x := by
          intro ws
          induction ws with
          | nil => intro _; rfl
          | cons w ws ih =>
            intro hn
            unfold wipe
            rw [ih (fun z => hn (List.mem_cons_of_mem _ z)), List.set_comm _ _ (fun z => hn (by rw [z]; exact List.mem_cons_self))]
        rw [go vs e, List.set_set]
      · exact absurd z e

section
variable {X : Cx} {st : Stmt} {sts rest : List Stmt} {e a b : Expr} {f g : AS} {fa fb : AE} {ft : AT} {fr : AA} {pos : Pos}

theorem dss_nil : DSs X [] sNext := PSs.imp pss_nil fun Dn σ H ⟨ls, hp, μ, fl, ls', hp', rl, rh, e, q⟩ => by
  cases e
  exact q H μ Ext.refl rh σ rl
theorem dss_cons (h1 : DS X st f) (h2 : DSs X rest g) : DSs X (st :: rest) (sSeq f g) :=
  PSs.imp (pss_cons h1 h2) fun Dn σ H ⟨ls, hp, μ, fl, ls', hp', rl, rh, e, q⟩ => by
    unfold sSeq at e
    split at e
    · rename_i ls1 hp1 e1
      exact ⟨ls, hp, μ, .nx, ls1, hp1, rl, rh, e1, fun H1 μ1 x1 rh1 σ1 rl1 => ⟨ls1, hp1, μ1, fl, ls', hp', rl1, rh1, e, fun H' μ' x2 rh2 => q H' μ' (x1.trans x2) rh2⟩⟩
    · rename_i hne
      refine ⟨ls, hp, μ, fl, ls', hp', rl, rh, e, fun H1 μ1 x1 rh1 => ?_⟩
      have q' := q H1 μ1 x1 rh1
      cases fl with
      | nx => exact absurd e (hne ls' hp')
      | rt d => exact q'
      | bk => exact q'
      | ct => exact q'
theorem dss_one (h1 : DS X st f) : DSs X [st] f := PSs.imp (pss_one h1) fun _ _ _ h => h
theorem ds_pass : DS X (.Pass pos) sNext := PS.imp ps_pass fun Dn σ H ⟨ls, hp, μ, fl, ls', hp', rl, rh, e, q⟩ => by
  cases e
  exact q H μ Ext.refl rh σ rl
theorem ds_break : DS X (.Break pos) sBrk := PS.imp ps_break fun Dn σ H ⟨ls, hp, μ, fl, ls', hp', rl, rh, e, q⟩ => by
  cases e
  exact q H μ Ext.refl rh σ rl
theorem ds_continue : DS X (.Continue pos) sCnt := PS.imp ps_continue fun Dn σ H ⟨ls, hp, μ, fl, ls', hp', rl, rh, e, q⟩ => by
  cases e
  exact q H μ Ext.refl rh σ rl
theorem ds_expr (he : DE X e fa) (hs : swapsWith e none pos.line X.env = pure false := by rfl) : DS X (.Expr e pos) (sDrop fa) :=
  PS.imp (ps_expr he hs) fun Dn σ H ⟨ls, hp, μ, fl, ls', hp', rl, rh, e, q⟩ => by
    unfold sDrop at e
    split at e
    · rename_i d hp1 e1
      cases e
      exact ⟨ls, hp, μ, d, hp', rl, rh, e1, fun v H' μ' x1 rh1 r1 => q H' μ' x1 rh1 σ (rl.ext x1)⟩
    · cases e
theorem ds_ret (he : DE X e fa) : DS X (.Return (some e) pos) (sRet fa) :=
  PS.imp (ps_ret he) fun Dn σ H ⟨ls, hp, μ, fl, ls', hp', rl, rh, e, q⟩ => by
    unfold sRet at e
    split at e
    · rename_i d hp1 e1
      cases e
      exact ⟨ls, hp, μ, d, hp', rl, rh, e1, fun v H' μ' x1 rh1 r1 => q H' μ' x1 rh1 v r1⟩
    · cases e
theorem ds_retN : DS X (.Return none pos) sRetN := PS.imp ps_retN fun Dn σ H ⟨ls, hp, μ, fl, ls', hp', rl, rh, e, q⟩ => by
  cases e
  exact q H μ Ext.refl rh .non Rp.non
theorem En.seq {K : PySem.W.Frag} {Dn : Ends} {fl : Fl} {ls' : Ls} {H H1 H' : Hp} {μ μ1 μ' : List Addr} (h : En K Dn fl ls' H' μ') : En K Dn fl ls' H' μ' := h
theorem ds_if {c : Expr} {as bs : List Stmt} (hc : DT X c ft) (ha : DSs X as f) (hb : DSs X bs g) : DS X (.If c as bs pos) (sIf ft f g) :=
  PS.imp (ps_if hc ha hb) fun Dn σ H ⟨ls, hp, μ, fl, ls', hp', rl, rh, e, q⟩ => by
    unfold sIf at e
    split at e
    · rename_i hp1 e1
      exact ⟨ls, hp, μ, true, hp1, rl, rh, e1, fun H1 μ1 x1 rh1 => iteT ⟨ls, hp1, μ1, fl, ls', hp', rl.ext x1, rh1, e, fun H' μ' x2 rh2 => q H' μ' (x1.trans x2) rh2⟩⟩
    · rename_i hp1 e1
      exact ⟨ls, hp, μ, false, hp1, rl, rh, e1, fun H1 μ1 x1 rh1 => iteF ⟨ls, hp1, μ1, fl, ls', hp', rl.ext x1, rh1, e, fun H' μ' x2 rh2 => q H' μ' (x1.trans x2) rh2⟩⟩
    · cases e
theorem ds_set {i : Nat} {x : Str} {pos' : Pos} (hN : X.N.Nodup) (hi : X.N[i]? = some x) (hx : Loc X.env.scope x) (he : DE X e fa) (hs : swapsWith e (some (.Name x pos')) pos.line X.env = pure false := by rfl)
    (hf : X.fn x = true ∨ X.env.scope.names.lookup x = some .local := by first | exact .inl rfl | exact .inr rfl | assumption) : DS X (.Assign [.Name x pos'] e pos) (sSet i fa) :=
  PS.imp (ps_set hN hi hx he hs hf) fun Dn σ H ⟨ls, hp, μ, fl, ls', hp', rl, rh, e, q⟩ => by
    unfold sSet at e
    split at e
    · rename_i d hp1 e1
      cases e
      exact ⟨ls, hp, μ, d, hp', rl, rh, e1, fun v H' μ' x1 rh1 r1 => q H' μ' x1 rh1 _ ((rl.ext x1).set r1)⟩
    · cases e

theorem dg_name {i : Nat} {x : Str} (hN : X.N.Nodup) (hi : X.N[i]? = some x) (hx : Loc X.env.scope x) (hf : X.fn x = true ∨ X.env.scope.names.lookup x = some .local := by first | exact .inl rfl | exact .inr rfl | assumption) :
    DG X (.Name x pos) (.nm i) :=
  PG.imp (pg_name hN hi hx hf) fun v σ H Q ⟨ls, μ, d, ls', rl, r, e, q⟩ => by
    simp only [Tg.asg] at e
    cases e
    exact q _ (rl.set r) fun vs hvs => wipe_set (hvs i (by simp [Tg.slots]))
theorem dgs_nil : DGs X [] [] := PGs.imp pgs_nil fun v σ H Q ⟨ls, μ, d, ls', rl, r, e, q⟩ => by
  cases d with
  | nil =>
    simp only [Tg.asgs] at e
    cases e
    rw [Rps] at r
    exact ⟨r, q σ rl fun _ _ => rfl⟩
  | cons x xs => simp [Tg.asgs] at e
theorem dgs_cons {es : List Expr} {t : Tg} {ts : List Tg} (h1 : DG X e t) (h2 : DGs X es ts) (hs : (assignEach (e :: es) X.env).map (·.2) = assign e X.env :: (assignEach es X.env).map (·.2) := by rfl) : DGs X (e :: es) (t :: ts) :=
  PGs.imp (pgs_cons h1 h2 hs) fun v σ H Q ⟨ls, μ, d, ls', rl, r, e, q⟩ => by
    cases d with
    | nil => simp [Tg.asgs] at e
    | cons x xs =>
      simp only [Tg.asgs] at e
      split at e
      · rename_i ls1 e1
        rw [Rps] at r
        obtain ⟨v1, vs, rfl, r1, r2⟩ := r
        refine ⟨v1, vs, rfl, ls, μ, x, ls1, rl, r1, e1, fun σ1 rl1 w1 => ⟨ls1, μ, xs, ls', rl1, r2, e, fun σ2 rl2 w2 => q σ2 rl2 fun vs hvs => ?_⟩⟩
        rw [w2 vs fun i hi => hvs i (by simp [Tg.slotss, hi]), w1 vs fun i hi => hvs i (by simp [Tg.slotss, hi])]
      · cases e
theorem asgs_len : ∀ {ts : List Tg} {ds : List D} {ls ls' : Ls}, Tg.asgs ts ds ls = some ls' → ds.length = ts.length
  | [], [], _, _, _ => rfl
  | [], _ :: _, _, _, h => by simp [Tg.asgs] at h
  | _ :: _, [], _, _, h => by simp [Tg.asgs] at h
  | t :: ts, d :: ds, ls, ls', h => by
    simp only [Tg.asgs] at h
    split at h
    · rw [List.length_cons, List.length_cons, asgs_len h]
    · cases h
theorem dg_tup {es : List Expr} {k : Nat} {ts : List Tg} (hc : X.calm = true) (h : DGs X es ts) (hn : (assignEach es X.env).length = ts.length := by rfl) (hst : (assignEach es X.env).findIdx? (·.1) = none := by rfl) : DG X (.Tuple es k pos) (.tp ts) :=
  PG.imp (pg_tup (n := ts.length) hc h hn hst) fun v σ H Q ⟨ls, μ, d, ls', rl, r, e, q⟩ => by
    cases d <;> try (simp [Tg.asg] at e; done)
    · rename_i ds
      simp only [Tg.asg] at e
      obtain ⟨a, vs, rfl, t, rs⟩ := r.tupE
      exact ⟨a, vs, rfl, t.sq, by rw [rs.len, asgs_len e], ls, μ, ds, ls', rl, rs, e, fun σ' rl' w => q σ' rl' fun vs hvs => w vs fun i hi => hvs i (by simp [Tg.slots, hi])⟩
    · rename_i ds
      simp only [Tg.asg] at e
      obtain ⟨a, vs, rfl, t, rs⟩ := r.wtE
      exact ⟨a, vs, rfl, t.sq, by rw [rs.len, asgs_len e], ls, μ, ds, ls', rl, rs, e, fun σ' rl' w => q σ' rl' fun vs hvs => w vs fun i hi => hvs i (by simp [Tg.slots, hi])⟩
def sAsg (t : Tg) (f : AE) : AS := fun ls hp => match f ls hp with
  | some (d, hp1) => match t.asg d ls with
    | some ls1 => some (.nx, ls1, hp1)
    | none => none
  | none => none
theorem ds_asg {tg : Expr} {t : Tg} (he : DE X e fa) (hg : DG X tg t) (hs : swapsWithSole [tg] e pos.line X.env = pure false := by rfl) (hsw : swappedStores [tg] e X.env = pure none := by rfl) (h1 : (assignEach [tg] X.env).map (·.2) = [assign tg X.env] := by rfl) : DS X (.Assign [tg] e pos) (sAsg t fa) :=
  PS.imp (ps_asg he hg hs hsw h1) fun Dn σ H ⟨ls, hp, μ, fl, ls', hp', rl, rh, e, q⟩ => by
    unfold sAsg at e
    split at e
    · rename_i d hp1 e1
      split at e
      · rename_i ls1 e2
        cases e
        exact ⟨ls, hp, μ, d, hp', rl, rh, e1, fun v H' μ' x1 rh1 r1 => ⟨ls, μ', d, ls', rl.ext x1, r1, e2, fun σ' rl' _ => q H' μ' x1 rh1 σ' rl'⟩⟩
      · cases e
    · cases e
def sPar (i j : Nat) (f : AA) : AS := fun ls hp => match f ls hp with
  | some ([a, b], hp1) => some (.nx, (ls.set i (some a)).set j (some b), hp1)
  | _ => none
theorem ds_par {i j : Nat} {x y : Str} {px py pt : Pos} {kt k2 pt2} (hc : X.calm = true) (hN : X.N.Nodup) (hi : X.N[i]? = some x) (hj : X.N[j]? = some y) (hij : i ≠ j)
    (hx : X.env.scope.names.lookup x = some .local) (hy : X.env.scope.names.lookup y = some .local) (ha : DA X [a, b] fr)
    (hw : swappedStores [.Tuple [.Name x px, .Name y py] kt pt] (.Tuple [a, b] k2 pt2) X.env = pure (some [x, y]))
    (hs : swapsWithSole [.Tuple [.Name x px, .Name y py] kt pt] (.Tuple [a, b] k2 pt2) pos.line X.env = pure false := by rfl) : DS X (.Assign [.Tuple [.Name x px, .Name y py] kt pt] (.Tuple [a, b] k2 pt2) pos) (sPar i j fr) :=
  PS.imp (ps_par hc hN hi hj hij hx hy ha hw hs) fun Dn σ H ⟨ls, hp, μ, fl, ls', hp', rl, rh, e, q⟩ => by
    unfold sPar at e
    split at e
    · rename_i a b hp1 e1
      cases e
      refine ⟨ls, hp, μ, [a, b], hp', rl, rh, e1, fun vs H' μ' x1 rh1 r1 => ?_⟩
      rw [Rps] at r1
      obtain ⟨v, r, rfl, r1, r2⟩ := r1
      rw [Rps] at r2
      obtain ⟨w, r, rfl, r2, r3⟩ := r2
      rw [Rps] at r3
      subst r3
      exact ⟨v, w, rfl, q H' μ' x1 rh1 _ (((rl.ext x1).set r1).set r2)⟩
    · cases e

def sWhile (c : AT) (b : AS) : Nat → AS
  | 0, _, _ => none
  | n + 1, ls, hp => match c ls hp with
    | some (false, hp1) => some (.nx, ls, hp1)
    | some (true, hp1) => match b ls hp1 with
      | some (.nx, ls2, hp2) => sWhile c b n ls2 hp2
      | some (.ct, ls2, hp2) => sWhile c b n ls2 hp2
      | some (.bk, ls2, hp2) => some (.nx, ls2, hp2)
      | some (.rt d, ls2, hp2) => some (.rt d, ls2, hp2)
      | none => none
    | none => none
theorem ds_while (n : Nat) {c : Expr} {body : List Stmt} (hp : PassesOwn (model X.prog X.w) X.A X.env X.xe) (hc : DT X c ft) (hb : DSs X body f) : DS X (.While c body [] pos) (sWhile ft f n) :=
  PS.imp (ps_while hp hc hb) fun Dn σ H ⟨ls, hp, μ, fl, ls', hp', rl, rh, e, q⟩ => by
    refine ⟨fun m σ1 H1 => ∃ ls1 hp1 μ1, Ext μ H μ1 H1 ∧ Rl X.K H1 μ1 ls1 σ1 ∧ RelH X.K H1 μ1 hp1 ∧ sWhile ft f m ls1 hp1 = some (fl, ls', hp'), ⟨n, ls, hp, μ, Ext.refl, rl, rh, e⟩, ?_⟩
    rintro m σ1 H1 ⟨ls1, hp1, μ1, x1, rl1, rh1, e1⟩
    cases m with
    | zero => simp [sWhile] at e1
    | succ m =>
      simp only [sWhile] at e1
      split at e1
      · rename_i hp2 e2
        cases e1
        exact ⟨ls', hp1, μ1, false, hp', rl1, rh1, e2, fun H2 μ2 x2 rh2 => iteF (q H2 μ2 (x1.trans x2) rh2 σ1 (rl1.ext x2))⟩
      · rename_i hp2 e2
        refine ⟨ls1, hp1, μ1, true, hp2, rl1, rh1, e2, fun H2 μ2 x2 rh2 => iteT ?_⟩
        refine ⟨fun σ' H' => ∃ ls1 hp1 μ1, Ext μ H μ1 H' ∧ Rl X.K H' μ1 ls1 σ' ∧ RelH X.K H' μ1 hp1 ∧ sWhile ft f m ls1 hp1 = some (fl, ls', hp'), fun σ' H' h => ⟨m, Nat.lt_succ_self m, h⟩, ?_⟩
        split at e1
        · rename_i ls3 hp3 e3
          exact ⟨ls1, hp2, μ2, .nx, ls3, hp3, rl1.ext x2, rh2, e3, fun H3 μ3 x3 rh3 σ3 rl3 => ⟨ls3, hp3, μ3, (x1.trans x2).trans x3, rl3, rh3, e1⟩⟩
        · rename_i ls3 hp3 e3
          exact ⟨ls1, hp2, μ2, .ct, ls3, hp3, rl1.ext x2, rh2, e3, fun H3 μ3 x3 rh3 σ3 rl3 => ⟨ls3, hp3, μ3, (x1.trans x2).trans x3, rl3, rh3, e1⟩⟩
        · rename_i ls3 hp3 e3
          cases e1
          exact ⟨ls1, hp2, μ2, .bk, _, _, rl1.ext x2, rh2, e3, fun H3 μ3 x3 rh3 σ3 rl3 => q H3 μ3 ((x1.trans x2).trans x3) rh3 σ3 rl3⟩
        · rename_i d ls3 hp3 e3
          cases e1
          exact ⟨ls1, hp2, μ2, .rt d, _, _, rl1.ext x2, rh2, e3, fun H3 μ3 x3 rh3 => q H3 μ3 ((x1.trans x2).trans x3) rh3⟩
        · cases e1
      · cases e1

abbrev Gd := List (Nat × List D)
def gdOk : Gd → Hd → Bool
  | [], _ => true
  | (n, xs) :: r, hp => (match hp[n]? with
    | some (.lst ys) => D.sames ys xs
    | _ => false) && gdOk r hp
abbrev AI := Ls → Hd → Option (List D × Gd × Hd)
def Wk (K : PySem.W.Frag) (J : It) (items : List D) (gd : Gd) (μ : List Addr) (H : Hp) : Prop :=
  ∀ i H2 μ2 hp2, Ext μ H μ2 H2 → RelH K H2 μ2 hp2 → gdOk gd hp2 = true →
    (items.length ≤ i → J.stop i H2) ∧ (i < items.length → J.go i H2 ∧ ∀ x H3, J.yld i H2 x H3 → ∃ d, items[i]? = some d ∧ Ext μ2 H2 μ2 H3 ∧ RelH K H3 μ2 hp2 ∧ Rp K H3 μ2 d x)
def tI (K : PySem.W.Frag) (f : AI) : TI := fun σ H R => ∃ ls hp μ items gd hp', Rl K H μ ls σ ∧ RelH K H μ hp ∧ f ls hp = some (items, gd, hp') ∧
  ∀ J H' μ', Ext μ H μ' H' → RelH K H' μ' hp' → Wk K J items gd μ' H' → R J H'
abbrev DI (X : Cx) (tg e : Expr) (f : AI) : Prop := PI X tg e (tI X.K f)
theorem PI.imp {X : Cx} {tg e : Expr} {t t' : TI} (h : PI X tg e t) (i : ∀ σ H Q, t' σ H Q → t σ H Q) : PI X tg e t' := ⟨fun pins s σ H Q I q => h.run pins s σ H Q I (i σ H Q q)⟩
theorem PI.or {X : Cx} {tg e : Expr} {t t' : TI} (h : PI X tg e t) (h' : PI X tg e t') : PI X tg e (fun σ H Q => t σ H Q ∨ t' σ H Q) := ⟨fun pins s σ H Q I q => q.elim (h.run pins s σ H Q I) (h'.run pins s σ H Q I)⟩

def sFor (t : Tg) (gd : Gd) (b : AS) : List D → AS
  | [], ls, hp => if gdOk gd hp then some (.nx, ls, hp) else none
  | x :: xs, ls, hp => if gdOk gd hp then match t.asg x ls with
    | some ls1 => match b ls1 hp with
      | some (.nx, ls2, hp2) => sFor t gd b xs ls2 hp2
      | some (.ct, ls2, hp2) => sFor t gd b xs ls2 hp2
      | some (.bk, ls2, hp2) => some (.nx, ls2, hp2)
      | some (.rt d, ls2, hp2) => some (.rt d, ls2, hp2)
      | none => none
    | none => none else none
def sForI (fi : AI) (t : Tg) (b : AS) : AS := fun ls hp => match fi ls hp with
  | some (items, gd, hp1) => sFor t gd b items ls hp1
  | none => none
theorem ds_for {iter tg : Expr} {body : List Stmt} {fi : AI} {t : Tg} (hp : PassesOwn (model X.prog X.w) X.A X.env X.xe) (hc : X.calm = true) (hi : DI X tg iter fi) (hg : DG X tg t) (hb : DSs X body f)
    (hs : ∀ x, foldedSetIterable iter X.env x = pure x := by intro _; rfl) : DS X (.For tg iter body [] pos) (sForI fi t f) :=
  PS.imp (ps_for hp hc hi hg hb hs) fun Dn σ H ⟨ls, hp, μ, fl, ls', hp', rl, rh, e, q⟩ => by
    unfold sForI at e
    split at e
    · rename_i items gd hp1 e1
      refine ⟨ls, hp, μ, items, gd, hp1, rl, rh, e1, fun J H1 μ1 x1 rh1 wk => ?_⟩
      refine ⟨fun i m σ2 H2 => m + i = items.length ∧ ∃ ls2 hp2 μ2, Ext μ1 H1 μ2 H2 ∧ Rl X.K H2 μ2 ls2 σ2 ∧ RelH X.K H2 μ2 hp2 ∧ sFor t gd f (items.drop i) ls2 hp2 = some (fl, ls', hp'),
        ⟨items.length, by omega, ls, hp1, μ1, Ext.refl, rl.ext x1, rh1, e⟩, ?_⟩
      rintro i m σ2 H2 ⟨hm, ls2, hp2, μ2, x2, rl2, rh2, e2⟩
      by_cases hi : i < items.length
      · have hd : items.drop i = items[i] :: items.drop (i + 1) := List.drop_eq_getElem_cons hi
        rw [hd] at e2
        simp only [sFor] at e2
        split at e2
        · rename_i hgd
          obtain ⟨_, w2⟩ := wk i H2 μ2 hp2 x2 rh2 hgd
          obtain ⟨w3, w4⟩ := w2 hi
          refine .inr ⟨w3, fun σ' H' => m - 1 + (i + 1) = items.length ∧ ∃ ls2 hp2 μ2, Ext μ1 H1 μ2 H' ∧ Rl X.K H' μ2 ls2 σ' ∧ RelH X.K H' μ2 hp2 ∧ sFor t gd f (items.drop (i + 1)) ls2 hp2 = some (fl, ls', hp'),
            fun σ' H' h => ⟨m - 1, by omega, h⟩, fun x H3 hy => ?_⟩
          obtain ⟨d, ed, x3, rh3, r3⟩ := w4 x H3 hy
          rw [List.getElem?_eq_getElem hi] at ed
          cases ed
          split at e2
          · rename_i ls3 e3
            refine ⟨ls2, μ2, _, ls3, rl2.ext x3, r3, e3, fun σ3 rl3 _ => ?_⟩
            have hm' : m - 1 + (i + 1) = items.length := by omega
            split at e2
            · rename_i ls4 hp4 e4
              exact ⟨ls3, hp2, μ2, .nx, ls4, hp4, rl3, rh3, e4, fun H5 μ5 x5 rh5 σ5 rl5 => ⟨hm', ls4, hp4, μ5, (x2.trans x3).trans x5, rl5, rh5, e2⟩⟩
            · rename_i ls4 hp4 e4
              exact ⟨ls3, hp2, μ2, .ct, ls4, hp4, rl3, rh3, e4, fun H5 μ5 x5 rh5 σ5 rl5 => ⟨hm', ls4, hp4, μ5, (x2.trans x3).trans x5, rl5, rh5, e2⟩⟩
            · rename_i ls4 hp4 e4
              cases e2
              exact ⟨ls3, hp2, μ2, .bk, _, _, rl3, rh3, e4, fun H5 μ5 x5 rh5 σ5 rl5 => q H5 μ5 (x1.trans ((x2.trans x3).trans x5)) rh5 σ5 rl5⟩
            · rename_i d ls4 hp4 e4
              cases e2
              exact ⟨ls3, hp2, μ2, .rt d, _, _, rl3, rh3, e4, fun H5 μ5 x5 rh5 => q H5 μ5 (x1.trans ((x2.trans x3).trans x5)) rh5⟩
            · cases e2
          · cases e2
        · cases e2
      · rw [List.drop_eq_nil_of_le (by omega)] at e2
        simp only [sFor] at e2
        split at e2
        · rename_i hgd
          cases e2
          obtain ⟨w1, _⟩ := wk i H2 μ2 _ x2 rh2 hgd
          exact .inl ⟨w1 (by omega), q H2 μ2 (x1.trans x2) rh2 σ2 rl2⟩
        · cases e2
    · cases e
end
end Ve
namespace Ve
open PySem PySem.Spec L2 PyProof.Rows
structure RoomG (k : Nat) (A : Around) : Prop where
  r : L2.Room k A
  gd : A.guards = some []
theorem RoomG.mono {j k : Nat} {A : Around} (r : RoomG k A) (h : j ≤ k) : RoomG j A := ⟨r.r.mono h, r.gd⟩
theorem RoomG.deeper {k : Nat} {A : Around} (r : RoomG (k + 1) A) (env : Env) : RoomG k (A.deeper env) := ⟨r.r.deeper env, r.gd⟩
theorem RoomG.units {k : Nat} {A : Around} (r : RoomG k A) : A.units + 64 < cLine := r.r.units
theorem RoomG.units0 {k : Nat} {A : Around} (r : RoomG k A) : A.units < cLine := r.r.units0
theorem RoomG.units65 {k : Nat} {A : Around} (r : RoomG k A) : A.units + 65 < cLine := by
  have := r.r.un
  omega
theorem hu_ofG {A : Around} {k : Nat} (hr : RoomG k A) : A.units + 1 < cLine := by
  have := hr.r.un
  omega
structure FnG (P : Program) (w : World) (K : PySem.W.Frag) (mg : Str → Option Value) (base : Heap) (CX : CXT) (k : Nat) (f : Addr) (fd : FuncData) (ps : List Str) (sp : Sp) : Prop where
  len : ∀ vs H Q E, sp vs H Q E → vs.length = ps.length
  run : ∀ (A : Around) (outer : List Env) (s : Shared) (H : Hp) (args : Args) (us : List Value) (vs : List V) (Q : VK) (E : XK), RoomG k A → Env0 P w K mg base A outer s H → BindsTo s fd args (ps.zip us) → Vals vs us → sp vs H Q E →
    codeAny (model P w) A (.call (.ref f) args) (CR CX outer P w H s Q E) s
section
variable {P : Program} {w : World} {K : PySem.W.Frag} {mg : Str → Option Value} {base : Heap} {CX : CXT} {j k : Nat} {f : Addr} {fd : FuncData} {ps : List Str} {sp sp' : Sp}
theorem FnG.mono (F : FnG P w K mg base CX j f fd ps sp) (h : j ≤ k) : FnG P w K mg base CX k f fd ps sp := ⟨F.len, fun A outer s H args us vs Q E hr => F.run A outer s H args us vs Q E (hr.mono h)⟩
theorem FnG.imp (F : FnG P w K mg base CX k f fd ps sp) (h : ∀ vs H Q E, sp' vs H Q E → sp vs H Q E) : FnG P w K mg base CX k f fd ps sp' :=
  ⟨fun vs H Q E q => F.len vs H Q E (h _ _ _ _ q), fun A outer s H args us vs Q E hr he hb hv hs => F.run A outer s H args us vs Q E hr he hb hv (h _ _ _ _ hs)⟩
end
section
variable {X : Cx} {CX : CXT} {k : Nat} {f : Addr} {fd : FuncData} {ps : List Str} {sp : Sp} {dvs : List V} {ds : List Value} {E : XK} {x : Str} {p pos : Pos} {e : Expr} {es : List Expr} {t : TA}
theorem run_fnG {pins : List (Addr × Obj)} {σ : L2.St} {H : Hp} {s : Shared} {Q : VK} {us : List Value} {vs : List V} (F : FnG X.prog X.w X.K X.mg X.base CX k f fd ps sp) (hr : RoomG k X.A) (hb : Binds X.K fd ps ds) (hd : Vals dvs ds) (hx : Passes CX X E)
    (I : Inv X pins σ H s) (r : Vals vs us) (h : sp (vs ++ dvs) H Q E) : wpAny (model X.prog X.w) X.A (call (.ref f) us) (EP X pins σ Q) X.xe s := by
  have r2 := r.append hd
  have hl : (us ++ ds).length = ps.length := r2.length ▸ F.len _ _ _ _ h
  refine wpAny_call (codeAny_mono (F.run X.A X.stack s H ⟨us, []⟩ _ _ Q E hr I.env0 (hb s us I.kIn hl) r2 h) fun r s' hq => ?_)
  match r, hq with
  | .error e, hq => exact hx pins σ H s e s' I hq
  | .ok (.ret u), hq => exact I.after hq
theorem pe_callG (F : FnG X.prog X.w X.K X.mg X.base CX k f fd ps sp) (hr : RoomG k X.A) (hg : Gl X x) (hm : X.mg x = some (.ref f)) (hk : PySem.W.keepIn X.K (.ref f) = true) (hb : Binds X.K fd ps ds) (hd : Vals dvs ds) (hx : Passes CX X E)
    (ha : PA X (e :: es) t) (hdb : (x == ("__debug__" : Str)) = false := by decide) (he : starEach (e :: es) X.env = (false, eval e X.env) :: starEach es X.env := by rfl) (hpl : (backTo pos (starEach es X.env)).any (·.1) = false := by rfl) :
    PE X (.Call (.Name x p) (e :: es) [] pos) (tCall sp dvs E t) :=
  ⟨fun pins s σ H Q I h => wpAny_Call_Name_kw (ld_glob I hg hm (PySem.W.callWith_K (h₀ := X.base) I.ok.mod.kin hk (thn (ha.run pos pins s σ H _ I h) fun us s1 ⟨vs, H1, I1, r, q⟩ => ⟨I1.kIn, run_fnG F hr hb hd hx I1 r q⟩) he hpl) hdb)⟩
theorem pe_callG0 (F : FnG X.prog X.w X.K X.mg X.base CX k f fd ps sp) (hr : RoomG k X.A) (hg : Gl X x) (hm : X.mg x = some (.ref f)) (hk : PySem.W.keepIn X.K (.ref f) = true) (hb : Binds X.K fd ps ds) (hd : Vals dvs ds) (hx : Passes CX X E)
    (hdb : (x == ("__debug__" : Str)) = false := by decide) : PE X (.Call (.Name x p) [] [] pos) (tCall sp dvs E tNil) :=
  ⟨fun pins s σ H Q I h => wpAny_Call_Name_kw (ld_glob I hg hm (PySem.W.callWith_K0 I.kIn hk (run_fnG (us := []) F hr hb hd hx I .nil h)) hdb)⟩
end
theorem fnG_of {CX : CXT} {P : Program} {w : World} {K : PySem.W.Frag} {mg : Str → Option Value} {base : Heap} {k : Nat} {f : Addr} {name qual : Str} {params : Arguments} {body : List Stmt} {scope : Scope} {dV kV doc pm cdv ct oc : Value} {an od : Option Addr}
    {osl : Array (Option Value)} {N ps : List Str} {sp : Sp} (lk : K.lookup f = some ⟨oc, od, .func (PySem.W.fnOf name qual params body scope dV kV doc pm an cdv ct), osl⟩) (hcd : PySem.W.codeIn K cdv qual = true) (S : FnScope N ps scope)
    (len : ∀ vs H Q E, sp vs H Q E → vs.length = ps.length)
    (hbody : ∀ (A : Around) (outer : List Env) (s : Shared) (H : Hp) (vs : List V) (Q : VK) (E : XK), RoomG k (A.deeper (envOfC qual scope s.heap.objs.size f cdv)) → sp vs H Q E →
      ∃ t, PSs (cxOf CX P w K mg base N qual scope f cdv A outer s H E) body t ∧ t { nx := fun _ H' => Q .non H', rt := Q } (L2.start N vs) H) :
    FnG P w K mg base CX (k + 1) f (PySem.W.fnOf name qual params body scope dV kV doc pm an cdv ct) ps sp where
  len := len
  run A outer s H args us vs Q E hr e0 hb r hsp := by
    have hl := len _ _ _ _ hsp
    have KX : K.In s.heap := e0.mod.kin.keeps fun b o e => (e0.bs b o e).1
    have lim : s.heap.NoLimit := e0.mod.nolimit.keeps fun b o e => (e0.bs b o e).1
    have kinds : ∀ y ∈ ps.zip us, scope.names.lookup y.1 = some .local ∨ (scope.names.lookup y.1 = some .cell ∧ ((cellsFrom (s.heap.objs.size + 1) scope.names []).lookup y.1).isSome = true) := fun y hy =>
      (S.par y.1 (List.of_mem_zip hy).1).imp id fun q => ⟨q, PySem.W.cellsFrom_some _ _ _ (.inl q)⟩
    refine codeAny_call_function hr.r.depth (KX _ _ lk) rfl S.co S.gen rfl (PySem.W.codeRec_of KX hcd) (hb _ _ _ _ (wpAny_newFunctionEnv_cells S.kind kinds fun env he s1 x => ?_))
    subst he
    obtain ⟨t, ht, hq⟩ := hbody A outer s H vs Q E (hr.deeper _) hsp
    refine ⟨lim.keeps x.toInCall.keep, codeAny_func (wpAny_mono (ht.run [] s1 (L2.start N vs) H _ (inv_start S hr.r.hd e0 hl r x) hq) (fun fl s' hs => ?_) fun _ _ hs => hs)⟩
    cases fl with
    | ret u =>
      obtain ⟨v, σ', H', J, rv, q⟩ := hs
      exact ⟨v, H', J.os, J.bare, J.base, J.hok, rv, q⟩
    | next =>
      obtain ⟨σ', H', J, q⟩ := hs
      exact ⟨V.non, H', J.os, J.bare, J.base, J.hok, rfl, q⟩
    | brk =>
      obtain ⟨_, _, _, q⟩ := hs
      exact False.elim q
    | cont =>
      obtain ⟨_, _, _, q⟩ := hs
      exact False.elim q
theorem Fun.okG {P : Program} {w : World} {K : PySem.W.Frag} {mg : Str → Option Value} {base : Heap} {x qual : Str} {st : Stmt} {f : Addr} {fd : FuncData} {N ps : List Str} {k : Nat} {sp : Sp} (F : Fun K x qual st f fd) (S : FnScope N ps (defScope st)) (len : ∀ vs H Q E, sp vs H Q E → vs.length = ps.length)
    (hbody : ∀ (cdv : Value) (A : Around) (outer : List Env) (s : Shared) (H : Hp) (vs : List V) (Q : VK) (E : XK), RoomG k (A.deeper (envOfC qual (defScope st) s.heap.objs.size f cdv)) → sp vs H Q E →
      ∃ t, PSs (cxOf CX0 P w K mg base N qual (defScope st) f cdv A outer s H E).nox (defBody st) t ∧ t { nx := fun _ H' => Q .non H', rt := Q } (L2.start N vs) H) : FnG P w K mg base CX0 (k + 1) f fd ps sp := by
  obtain ⟨oc, od, kV, doc, pm, an, cdv, ct, osl, rfl, lk, hcd⟩ := F.ex
  exact fnG_of lk hcd S len fun A outer s H vs Q E hr hsp => by
    obtain ⟨t, h, q⟩ := hbody cdv A outer s H vs Q E hr hsp
    exact ⟨t, h.nox, q⟩
theorem law_callG {P : Program} {w : World} {K : PySem.W.Frag} {mg mb : Str → Option Value} {CX : CXT} {k : Nat} {fa a : Addr} {fd : FuncData} {x : Str} {sp : Sp} {s₁ : Shared} {vs : List Value} {ns : List Int}
    (KX : K.In s₁.heap) (hns : s₁.heap.Ns mainGlobals mg) (hb : s₁.heap.Ns builtinsNs mb) (hbb : ∀ x : Str, x ≠ "__name__" → mb x = bootBuiltins x) (hlim : s₁.heap.NoLimit) (hg : s₁.gens = #[])
    (ha : s₁.heap.get? a = some { cls := .type "list", data := .seq vs.toArray }) (hi : IntsAre vs ns) (hl : ns.length ≤ sizeLine) (hr : RoomG k callerA)
    (F : ∀ base : Heap, K.In base → base.Ns mainGlobals mg → FnG P w K mg base CX k fa fd [x] sp) (hbind : ∀ (s : Shared) (u : Value), BindsTo s fd ⟨[u], []⟩ [(x, u)])
    (hsp : ∀ H : Hp, Only H → SqL K H a (ns.map V.int) → sp [.ref a] H (fun v _ => v = .bl true) fun _ _ _ => False)
    (hCX : ∀ H e s', CX [] H s₁ (fun _ _ _ => False) e s' → False) :
    codeAny (model P w) callerA (.call (.ref fa) ⟨[.ref a], []⟩) (fun r s' => r = .ok (.ret (.bool true)) ∧ OldK s₁.heap s'.heap ∧ s'.os = s₁.os ∧ AllBare s'.gens) s₁ := by
  have core : ∀ H : Hp, Only H → SqL K H a (ns.map V.int) → HOk P w H s₁.heap → (∀ b, H b ≠ none → b = a) → (H a ≠ none → K.lookup a = none) →
      codeAny (model P w) callerA (.call (.ref fa) ⟨[.ref a], []⟩) (fun r s' => r = .ok (.ret (.bool true)) ∧ OldK s₁.heap s'.heap ∧ s'.os = s₁.os ∧ AllBare s'.gens) s₁ := by
    intro H hO hS hok hA hK
    have free : ∀ {b : Addr} {o : Obj}, s₁.heap.get? b = some o → (b = a → False) → H b = none := fun {b o} _ hne => Decidable.byContradiction fun z => hne (hA b z)
    have dicFree : ∀ {b : Addr} {o : Obj} {es : Array DictEntry} {ep : Nat}, s₁.heap.get? b = some o → o.data = .dict es ep → H b = none := fun {b o es ep} e d => free e fun z => by
      subst z
      rw [ha] at e
      cases e
      have d' : Data.seq vs.toArray _ = Data.dict es ep := d
      cases d'
    have ns_ : ∀ {b : Addr} {m : Str → Option Value}, s₁.heap.Ns b m → (hidT s₁.heap H).Ns b m := fun {b m} ⟨o, es, ep, e, d, r⟩ => ⟨o, es, ep, hidT_get e (dicFree e d), d, r⟩
    have hKb : K.In (hidT s₁.heap H) := fun b o e => hidT_get (KX b o e) (Decidable.byContradiction fun z => by
      have z2 := hA b z
      subst z2
      rw [hK z] at e
      cases e)
    have hM : Mod K mg (hidT s₁.heap H) := ⟨hKb, ns_ hns, ⟨mb, ns_ hb, hbb⟩, let ⟨mc, h1, h2⟩ := hlim; ⟨mc, ns_ h1, h2⟩⟩
    have e0 : Env0 P w K mg (hidT s₁.heap H) callerA [] s₁ H := ⟨rfl, hM, fun b o e => of_hidT e, Nat.le_of_eq (hidT_size _ _), trivial, fun b hb => absurd (show b ∈ ([] : List Addr) from hb) (by simp), hok, .of_eq hg⟩
    refine codeAny_mono ((F _ hKb (ns_ hns)).run callerA [] s₁ H ⟨[.ref a], []⟩ [.ref a] [.ref a] _ _ hr e0 (hbind s₁ (.ref a)) (.cons rfl .nil) (hsp H hO hS)) fun r s' h => ?_
    match r, h with
    | .error e, h => exact (hCX H e s' h).elim
    | .ok (.ret u), ⟨v, H', os, bare, un, hok', r', q⟩ =>
      have q' : v = .bl true := q
      subst q'
      obtain rfl : u = Value.bool true := r'
      refine ⟨rfl, OldK.of_keep fun b o e => ?_, os, bare⟩
      rcases Classical.em (H b = none) with q | q
      · exact un.keep b o e q (by intro z; exact absurd (show b ∈ ([] : List Addr) from z) (by simp)) (by simp)
      · rcases hO b with z | ⟨ob, xs, z⟩
        · exact absurd z q
        · obtain ⟨e1, _⟩ := hok b _ z
          obtain ⟨e2, _⟩ := hok' b _ (un.frzs b ob _ z)
          rw [e] at e1
          cases e1
          exact e2
  have rv := vals_ints hi
  cases hk : K.lookup a with
  | some o =>
    have e := KX a o hk
    rw [ha] at e
    cases e
    exact core (fun _ => none) (fun _ => .inl rfl) (.inr ⟨_, vs.toArray, _, hk, rfl, rfl, rfl, by rw [List.size_toArray, hi.length]; exact hl, by simpa using rv⟩) (fun b u z => nomatch (show (none : Option HO) = some u from z)) (fun b z => absurd rfl z) fun z => absurd rfl z
  | none =>
    have at_a : ∀ b u, (fun b => if b = a then some (HO.frz { cls := .type "list", data := .seq vs.toArray } (.lst (ns.map V.int))) else none) b = some u → b = a ∧ u = .frz { cls := .type "list", data := .seq vs.toArray } (.lst (ns.map V.int)) := fun b u z => by
      have z : (if b = a then some (HO.frz { cls := .type "list", data := .seq vs.toArray } (.lst (ns.map V.int))) else none) = some u := z
      split at z
      · rename_i h
        cases z
        exact ⟨h, rfl⟩
      · cases z
    refine core (fun b => if b = a then some (.frz { cls := .type "list", data := .seq vs.toArray } (.lst (ns.map V.int))) else none) (fun b => ?_) (.inl (.inr ⟨{ cls := .type "list", data := .seq vs.toArray }, if_pos rfl⟩)) (fun b u z => ?_) (fun b z => ?_) fun _ => hk
    · rcases Decidable.em (b = a) with q | q
      · exact .inr ⟨_, _, if_pos q⟩
      · exact .inl (if_neg q)
    · obtain ⟨rfl, rfl⟩ := at_a b u z
      exact ⟨ha, by rw [List.length_map]; exact hl, vs, _, rv, ha⟩
    · rcases Decidable.em (b = a) with q | q
      · exact q
      · exact absurd (if_neg q) z
theorem walk_ofG {l : PySem.W.OpenLaw} {n k : Nat} {q : Program} {loose : List Str} {XP : (Str → Option Value) → Heap → Prop} {YP : World → Heap → Prop} {d : DefRec} {K : Params → PySem.W.Frag} {CX : World → CXT} {sp : World → Sp} {x : Str}
    (hn : l.most = some n) (hn2 : n ≤ sizeLine) (hdf : d.params.defaults = []) (hr : RoomG k callerA)
    (hY : ∀ (w : World) (h : Heap), YP w h → (K w.params).In h)
    (F : ∀ (w : World) (mg : Str → Option Value) (fa : Addr) (h : Heap), (K w.params).In h → h.Ns mainGlobals mg → mg d.name = some (.ref fa) →
      ∃ fd : FuncData, (∀ (s : Shared) (u : Value), BindsTo s fd ⟨[u], []⟩ [(x, u)]) ∧
        ∀ base : Heap, (K w.params).In base → base.Ns mainGlobals mg → FnG l.prog w (K w.params) mg base (CX w) k fa fd [x] (sp w))
    (hsp : ∀ (w : World) (H : Hp) (a : Addr) (ns : List Int), ns.length ≤ n → Only H → SqL (K w.params) H a (ns.map V.int) → sp w [.ref a] H (fun v _ => v = .bl true) fun _ _ _ => False)
    (hCX : ∀ (w : World) (H : Hp) (s : Shared) (e : Value) (s' : Shared), CX w [] H s (fun _ _ _ => False) e s' → False) :
    PySem.W.WalkO q loose XP YP l.row.toRowW d [] (fun f vs => PySem.call f vs) := by
  refine Att.attach_call hn hdf fun w s₀ s₁ mg mb fa o pm cd doc a vs ns G Y ho hd hcd hmg hobj hints hlen hg => ?_
  have KX := hY w _ Y
  obtain ⟨fd, hb, hF⟩ := F w mg fa _ KX G.T.g hmg
  exact law_callG KX G.T.g G.T.b G.T.builtins G.T.nolimit hg hobj hints (Nat.le_trans hlen hn2) hr hF hb (fun H hO hS => hsp w H a ns hlen hO hS) fun H e s' => hCX w H s₁ e s'
end Ve
namespace Ve
open PySem PySem.Spec L2

section
variable {K : PySem.W.Frag} {H H' H2 : Hp} {μ μ' μ2 : List Addr} {hp hp' : Hd} {ls : Ls} {σ : St}
theorem Ext.back (x : Ext μ H μ' H') (r : RelH K H' μ' hp) {p : Addr} (h : H' p = none) : H p = none := by
  cases hh : H p with
  | none => rfl
  | some o =>
    exfalso
    by_cases hm : p ∈ μ
    · exact r.notIn h (by
        obtain ⟨ν, e⟩ := x.pre
        rw [e]
        exact List.mem_append_left _ hm)
    · have := x.keep p o hm hh
      rw [h] at this
      cases this
theorem Mon.loose {D : Addr} {xs : List V} {o : HO} (h : H D = some (.lst xs)) : Mon μ H μ (upd H D o) :=
  ⟨⟨[], by simp⟩, fun a ys e => by rw [upd_ne (fun z => by subst z; rw [h] at e; cases e)]; exact e, fun a ob ys e => by rw [upd_ne (fun z => by subst z; rw [h] at e; cases e)]; exact e⟩
theorem RelH.loose (r : RelH K H μ hp) {D : Addr} {xs : List V} {o : HO} (h : H D = some (.lst xs)) (hn : D ∉ μ) : RelH K (upd H D o) μ hp :=
  ⟨r.len, r.nd, fun n ob a e1 e2 => by
    rw [upd_ne (fun z => hn (by rw [← z]; exact List.mem_of_getElem? e2))]
    exact (r.obj n ob a e1 e2).mon (Mon.loose h)⟩
theorem Ext.loose (x : Ext μ H μ' H') {D : Addr} {o : HO} (h : H D = none) : Ext μ H μ' (upd H' D o) :=
  ⟨x.pre, x.new, fun a u n e => by rw [upd_ne (ne_of_none e h)]; exact x.keep a u n e, fun a xs e => by rw [upd_ne (ne_of_none e h)]; exact x.tups a xs e, fun a ob xs e => by rw [upd_ne (ne_of_none e h)]; exact x.scrs a ob xs e⟩
end

def wipeL (ls : Ls) : List Nat → Ls
  | [] => ls
  | v :: vs => (wipeL ls vs).set v none
theorem wipeL_length (ls : Ls) : ∀ vs : List Nat, (wipeL ls vs).length = ls.length
  | [] => rfl
  | v :: vs => by unfold wipeL; rw [List.length_set, wipeL_length ls vs]
theorem Rl.wipe {K : PySem.W.Frag} {H : Hp} {μ : List Addr} {ls : Ls} {σ : St} (h : Rl K H μ ls σ) : ∀ vs : List Nat, Rl K H μ (wipeL ls vs) (wipe σ vs)
  | [] => h
  | v :: vs => by
    have ih := Rl.wipe h vs
    unfold wipeL L2.wipe
    refine ⟨by rw [List.length_set, List.length_set, ih.1], fun j e hj => ?_⟩
    by_cases hv : v = j
    · subst hv
      by_cases hl : v < (wipeL ls vs).length
      · rw [List.getElem?_set_self hl] at hj
        cases hj
      · rw [List.getElem?_eq_none (by simpa using hl)] at hj
        cases hj
    · rw [List.getElem?_set_ne hv] at hj
      rw [List.getElem?_set_ne hv]
      exact ih.2 j e hj
theorem wipe_none {σ : St} {v : Nat} : ∀ us : List Nat, v ∈ us → (wipe σ us).set v none = wipe σ us
  | [], h => by cases h
  | u :: us, h => by
    show ((wipe σ us).set u none).set v none = (wipe σ us).set u none
    by_cases hu : v = u
    · subst hu
      rw [List.set_set]
    · rcases List.mem_cons.mp h with z | z
      · exact absurd z hu
      · rw [List.set_comm _ _ (Ne.symm hu), wipe_none us z]
theorem wipe_key {σ : St} (vs : List Nat) : ∀ ws : List Nat, (∀ i ∈ ws, i ∈ vs) → wipe (wipe σ vs) ws = wipe σ vs
  | [], _ => rfl
  | v :: ws, hv => by
    show (wipe (wipe σ vs) ws).set v none = wipe σ vs
    rw [wipe_key vs ws fun i hi => hv i (List.mem_cons_of_mem _ hi)]
    exact wipe_none vs (hv v List.mem_cons_self)
theorem wipe_idem {σ : St} (vs : List Nat) : wipe (wipe σ vs) vs = wipe σ vs := wipe_key vs vs fun _ h => h
def tYesD : AT := fun _ hp => some (true, hp)
abbrev DTs (X : Cx) (es : List Expr) (f : AT) : Prop := PTs X es (tT X.K f)
def lcGo (t : Tg) (gd : Gd) (tt : AT) (te : AE) (ls0 : Ls) : List D → Hd → Option (List D × Hd)
  | [], hp => if gdOk gd hp then some ([], hp) else none
  | x :: xs, hp => if gdOk gd hp then match t.asg x ls0 with
    | some ls1 => match tt ls1 hp with
      | some (true, hp1) => match te ls1 hp1 with
        | some (d, hp2) => match lcGo t gd tt te ls0 xs hp2 with
          | some (r, hp3) => some (d :: r, hp3)
          | none => none
        | none => none
      | some (false, hp1) => lcGo t gd tt te ls0 xs hp1
      | none => none
    | none => none else none
def mLc (fi : AI) (t : Tg) (own : List Nat) (tt : AT) (te : AE) : AA := fun ls hp => match fi ls hp with
  | some (items, gd, hp1) => if items.length ≤ sizeLine then lcGo t gd tt te (wipeL ls own) items hp1 else none
  | none => none
theorem PTs.imp {X : Cx} {e : List Expr} {t t' : TT} (h : PTs X e t) (i : ∀ σ H Q, t' σ H Q → t σ H Q) : PTs X e t' := ⟨fun pins s σ H Q I q => h.run pins s σ H Q I (i σ H Q q)⟩

section
variable {X : Cx} {e elt tg iter : Expr} {es ifs : List Expr} {fi : AI} {t : Tg} {tt : AT} {te fa : AE} {fr : AA} {pos : Pos}
theorem dts_nil : DTs X [] tYesD := PTs.imp pts_nil fun σ H Q ⟨ls, hp, μ, b, hp', rl, rh, e, q⟩ => by
  cases e
  exact q H μ Ext.refl rh
theorem dts_one {c : Expr} (h : DT X c tt) : DTs X [c] tt := pts_one h

theorem tLc_of {K : PySem.W.Frag} {own : List Nat} {σ : St} {H : Hp} {Q : VK} (ho : ∀ i ∈ t.slots, i ∈ own) (h : tL K (mLc fi t own tt te) σ H Q) : tLc (tI K fi) (gD K t) (tT K tt) (tD K te) own σ H Q := by
  obtain ⟨ls, hp, μ, ds, hp', rl, rh, e, q⟩ := h
  unfold mLc at e
  split at e
  · rename_i items gd hp1 e1
    split at e
    · rename_i hsz
      refine ⟨ls, hp, μ, items, gd, hp1, rl, rh, e1, fun J H1 μ1 x1 rh1 wk D hD => ?_⟩
      have hD0 : H D = none := x1.back rh1 hD
      refine ⟨fun i m H2 => m + i = items.length ∧ ∃ acc accV r hp2 μ2, Ext μ1 H1 μ2 H2 ∧ D ∉ μ2 ∧ RelH K H2 μ2 hp2 ∧ H2 D = some (.lst accV) ∧ Rps K H2 μ2 acc accV ∧ acc.length ≤ i ∧
        lcGo t gd tt te (wipeL ls own) (items.drop i) hp2 = some (r, hp') ∧ acc ++ r = ds,
        ⟨items.length, by omega, [], [], ds, hp1, μ1, Ext.laid rh1 hD, rh1.notIn hD, rh1.laid hD, upd_same, Rps.nil, Nat.le_refl _, e, rfl⟩, ?_⟩
      rintro i m H2 ⟨hm, acc, accV, r, hp2, μ2, x2, nD, rh2, eD, ra, hl, e2, er⟩
      by_cases hi : i < items.length
      · have hd : items.drop i = items[i] :: items.drop (i + 1) := List.drop_eq_getElem_cons hi
        rw [hd] at e2
        simp only [lcGo] at e2
        split at e2
        · rename_i hgd
          obtain ⟨_, w2⟩ := wk i H2 μ2 hp2 x2 rh2 hgd
          obtain ⟨w3, w4⟩ := w2 hi
          refine .inr ⟨w3, fun H' => m - 1 + (i + 1) = items.length ∧ ∃ acc accV r hp2 μ2, Ext μ1 H1 μ2 H' ∧ D ∉ μ2 ∧ RelH K H' μ2 hp2 ∧ H' D = some (.lst accV) ∧ Rps K H' μ2 acc accV ∧ acc.length ≤ i + 1 ∧
            lcGo t gd tt te (wipeL ls own) (items.drop (i + 1)) hp2 = some (r, hp') ∧ acc ++ r = ds, fun H' h => ⟨m - 1, by omega, h⟩, fun x H3 hy => ?_⟩
          have hm' : m - 1 + (i + 1) = items.length := by omega
          obtain ⟨d, ed, x3, rh3, r3⟩ := w4 x H3 hy
          rw [List.getElem?_eq_getElem hi] at ed
          cases ed
          have eD3 : H3 D = some (.lst accV) := x3.keep _ _ nD eD
          split at e2
          · rename_i ls3 e3
            have rl3 := ((((rl.ext x1).ext x2).ext x3).wipe own)
            refine ⟨wipeL ls own, μ2, _, ls3, rl3, r3, e3, fun σ3 rl4 w => ⟨?_, ls3, hp2, μ2, ?_⟩⟩
            · rw [w own ho]
              exact wipe_idem own
            · split at e2
              · rename_i hp4 e4
                refine ⟨true, hp4, rl4, rh3, e4, fun H4 μ4 x4 rh4 => iteT ?_⟩
                have nD4 : D ∉ μ4 := x4.new _ _ nD eD3
                have eD4 : H4 D = some (.lst accV) := x4.keep _ _ nD eD3
                split at e2
                · rename_i d5 hp5 e5
                  split at e2
                  · rename_i r6 hp6 e6
                    cases e2
                    refine ⟨ls3, hp4, μ4, d5, hp5, rl4.ext x4, rh4, e5, fun y H5 μ5 x5 rh5 r5 => ?_⟩
                    have nD5 : D ∉ μ5 := x5.new _ _ nD4 eD4
                    have eD5 : H5 D = some (.lst accV) := x5.keep _ _ nD4 eD4
                    have x15 := (((x2.trans x3).trans x4).trans x5)
                    have ra5 := ((ra.ext x3).ext x4).ext x5
                    refine ⟨accV, eD5, ?_, hm', acc ++ [d5], accV ++ [y], r6, hp5, μ5, x15.loose hD, nD5, rh5.loose eD5 nD5, upd_same, ?_, ?_, e6, ?_⟩
                    · rw [ra.len]
                      omega
                    · have mo : Mon μ5 H5 μ5 (upd H5 D (.lst (accV ++ [y]))) := Mon.loose eD5
                      refine (ra5.append ?_).mon mo
                      rw [Rps]
                      exact ⟨y, [], rfl, r5, Rps.nil⟩
                    · rw [List.length_append]
                      simp
                      omega
                    · rw [← er, List.append_assoc]
                      rfl
                  · cases e2
                · cases e2
              · rename_i hp4 e4
                refine ⟨false, hp4, rl4, rh3, e4, fun H4 μ4 x4 rh4 => iteF ⟨hm', acc, accV, r, hp4, μ4, (x2.trans x3).trans x4, x4.new _ _ nD eD3, rh4, x4.keep _ _ nD eD3, (ra.ext x3).ext x4, by omega, e2, er⟩⟩
              · cases e2
          · cases e2
        · cases e2
      · rw [List.drop_eq_nil_of_le (by omega)] at e2
        simp only [lcGo] at e2
        split at e2
        · rename_i hgd
          cases e2
          obtain ⟨w1, _⟩ := wk i H2 μ2 _ x2 rh2 hgd
          rw [List.append_nil] at er
          subst er
          exact .inl ⟨w1 (by omega), q D accV H2 μ2 (x1.trans x2) rh2 hD0 nD eD ra⟩
        · cases e2
    · cases e
  · cases e
theorem le_lc {ifs : List Expr} {scope : Scope} {own : List (Str × Nat)} (hc : X.calm = true) (hN : X.N.Nodup) (hi : DI X tg iter fi) (ok : BlkOk X.N X.env.scope scope own)
    (hg : ∀ (s : Shared) (H : Hp) (C : Addr) (cl : List (Str × Addr)) (fp : List Addr), DG (X.blk s H scope (compEnvC scope cl C X.env) fp) tg t) (ht : ∀ (s : Shared) (H : Hp) (C : Addr) (cl : List (Str × Addr)) (fp : List Addr), DTs (X.blk s H scope (compEnvC scope cl C X.env) fp) ifs tt)
    (he : ∀ (s : Shared) (H : Hp) (C : Addr) (cl : List (Str × Addr)) (fp : List Addr), DE (X.blk s H scope (compEnvC scope cl C X.env) fp) elt te) (ho : ∀ i ∈ t.slots, i ∈ own.map (·.2) := by decide) (hs : ∀ x, foldedSetIterable iter X.env x = pure x := by intro _; rfl) :
    LE X (.ListComp elt [⟨tg, iter, ifs, 0⟩] scope pos) (mLc fi t (own.map (·.2)) tt te) :=
  PE.imp (pe_lc hc hN hi ok hg ht he hs) fun _ _ _ h => tLc_of ho h
theorem ds_setLc {i : Nat} {y : Str} {py spos : Pos} {scope : Scope} {own : List (Str × Nat)} (hc : X.calm = true) (hN : X.N.Nodup) (hy : X.N[i]? = some y) (hyl : X.env.scope.names.lookup y = some .local)
    (hsw : swapsWith (.ListComp elt [⟨tg, iter, ifs, 0⟩] scope pos) (some (.Name y py)) spos.line X.env = pure true) (hi : DI X tg iter fi) (ok : BlkOk X.N X.env.scope scope own)
    (hg : ∀ (s : Shared) (H : Hp) (C : Addr) (cl : List (Str × Addr)) (fp : List Addr), DG (X.blk s H scope (compEnvC scope cl C X.env) fp) tg t) (ht : ∀ (s : Shared) (H : Hp) (C : Addr) (cl : List (Str × Addr)) (fp : List Addr), DTs (X.blk s H scope (compEnvC scope cl C X.env) fp) ifs tt)
    (he : ∀ (s : Shared) (H : Hp) (C : Addr) (cl : List (Str × Addr)) (fp : List Addr), DE (X.blk s H scope (compEnvC scope cl C X.env) fp) elt te) (ho : ∀ i ∈ t.slots, i ∈ own.map (·.2) := by decide) (hs : ∀ x, foldedSetIterable iter X.env x = pure x := by intro _; rfl) :
    DS X (.Assign [.Name y py] (.ListComp elt [⟨tg, iter, ifs, 0⟩] scope pos) spos) (sSet i (mNew (mLc fi t (own.map (·.2)) tt te))) :=
  PS.imp (ps_setLc (g := gD X.K t) (tt := tT X.K tt) (te := tD X.K te) hc hN hy hyl hsw hi ok hg ht he hs) fun Dn σ H ⟨ls, hp, μ, fl, ls', hp', rl, rh, e, q⟩ => by
    refine tLc_of (K := X.K) (tt := tt) (te := te) ho ?_
    unfold sSet mNew at e
    cases e1 : mLc fi t (own.map (·.2)) tt te ls hp with
    | none => rw [e1] at e; cases e
    | some p1 =>
      obtain ⟨ds, hp1⟩ := p1
      rw [e1] at e
      cases e
      refine ⟨ls, hp, μ, ds, hp1, rl, rh, e1, fun a vs H1 μ1 x1 rh1 h0 hn hl r1 => ?_⟩
      refine q H1 (μ1 ++ [a]) (x1.place h0) (rh1.place hn ⟨vs, hl, r1.mon Mon.grow⟩) _ ((rl.ext (x1.place h0)).set ?_)
      rw [Rp]
      refine ⟨a, ?_, rfl⟩
      rw [List.getElem?_append_right (by rw [rh1.len]; exact Nat.le_refl _), rh1.len]
      simp

def spD (K : PySem.W.Frag) (n : Nat) (g : List D → Hd → Option (D × Hd)) : Sp := fun vs H Q _ => ∃ hp μ ds d hp', ds.length = n ∧ RelH K H μ hp ∧ Rps K H μ ds vs ∧ g ds hp = some (d, hp') ∧
  ∀ v H' μ', Ext μ H μ' H' → RelH K H' μ' hp' → Rp K H' μ' d v → Q v H'
def ar (n : Nat) (g : List D → Hd → Option (D × Hd)) : List D → Hd → Option (D × Hd) := fun ds hp => if ds.length = n then g ds hp else none
theorem de_call {k : Nat} {f : Addr} {fd : FuncData} {ps : List Str} {n : Nat} {g : List D → Hd → Option (D × Hd)} {x : Str} {p : Pos} (F : FnG X.prog X.w X.K X.mg X.base CX0 k f fd ps (spD X.K n g)) (hr : RoomG k X.A) (hg : Gl X x) (hm : X.mg x = some (.ref f)) (hk : PySem.W.keepIn X.K (.ref f) = true)
    (hb : Binds X.K fd ps []) (ha : DA X (e :: es) fr) (hdb : (x == ("__debug__" : Str)) = false := by decide) (he : starEach (e :: es) X.env = (false, eval e X.env) :: starEach es X.env := by rfl) (hpl : (backTo pos (starEach es X.env)).any (·.1) = false := by rfl) :
    DE X (.Call (.Name x p) (e :: es) [] pos) (mAs fr (ar n g)) :=
  PE.imp (pe_callG F hr hg hm hk hb .nil pass0 ha hdb he hpl) fun σ H Q h => by
    obtain ⟨ls, hp, μ, d, hp', rl, rh, e, q⟩ := h
    unfold mAs at e
    cases e1 : fr ls hp with
    | none => rw [e1] at e; cases e
    | some p1 =>
      obtain ⟨ds, hp1⟩ := p1
      rw [e1] at e
      simp only [ar] at e
      split at e
      · rename_i hn
        refine ⟨ls, hp, μ, ds, hp1, rl, rh, e1, fun vs H1 μ1 x1 rh1 r1 => ?_⟩
        show spD X.K n g (vs ++ []) H1 Q E0
        rw [List.append_nil]
        exact ⟨hp1, μ1, ds, d, hp', hn, rh1, r1, e, fun v H' μ' x2 rh2 r2 => q v H' μ' (x1.trans x2) rh2 r2⟩
      · cases e
theorem de_call0 {k : Nat} {f : Addr} {fd : FuncData} {ps : List Str} {n : Nat} {g : List D → Hd → Option (D × Hd)} {x : Str} {p : Pos} (F : FnG X.prog X.w X.K X.mg X.base CX0 k f fd ps (spD X.K n g)) (hr : RoomG k X.A) (hg : Gl X x) (hm : X.mg x = some (.ref f)) (hk : PySem.W.keepIn X.K (.ref f) = true)
    (hb : Binds X.K fd ps []) (hdb : (x == ("__debug__" : Str)) = false := by decide) :
    DE X (.Call (.Name x p) [] [] pos) (mAs mNil (ar n g)) :=
  PE.imp (pe_callG0 F hr hg hm hk hb .nil pass0 hdb) fun σ H Q h => by
    obtain ⟨ls, hp, μ, d, hp', rl, rh, e, q⟩ := h
    simp only [mAs, mNil, ar] at e
    split at e
    · rename_i hn
      exact ⟨hp, μ, [], d, hp', hn, rh, Rps.nil, e, fun v H' μ' x2 rh2 r2 => q v H' μ' x2 rh2 r2⟩
    · cases e
def stD (n : Nat) (ds : List D) : Ls := ds.map some ++ List.replicate (n - ds.length) none
def mDef (n : Nat) (f : AS) : List D → Hd → Option (D × Hd) := fun ds hp => match f (stD n ds) hp with
  | some (.rt d, _, hp') => some (d, hp')
  | some (.nx, _, hp') => some (.non, hp')
  | _ => none
theorem Rps.get {K : PySem.W.Frag} {H : Hp} {μ : List Addr} : ∀ {ds : List D} {vs : List V} {i : Nat} {d : D}, Rps K H μ ds vs → ds[i]? = some d → ∃ v, vs[i]? = some v ∧ Rp K H μ d v
  | [], _, _, _, _, e => by simp at e
  | x :: xs, vs, i, d, h, e => by
    rw [Rps] at h
    obtain ⟨v, r, rfl, h1, h2⟩ := h
    cases i with
    | zero =>
      simp at e
      subst e
      exact ⟨v, rfl, h1⟩
    | succ i =>
      obtain ⟨w, e1, e2⟩ := Rps.get h2 (by simpa using e)
      exact ⟨w, by simpa using e1, e2⟩
theorem Rl.start {K : PySem.W.Frag} {H : Hp} {μ : List Addr} {N : List Str} {ds : List D} {vs : List V} (r : Rps K H μ ds vs) : Rl K H μ (stD N.length ds) (L2.start N vs) := by
  refine ⟨by simp [stD, L2.start, r.len], fun i d hd => ?_⟩
  unfold stD at hd
  by_cases hi : i < ds.length
  · rw [List.getElem?_append_left (by simpa using hi), List.getElem?_map] at hd
    cases hx : ds[i]? with
    | none => rw [hx] at hd; cases hd
    | some d' =>
      rw [hx] at hd
      cases hd
      obtain ⟨v, e1, r1⟩ := r.get hx
      refine ⟨v, ?_, r1⟩
      unfold L2.start
      rw [List.getElem?_append_left (by simpa [r.len] using hi), List.getElem?_map, e1]
      rfl
  · rw [List.getElem?_append_right (by simpa using hi)] at hd
    rw [List.getElem?_replicate] at hd
    split at hd <;> cases hd
theorem fn_def {P : Program} {w : World} {K : PySem.W.Frag} {mg : Str → Option Value} {base : Heap} {x qual : Str} {st : Stmt} {f : Addr} {fd : FuncData} {N ps : List Str} {k : Nat} {fb : AS} (F : Fun K x qual st f fd) (S : FnScope N ps (defScope st))
    (body : ∀ (cdv : Value) (A : Around) (outer : List Env) (s : Shared) (H : Hp) (E : XK), RoomG k (A.deeper (PyProof.Rows.envOfC qual (defScope st) s.heap.objs.size f cdv)) →
      DSs (cxOf CX0 P w K mg base N qual (defScope st) f cdv A outer s H E).nox (defBody st) fb) : FnG P w K mg base CX0 (k + 1) f fd ps (spD K ps.length (mDef N.length fb)) := by
  refine Fun.okG F S (fun vs H Q E h => ?_) (fun cdv A outer s H vs Q E hr h => ⟨_, body cdv A outer s H E hr, ?_⟩)
  · obtain ⟨hp, μ, ds, d, hp', hn, rh, r, e, q⟩ := h
    rw [r.len, hn]
  · obtain ⟨hp, μ, ds, d, hp', hn, rh, r, e, q⟩ := h
    show tS K fb _ _ _
    unfold mDef at e
    split at e
    · rename_i d' ls' hp1 e1
      cases e
      exact ⟨stD N.length ds, hp, μ, .rt d, ls', hp', Rl.start r, rh, e1, fun H' μ' x1 rh1 v rv => q v H' μ' x1 rh1 rv⟩
    · rename_i ls' hp1 e1
      cases e
      exact ⟨stD N.length ds, hp, μ, .nx, ls', hp', Rl.start r, rh, e1, fun H' μ' x1 rh1 σ' rl' => q .non H' μ' x1 rh1 Rp.non⟩
    · cases e

theorem Wk.range {K : PySem.W.Frag} {lo : Int} {n : Nat} {μ : List Addr} {H : Hp} : Wk K (Itr lo n) ((List.range n).map fun i => D.int (lo + (i : Nat))) [] μ H := by
  intro i H2 μ2 hp2 x2 rh2 _
  refine ⟨fun hi => ?_, fun hi => ⟨?_, fun x H3 hy => ?_⟩⟩
  · show n ≤ i
    simpa using hi
  · show i < n
    simpa using hi
  · obtain ⟨rfl, rfl⟩ := hy
    refine ⟨.int (lo + (i : Nat)), ?_, Ext.refl, rh2, Rp.int⟩
    have : i < n := by simpa using hi
    rw [List.getElem?_map, List.getElem?_range this]
    rfl
def mR1 (fr : AA) : AI := fun ls hp => match fr ls hp with
  | some ([.int j], hp1) => if -(2 ^ 62) ≤ j ∧ j < 2 ^ 62 then some ((List.range j.toNat).map fun i => D.int (i : Nat), [], hp1) else none
  | _ => none
def mR2 (fr : AA) : AI := fun ls hp => match fr ls hp with
  | some ([.int i, .int j], hp1) => if -(2 ^ 62) ≤ i ∧ i < 2 ^ 62 ∧ -(2 ^ 62) ≤ j ∧ j < 2 ^ 62 then some ((List.range (j - i).toNat).map fun k => D.int (i + (k : Nat)), [], hp1) else none
  | _ => none
theorem di_range1 {a : Expr} {p : Pos} (hg : Gl X "range") (hm : X.mg "range" = none) (ha : DA X [a] fr) (hs : starEach [a] X.env = [(false, eval a X.env)] := by rfl) : DI X tg (.Call (.Name "range" p) [a] [] pos) (mR1 fr) :=
  PI.imp (pi_range1 hg hm ha hs) fun σ H R ⟨ls, hp, μ, items, gd, hp', rl, rh, e, q⟩ => by
    unfold mR1 at e
    split at e
    · rename_i j hp1 e1
      split at e
      · rename_i hj
        cases e
        refine ⟨ls, hp, μ, [.int j], hp', rl, rh, e1, fun vs H' μ' x1 rh1 r1 => ?_⟩
        rw [Rps] at r1
        obtain ⟨v, r, rfl, r1, r2⟩ := r1
        rw [Rps] at r2
        subst r2
        refine ⟨j, by rw [r1.intE], hj.1, hj.2, q _ H' μ' x1 rh1 ?_⟩
        have := Wk.range (K := X.K) (lo := 0) (n := j.toNat) (μ := μ') (H := H')
        simpa using this
      · cases e
    · cases e
theorem di_range2 {a b : Expr} {p : Pos} (hg : Gl X "range") (hm : X.mg "range" = none) (ha : DA X [a, b] fr) (hs : starEach [a, b] X.env = [(false, eval a X.env), (false, eval b X.env)] := by rfl) (hs2 : starEach [b] X.env = [(false, eval b X.env)] := by rfl) : DI X tg (.Call (.Name "range" p) [a, b] [] pos) (mR2 fr) :=
  PI.imp (pi_range2 hg hm ha hs hs2) fun σ H R ⟨ls, hp, μ, items, gd, hp', rl, rh, e, q⟩ => by
    unfold mR2 at e
    split at e
    · rename_i i j hp1 e1
      split at e
      · rename_i hj
        cases e
        refine ⟨ls, hp, μ, [.int i, .int j], hp', rl, rh, e1, fun vs H' μ' x1 rh1 r1 => ?_⟩
        rw [Rps] at r1
        obtain ⟨v, r, rfl, r1, r2⟩ := r1
        rw [Rps] at r2
        obtain ⟨v2, r, rfl, r2, r3⟩ := r2
        rw [Rps] at r3
        subst r3
        exact ⟨i, j, by rw [r1.intE, r2.intE], hj, q _ H' μ' x1 rh1 Wk.range⟩
      · cases e
    · cases e
def mIL (f : AA) : AI := fun ls hp => match f ls hp with
  | some (ds, hp1) => some (ds, [], hp1)
  | none => none
theorem di_le {l : Expr} {f : AA} (h : LE X l f) : DI X tg l (mIL f) :=
  PI.imp (pi_list h) fun σ H R ⟨ls, hp, μ, items, gd, hp', rl, rh, e, q⟩ => by
    unfold mIL at e
    split at e
    · rename_i ds hp1 e1
      cases e
      refine ⟨ls, hp, μ, items, hp', rl, rh, e1, fun a vs H1 μ1 x1 rh1 h0 hn hl r1 => ⟨a, rfl, ⟨vs, .inl (.inl hl)⟩, q _ H1 μ1 x1 rh1 ?_⟩⟩
      intro i H2 μ2 hp2 x2 rh2 _
      have h2 : H2 a = some (.lst vs) := x2.keep _ _ hn hl
      have hlen := r1.len
      refine ⟨fun hi => ⟨vs, .inl (.inl h2), by omega⟩, fun hi => ?_⟩
      obtain ⟨v, ev, rv⟩ := r1.get (List.getElem?_eq_getElem hi)
      refine ⟨⟨vs, v, .inl (.inl h2), ev⟩, fun x H3 hy => ?_⟩
      obtain ⟨rfl, hx⟩ := hy
      have := hx vs (.inl (.inl h2))
      rw [ev] at this
      cases this
      exact ⟨_, List.getElem?_eq_getElem hi, Ext.refl, rh2, rv.ext x2⟩
    · cases e
def itOf : D → Hd → Option (List D × Gd)
  | .tup ds, _ => some (ds, [])
  | .wt ds, _ => some (ds, [])
  | .scr ns, _ => some (ns.map .int, [])
  | .str x, _ => some (x.cps.toList.map fun c => .str ⟨#[c]⟩, [])
  | .ref n, hp => match hp[n]? with
    | some (.lst xs) => some (xs, [(n, xs)])
    | _ => none
  | _, _ => none
def mIS (f : AE) : AI := fun ls hp => match f ls hp with
  | some (d, hp1) => match itOf d hp1 with
    | some (items, gd) => some (items, gd, hp1)
    | none => none
  | none => none
theorem RelH.lst {K : PySem.W.Frag} {H : Hp} {μ : List Addr} {hp : Hd} (r : RelH K H μ hp) {n : Nat} {a : Addr} {xs : List D} (h : μ[n]? = some a) (e : hp[n]? = some (.lst xs)) : ∃ vs, H a = some (.lst vs) ∧ Rps K H μ xs vs := by
  obtain ⟨a2, e2, vs, q1, q2⟩ := r.at_ e
  rw [h] at e2
  cases e2
  exact ⟨vs, q1, q2⟩
theorem gdOk_one {n : Nat} {xs : List D} {hp : Hd} (h : gdOk [(n, xs)] hp = true) : hp[n]? = some (.lst xs) := by
  simp only [gdOk, Bool.and_true] at h
  split at h
  · rename_i ys e
    rw [e, D.sames_eq _ _ h]
  · cases h
theorem di_seq {l : Expr} (h : DE X l fa) : DI X tg l (mIS fa) :=
  PI.imp (PI.or (PI.or (pi_list h) (pi_tup h)) (pi_str h)) fun σ H R ⟨ls, hp, μ, items, gd, hp', rl, rh, e, q⟩ => by
    unfold mIS at e
    split at e
    · rename_i d hp1 e1
      split at e
      · rename_i items' gd' e2
        cases e
        cases d <;> simp only [itOf] at e2 <;> try (cases e2; done)
        · rename_i x
          cases e2
          refine .inr ⟨ls, hp, μ, _, hp', rl, rh, e1, fun v H1 μ1 x1 rh1 r1 => ⟨x, r1.strE, q _ H1 μ1 x1 rh1 ?_⟩⟩
          intro i H2 μ2 hp2 x2 rh2 _
          refine ⟨fun hi => ?_, fun hi => ⟨?_, fun y H3 hy => ?_⟩⟩
          · show x.cps.size ≤ i
            simpa using hi
          · show i < x.cps.size
            simpa using hi
          · obtain ⟨rfl, c, ec, rfl⟩ := hy
            refine ⟨.str ⟨#[c]⟩, ?_, Ext.refl, rh2, Rp.str⟩
            rw [List.getElem?_map]
            simp [ec]
        · rename_i ds
          cases e2
          refine .inl (.inr ⟨ls, hp, μ, _, hp', rl, rh, e1, fun v H1 μ1 x1 rh1 r1 => ?_⟩)
          obtain ⟨a, vs, rfl, ta, ra⟩ := r1.tupE
          refine ⟨a, rfl, ⟨vs, ta.sq⟩, q _ H1 μ1 x1 rh1 ?_⟩
          intro i H2 μ2 hp2 x2 rh2 _
          have h2 : SqT X.K H2 a vs := (ta.ext x2).sq
          have hlen := ra.len
          refine ⟨fun hi => ⟨vs, h2, by omega⟩, fun hi => ?_⟩
          obtain ⟨v, ev, rv⟩ := ra.get (List.getElem?_eq_getElem hi)
          refine ⟨⟨vs, v, h2, ev⟩, fun x H3 hy => ?_⟩
          obtain ⟨rfl, hx⟩ := hy
          have := hx vs h2
          rw [ev] at this
          cases this
          exact ⟨_, List.getElem?_eq_getElem hi, Ext.refl, rh2, rv.ext x2⟩
        · rename_i n
          split at e2
          · rename_i xs e3
            cases e2
            refine .inl (.inl ⟨ls, hp, μ, _, hp', rl, rh, e1, fun v H1 μ1 x1 rh1 r1 => ?_⟩)
            obtain ⟨a, ea, rfl⟩ := r1.refE
            obtain ⟨vs, ev, _⟩ := rh1.lst ea e3
            refine ⟨a, rfl, ⟨vs, .inl (.inl ev)⟩, q _ H1 μ1 x1 rh1 ?_⟩
            intro i H2 μ2 hp2 x2 rh2 hg
            obtain ⟨vs2, ev2, ra⟩ := rh2.lst (x2.m.at_ ea) (gdOk_one hg)
            have hlen := ra.len
            refine ⟨fun hi => ⟨vs2, .inl (.inl ev2), by omega⟩, fun hi => ?_⟩
            obtain ⟨v, ev, rv⟩ := ra.get (List.getElem?_eq_getElem hi)
            refine ⟨⟨vs2, v, .inl (.inl ev2), ev⟩, fun x H3 hy => ?_⟩
            obtain ⟨rfl, hx⟩ := hy
            have := hx vs2 (.inl (.inl ev2))
            rw [ev] at this
            cases this
            exact ⟨_, List.getElem?_eq_getElem hi, Ext.refl, rh2, rv⟩
          · cases e2
        · rename_i ns
          cases e2
          refine .inl (.inl ⟨ls, hp, μ, _, hp', rl, rh, e1, fun v H1 μ1 x1 rh1 r1 => ?_⟩)
          obtain ⟨a, rfl, sa⟩ := r1.scrE
          refine ⟨a, rfl, ⟨_, sa.sq⟩, q _ H1 μ1 x1 rh1 ?_⟩
          intro i H2 μ2 hp2 x2 rh2 hg
          have h2 : SqL X.K H2 a (ns.map V.int) := (sa.mon x2.m).sq
          refine ⟨fun hi => ⟨_, h2, by simpa using hi⟩, fun hi => ?_⟩
          have hi' : i < ns.length := by simpa using hi
          refine ⟨⟨_, .int ns[i], h2, by simp [hi']⟩, fun x H3 hy => ?_⟩
          obtain ⟨rfl, hx⟩ := hy
          have := hx _ h2
          refine ⟨.int ns[i], by simp [hi'], Ext.refl, rh2, ?_⟩
          simp [hi'] at this
          subst this
          exact Rp.int
        · rename_i ds
          cases e2
          refine .inl (.inr ⟨ls, hp, μ, _, hp', rl, rh, e1, fun v H1 μ1 x1 rh1 r1 => ?_⟩)
          obtain ⟨a, vs, rfl, ta, ra⟩ := r1.wtE
          refine ⟨a, rfl, ⟨vs, ta.sq⟩, q _ H1 μ1 x1 rh1 ?_⟩
          intro i H2 μ2 hp2 x2 rh2 _
          have h2 : SqT X.K H2 a vs := ta.sq
          have hlen := ra.len
          refine ⟨fun hi => ⟨vs, h2, by omega⟩, fun hi => ?_⟩
          obtain ⟨v, ev, rv⟩ := ra.get (List.getElem?_eq_getElem hi)
          refine ⟨⟨vs, v, h2, ev⟩, fun x H3 hy => ?_⟩
          obtain ⟨rfl, hx⟩ := hy
          have := hx vs h2
          rw [ev] at this
          cases this
          exact ⟨_, List.getElem?_eq_getElem hi, Ext.refl, rh2, rv.ext x2⟩
      · cases e
    · cases e
end
end Ve
namespace Ve
open PySem PySem.Spec L2

theorem toKey_inj : ∀ {a b : D} {k : Key}, toKey a = some k → toKey b = some k → a = b := by
  intro a b k h1 h2
  cases a <;> simp only [toKey] at h1 <;> try (cases h1; done)
  · cases h1
    cases b <;> simp only [toKey] at h2 <;> try (cases h2; done)
    cases h2
    rfl
  · cases h1
    cases b <;> simp only [toKey] at h2 <;> try (cases h2; done)
    cases h2
    rfl
theorem toKeys_inj : ∀ {a b : List D} {k : List Key}, toKeys a = some k → toKeys b = some k → a = b
  | [], b, k, h1, h2 => by
    simp only [toKeys] at h1
    cases h1
    cases b with
    | nil => rfl
    | cons x xs =>
      simp only [toKeys] at h2
      split at h2 <;> cases h2
  | x :: xs, b, k, h1, h2 => by
    simp only [toKeys] at h1
    split at h1
    · rename_i k1 ks e1 e2
      cases h1
      cases b with
      | nil => simp [toKeys] at h2
      | cons y ys =>
        simp only [toKeys] at h2
        split at h2
        · rename_i k2 ks2 e3 e4
          cases h2
          rw [toKey_inj e1 e3, toKeys_inj e2 e4]
        · cases h2
    · cases h1
def look : List (D × D) → D → Option D
  | [], _ => none
  | (a, v) :: r, k => if D.same a k = true then some v else look r k
def putD : List (D × D) → D → D → List (D × D)
  | [], k, v => [(k, v)]
  | (a, x) :: r, k, v => if D.same a k = true then (a, v) :: r else (a, x) :: putD r k v
theorem same_iff {a b : D} : D.same a b = true ↔ a = b := ⟨D.same_eq a b, fun e => by rw [e]; exact D.same_self b⟩

section
variable {K : PySem.W.Frag} {H H' : Hp} {μ μ' : List Addr}
def RpO (K : PySem.W.Frag) (H : Hp) (μ : List Addr) : Option D → Option V → Prop
  | some d, some v => Rp K H μ d v
  | none, none => True
  | _, _ => False
theorem RpK.look {k : D} {k' : Key} (hk : toKey k = some k') : ∀ {kvs : List (D × D)} {vs : List (Key × V)}, RpK K H μ kvs vs → RpO K H μ (look kvs k) (valV vs k')
  | [], _, h => by
    rw [RpK] at h
    subst h
    exact True.intro
  | (a, v) :: r, _, h => by
    rw [RpK] at h
    obtain ⟨ka, w, rs, rfl, h1, h2, h3⟩ := h
    unfold Ve.look
    by_cases e : a = k
    · subst e
      rw [hk] at h1
      cases h1
      rw [if_pos (D.same_self a), valV_pos (p := (k', w)) rfl]
      exact h2
    · have e2 : ¬ ka = k' := fun z => e (toKey_inj h1 (by rw [hk, z]))
      rw [if_neg (fun z => e (same_iff.mp z)), valV_neg (p := (ka, w)) e2]
      exact RpK.look hk h3
theorem RpT.look {k : List D} {k' : List Key} (hk : toKeys k = some k') : ∀ {kvs : List (D × D)} {vs : List (List Key × V)}, RpT K H μ kvs vs → RpO K H μ (look kvs (.tup k)) (valV vs k')
  | [], _, h => by
    rw [RpT] at h
    subst h
    exact True.intro
  | (a, v) :: r, _, h => by
    rw [RpT] at h
    obtain ⟨ds, ka, w, rs, e0, rfl, h1, h2, h3⟩ := h
    have e0 : a = .tup ds := e0
    subst e0
    unfold Ve.look
    by_cases e : ds = k
    · subst e
      rw [hk] at h1
      cases h1
      rw [if_pos (D.same_self _), valV_pos (p := (k', w)) rfl]
      exact h2
    · have e2 : ¬ ka = k' := fun z => e (toKeys_inj h1 (by rw [hk, z]))
      rw [if_neg (fun z => e (D.tup.inj (same_iff.mp z))), valV_neg (p := (ka, w)) e2]
      exact RpT.look hk h3
theorem putK_cons {κ : Type} [DecidableEq κ] {a k : κ} {x v : V} {r : List (κ × V)} : putK ((a, x) :: r) k v = if a = k then (a, v) :: r.map (fun kv => if kv.1 = k then (kv.1, v) else kv) else (a, x) :: putK r k v := by
  unfold putK
  by_cases e : a = k
  · simp [e]
  · simp only [List.any_cons, e, decide_false, Bool.false_or, List.map_cons, if_neg, not_false_eq_true, ite_false]
    split <;> simp
theorem map_none {κ : Type} [DecidableEq κ] {k : κ} {v : V} : ∀ {r : List (κ × V)}, (∀ p ∈ r, p.1 ≠ k) → r.map (fun kv => if kv.1 = k then (kv.1, v) else kv) = r
  | [], _ => rfl
  | p :: r, h => by
    rw [List.map_cons, if_neg (h p List.mem_cons_self), map_none fun q hq => h q (List.mem_cons_of_mem _ hq)]
theorem RpK.keys : ∀ {kvs : List (D × D)} {vs : List (Key × V)}, RpK K H μ kvs vs → ∀ p ∈ vs, ∃ q ∈ kvs, toKey q.1 = some p.1
  | [], _, h, p, hp => by
    rw [RpK] at h
    subst h
    cases hp
  | x :: xs, _, h, p, hp => by
    rw [RpK] at h
    obtain ⟨ka, w, rs, rfl, h1, h2, h3⟩ := h
    rcases List.mem_cons.mp hp with e | e
    · subst e
      exact ⟨x, List.mem_cons_self, h1⟩
    · obtain ⟨q, hq, e2⟩ := RpK.keys h3 p e
      exact ⟨q, List.mem_cons_of_mem _ hq, e2⟩
theorem RpT.keys : ∀ {kvs : List (D × D)} {vs : List (List Key × V)}, RpT K H μ kvs vs → ∀ p ∈ vs, ∃ q ∈ kvs, ∃ ds, q.1 = .tup ds ∧ toKeys ds = some p.1
  | [], _, h, p, hp => by
    rw [RpT] at h
    subst h
    cases hp
  | x :: xs, _, h, p, hp => by
    rw [RpT] at h
    obtain ⟨ds, ka, w, rs, e0, rfl, h1, h2, h3⟩ := h
    rcases List.mem_cons.mp hp with e | e
    · subst e
      exact ⟨x, List.mem_cons_self, ds, e0, h1⟩
    · obtain ⟨q, hq, e2⟩ := RpT.keys h3 p e
      exact ⟨q, List.mem_cons_of_mem _ hq, e2⟩
theorem RpK.put {k d : D} {k' : Key} {v : V} (hk : toKey k = some k') (rv : Rp K H μ d v) : ∀ {kvs : List (D × D)} {vs : List (Key × V)}, KNd kvs → RpK K H μ kvs vs → RpK K H μ (putD kvs k d) (putK vs k' v)
  | [], _, _, h => by
    rw [RpK] at h
    subst h
    unfold putD
    rw [RpK]
    exact ⟨k', v, [], rfl, hk, rv, by rw [RpK]⟩
  | (a, x) :: r, _, nd, h => by
    rw [RpK] at h
    obtain ⟨ka, w, rs, rfl, h1, h2, h3⟩ := h
    have h1 : toKey a = some ka := h1
    unfold putD
    rw [putK_cons]
    by_cases e : a = k
    · subst e
      rw [hk] at h1
      cases h1
      rw [if_pos (D.same_self a), if_pos rfl, RpK, map_none]
      · exact ⟨k', v, rs, rfl, hk, rv, h3⟩
      · intro p hp z
        obtain ⟨q, hq, e2⟩ := RpK.keys h3 p hp
        rw [z] at e2
        exact nd.1 q hq (toKey_inj e2 hk)
    · rw [if_neg (fun z => e (same_iff.mp z)), if_neg (fun z => e (toKey_inj h1 (by rw [hk, z]))), RpK]
      exact ⟨ka, w, _, rfl, h1, h2, RpK.put hk rv nd.2 h3⟩
theorem RpT.put {k : List D} {d : D} {k' : List Key} {v : V} (hk : toKeys k = some k') (rv : Rp K H μ d v) : ∀ {kvs : List (D × D)} {vs : List (List Key × V)}, KNd kvs → RpT K H μ kvs vs → RpT K H μ (putD kvs (.tup k) d) (putK vs k' v)
  | [], _, _, h => by
    rw [RpT] at h
    subst h
    unfold putD
    rw [RpT]
    exact ⟨k, k', v, [], rfl, rfl, hk, rv, by rw [RpT]⟩
  | (a, x) :: r, _, nd, h => by
    rw [RpT] at h
    obtain ⟨ds, ka, w, rs, e0, rfl, h1, h2, h3⟩ := h
    have e0 : a = .tup ds := e0
    subst e0
    unfold putD
    rw [putK_cons]
    by_cases e : ds = k
    · subst e
      rw [hk] at h1
      cases h1
      rw [if_pos (D.same_self _), if_pos rfl, RpT, map_none]
      · exact ⟨ds, k', v, rs, rfl, rfl, hk, rv, h3⟩
      · intro p hp z
        obtain ⟨q, hq, ds2, e3, e2⟩ := RpT.keys h3 p hp
        rw [z] at e2
        exact nd.1 q hq (by rw [e3, toKeys_inj e2 hk])
    · rw [if_neg (fun z => e (D.tup.inj (same_iff.mp z))), if_neg (fun z => e (toKeys_inj h1 (by rw [hk, z]))), RpT]
      exact ⟨ds, ka, w, _, rfl, rfl, h1, h2, RpT.put hk rv nd.2 h3⟩
theorem putD_mem {k v : D} : ∀ {kvs : List (D × D)} {p : D × D}, p ∈ putD kvs k v → p = (k, v) ∨ p ∈ kvs ∨ (p.1 = k ∧ ∃ q ∈ kvs, q.1 = k)
  | [], p, h => by
    simp [putD] at h
    exact .inl h
  | (a, x) :: r, p, h => by
    unfold putD at h
    split at h
    · rename_i e
      have e := same_iff.mp e
      subst e
      rcases List.mem_cons.mp h with z | z
      · exact .inl z
      · exact .inr (.inl (List.mem_cons_of_mem _ z))
    · rcases List.mem_cons.mp h with z | z
      · exact .inr (.inl (by rw [z]; exact List.mem_cons_self))
      · rcases putD_mem z with z | z | ⟨z1, q, hq, z2⟩
        · exact .inl z
        · exact .inr (.inl (List.mem_cons_of_mem _ z))
        · exact .inr (.inr ⟨z1, q, List.mem_cons_of_mem _ hq, z2⟩)
theorem putD_key {k v : D} : ∀ {kvs : List (D × D)} {p : D × D}, p ∈ putD kvs k v → p.1 = k ∨ ∃ q ∈ kvs, q.1 = p.1 := fun h => by
  rcases putD_mem h with z | z | ⟨z1, _⟩
  · exact .inl (by rw [z])
  · exact .inr ⟨_, z, rfl⟩
  · exact .inl z1
theorem KNd.put {k v : D} : ∀ {kvs : List (D × D)}, KNd kvs → KNd (putD kvs k v)
  | [], _ => by
    unfold putD
    exact ⟨(fun q h => nomatch h), True.intro⟩
  | (a, x) :: r, nd => by
    unfold putD
    split
    · exact nd
    · rename_i e
      refine ⟨fun q hq z => ?_, KNd.put nd.2⟩
      rcases putD_key hq with w | ⟨q2, h2, w⟩
      · exact e (same_iff.mpr (by rw [← w, z]))
      · exact nd.1 q2 h2 (by rw [w, z])
theorem length_putD {k v : D} : ∀ {kvs : List (D × D)}, (putD kvs k v).length ≤ kvs.length + 1
  | [] => by simp [putD]
  | (a, x) :: r => by
    unfold putD
    split
    · simp
    · have := @length_putD k v r
      simp
      omega
theorem RpK.len : ∀ {kvs : List (D × D)} {vs : List (Key × V)}, RpK K H μ kvs vs → vs.length = kvs.length
  | [], _, h => by
    rw [RpK] at h
    subst h
    rfl
  | _ :: _, _, h => by
    rw [RpK] at h
    obtain ⟨ka, w, rs, rfl, h1, h2, h3⟩ := h
    rw [List.length_cons, List.length_cons, RpK.len h3]
theorem RpT.len : ∀ {kvs : List (D × D)} {vs : List (List Key × V)}, RpT K H μ kvs vs → vs.length = kvs.length
  | [], _, h => by
    rw [RpT] at h
    subst h
    rfl
  | _ :: _, _, h => by
    rw [RpT] at h
    obtain ⟨ds, ka, w, rs, e0, rfl, h1, h2, h3⟩ := h
    rw [List.length_cons, List.length_cons, RpT.len h3]
theorem Rp.keyV {k : D} {k' : Key} {v : V} (hk : toKey k = some k') (r : Rp K H μ k v) : v = kV k' := by
  cases k <;> simp only [toKey] at hk <;> try (cases hk; done)
  · cases hk
    exact r.intE
  · cases hk
    exact r.strE
theorem Rps.keysV : ∀ {ks : List D} {k' : List Key} {vs : List V}, toKeys ks = some k' → Rps K H μ ks vs → vs = k'.map kV
  | [], k', vs, hk, r => by
    simp only [toKeys] at hk
    cases hk
    rw [Rps] at r
    exact r
  | d :: ds, k', vs, hk, r => by
    simp only [toKeys] at hk
    split at hk
    · rename_i k ks e1 e2
      cases hk
      rw [Rps] at r
      obtain ⟨v, w, rfl, r1, r2⟩ := r
      rw [List.map_cons, r1.keyV e1, Rps.keysV e2 r2]
    · cases hk
end

section
variable {X : Cx} {pins : List (Addr × Obj)} {σ : St} {H : Hp} {s : Shared} {a : Addr}
theorem inv_dT (I : Inv X pins σ H s) (e : H a = some (.dK [])) : Inv X pins σ (upd H a (.dT [])) s := by
  obtain ⟨z, hd, vs, rel, o, es, ep, h1, h2, h3, h4, h5, h6⟩ := dk_of I.hok e
  have hv : vs = [] := by
    cases rel
    rfl
  subst hv
  have he : es.toList = [] := by
    generalize es.toList = l at h5
    cases h5
    rfl
  exact d_write (t' := s.toks) (h' := s.heap) I (by rw [e]; exact True.intro) ⟨rfl, fun _ _ => rfl⟩ ⟨o, h1⟩ ⟨Nat.zero_le _, hd, [], .nil, o, es, ep, h1, h2, h3, by rw [he]; rfl, by simp⟩
end
end Ve
namespace Ve
open PySem PySem.Spec L2

def dKind (kvs : List (D × D)) : D → Bool
  | .tup ks => (toKeys ks).isSome && (match kvs with
    | [] => true
    | (.tup _, _) :: _ => true
    | _ => false)
  | k => (toKey k).isSome && (match kvs with
    | [] => true
    | (.tup _, _) :: _ => false
    | _ => true)
section
variable {X : Cx} {pins : List (Addr × Obj)} {σ : St} {H : Hp} {s : Shared} {a : Addr} {μ : List Addr} {hp : Hd} {n : Nat}
theorem inv_dK (I : Inv X pins σ H s) (e : H a = some (.dT [])) : Inv X pins σ (upd H a (.dK [])) s := by
  obtain ⟨z, hd, xs, rel, o, es, ep, h1, h2, h3, h4, h5, h6⟩ := dt_of I.hok e
  have hv : xs = [] := by
    cases rel
    rfl
  subst hv
  have he : es.toList = [] := by
    first
      | exact h4
      | exact h5
  exact d_write (t' := s.toks) (h' := s.heap) I (by rw [e]; exact True.intro) ⟨rfl, fun _ _ => rfl⟩ ⟨o, h1⟩ ⟨Nat.zero_le _, hd, [], .nil, o, es, ep, h1, h2, h3, by
    have : es = #[] := by
      cases es
      simp at he
      subst he
      rfl
    subst this
    exact ⟨fun i hi => by simp at hi, by exact .nil, by simp⟩⟩

theorem RelH.dic (r : RelH X.K H μ hp) {kvs : List (D × D)} (h : μ[n]? = some a) (e : hp[n]? = some (.dic kvs)) : KNd kvs ∧ ((∃ vs, H a = some (.dK vs) ∧ RpK X.K H μ kvs vs) ∨ ∃ vs, H a = some (.dT vs) ∧ RpT X.K H μ kvs vs) := by
  obtain ⟨a2, e2, q⟩ := r.at_ e
  rw [h] at e2
  cases e2
  exact q
theorem RelH.dicL (r : RelH X.K H μ hp) {kvs : List (D × D)} (h : μ[n]? = some a) (e : hp[n]? = some (.dicL kvs)) : KNd kvs ∧ ((∃ o vs, H a = some (.frz o (.dK vs)) ∧ RpK X.K H μ kvs vs) ∨ ∃ o vs, H a = some (.frz o (.dT vs)) ∧ RpT X.K H μ kvs vs) := by
  obtain ⟨a2, e2, q⟩ := r.at_ e
  rw [h] at e2
  cases e2
  exact q
theorem set_same {α : Type} {l : List α} {n : Nat} {x : α} (h : l[n]? = some x) : l.set n x = l := by
  obtain ⟨hl, e⟩ := List.getElem?_eq_some_iff.mp h
  rw [← e]
  exact List.set_getElem_self hl
theorem dKind_leaf {kvs : List (D × D)} {k : D} (h : dKind kvs k = true) (nt : ∀ ks, k ≠ .tup ks) : ∃ k', toKey k = some k' := by
  cases k <;> simp only [dKind] at h <;> try (simp [toKey] at h; done)
  · exact ⟨_, rfl⟩
  · exact ⟨_, rfl⟩
  · exact absurd rfl (nt _)
theorem dKind_leaf2 {p : D × D} {r : List (D × D)} {k : D} (h : dKind (p :: r) k = true) (nt : ∀ ks, k ≠ .tup ks) : ∀ ks, p.1 ≠ .tup ks := by
  obtain ⟨a, b⟩ := p
  cases k <;> cases a <;> simp [dKind] at h ⊢ <;> exact absurd rfl (nt _)
theorem dKind_tup {kvs : List (D × D)} {ks : List D} (h : dKind kvs (.tup ks) = true) : (∃ k', toKeys ks = some k') ∧ ∀ p r, kvs = p :: r → ∃ ds, p.1 = .tup ds := by
  simp only [dKind, Bool.and_eq_true] at h
  refine ⟨Option.isSome_iff_exists.mp h.1, fun p r e => ?_⟩
  subst e
  obtain ⟨a, b⟩ := p
  cases a <;> simp at h ⊢
theorem RpK.tupNot {kvs : List (D × D)} {vs : List (Key × V)} {p : D × D} {r : List (D × D)} {ds : List D} (h : RpK X.K H μ kvs vs) (e : kvs = p :: r) (e2 : p.1 = .tup ds) : False := by
  subst e
  rw [RpK] at h
  obtain ⟨ka, w, rs, rfl, h1, h2, h3⟩ := h
  rw [e2] at h1
  simp [toKey] at h1
theorem RpT.leafNot {kvs : List (D × D)} {vs : List (List Key × V)} {p : D × D} {r : List (D × D)} (h : RpT X.K H μ kvs vs) (e : kvs = p :: r) (e2 : ∀ ks, p.1 ≠ .tup ks) : False := by
  subst e
  rw [RpT] at h
  obtain ⟨ds, ka, w, rs, e0, rfl, h1, h2, h3⟩ := h
  exact e2 _ e0
theorem dic_kind (I : Inv X pins σ H s) (rh : RelH X.K H μ hp) {kvs : List (D × D)} {k : D} (ha : μ[n]? = some a) (eh : hp[n]? = some (.dic kvs)) (hk : dKind kvs k = true) :
    ∃ H', Inv X pins σ H' s ∧ Ext μ H μ H' ∧ RelH X.K H' μ hp ∧ KNd kvs ∧ (((∀ ks, k ≠ .tup ks) ∧ ∃ vs, H' a = some (.dK vs) ∧ RpK X.K H' μ kvs vs) ∨ ((∃ ks, k = .tup ks) ∧ ∃ vs, H' a = some (.dT vs) ∧ RpT X.K H' μ kvs vs)) := by
  obtain ⟨nd, q⟩ := rh.dic ha eh
  by_cases hkt : ∃ ks, k = .tup ks
  · obtain ⟨ks, rfl⟩ := hkt
    obtain ⟨_, h2⟩ := dKind_tup hk
    rcases q with ⟨vs, e, r⟩ | ⟨vs, e, r⟩
    · cases kvs with
      | nil =>
        rw [RpK] at r
        subst r
        obtain ⟨r1, x1⟩ := rh.put (o := .dic []) (u := .dT []) ha ⟨True.intro, .inr ⟨[], rfl, by rw [RpT]⟩⟩
        rw [set_same eh] at r1
        exact ⟨_, inv_dT I e, x1, r1, nd, .inr ⟨⟨ks, rfl⟩, [], upd_same, by rw [RpT]⟩⟩
      | cons p kr =>
        obtain ⟨ds, e3⟩ := h2 p kr rfl
        exact (r.tupNot rfl e3).elim
    · exact ⟨H, I, Ext.refl, rh, nd, .inr ⟨⟨ks, rfl⟩, vs, e, r⟩⟩
  · have nt : ∀ ks, k ≠ .tup ks := fun ks e => hkt ⟨ks, e⟩
    rcases q with ⟨vs, e, r⟩ | ⟨vs, e, r⟩
    · exact ⟨H, I, Ext.refl, rh, nd, .inl ⟨nt, vs, e, r⟩⟩
    · cases kvs with
      | nil =>
        rw [RpT] at r
        subst r
        obtain ⟨r1, x1⟩ := rh.put (o := .dic []) (u := .dK []) ha ⟨True.intro, .inl ⟨[], rfl, by rw [RpK]⟩⟩
        rw [set_same eh] at r1
        exact ⟨_, inv_dK I e, x1, r1, nd, .inl ⟨nt, [], upd_same, by rw [RpK]⟩⟩
      | cons p kr => exact (r.leafNot rfl (dKind_leaf2 hk nt)).elim
def dicOf : O → Option (List (D × D))
  | .dic kvs => some kvs
  | .dicL kvs => if kvs.isEmpty then none else some kvs
  | _ => none
theorem dic_get (I : Inv X pins σ H s) (rh : RelH X.K H μ hp) {o : O} {kvs : List (D × D)} {k : D} {y : V} (ha : μ[n]? = some a) (eh : hp[n]? = some o) (eo : dicOf o = some kvs) (hk : dKind kvs k = true) (ry : Rp X.K H μ k y) :
    ∃ H' r, Inv X pins σ H' s ∧ Ext μ H μ H' ∧ RelH X.K H' μ hp ∧ DGet H' a y r ∧ RpO X.K H' μ (look kvs k) r := by
  cases o with
  | lst xs => simp [dicOf] at eo
  | dic kvs' =>
    simp only [dicOf] at eo
    cases eo
    obtain ⟨H', I', x, rh', nd, q⟩ := dic_kind I rh ha eh hk
    rcases q with ⟨nt, vs, e, r⟩ | ⟨⟨ks, rfl⟩, vs, e, r⟩
    · obtain ⟨k', e1⟩ := dKind_leaf hk nt
      exact ⟨H', _, I', x, rh', .inl ⟨vs, k', .inl e, ry.keyV e1, rfl⟩, r.look e1⟩
    · obtain ⟨⟨k', e1⟩, _⟩ := dKind_tup hk
      obtain ⟨b, ws, rfl, hb, rs⟩ := (ry.ext x).tupE
      have := rs.keysV e1
      subst this
      exact ⟨H', _, I', x, rh', .inr ⟨vs, k', b, .inl e, rfl, hb, rfl⟩, r.look e1⟩
  | dicL kvs' =>
    simp only [dicOf] at eo
    split at eo
    · cases eo
    · rename_i ne
      cases eo
      obtain ⟨nd, q⟩ := rh.dicL ha eh
      cases kvs with
      | nil => exact absurd rfl ne
      | cons p kr =>
        by_cases hkt : ∃ ks, k = .tup ks
        · obtain ⟨ks, rfl⟩ := hkt
          obtain ⟨⟨k', e1⟩, h2⟩ := dKind_tup hk
          rcases q with ⟨o, vs, e, r⟩ | ⟨o, vs, e, r⟩
          · obtain ⟨ds, e3⟩ := h2 p kr rfl
            exact (r.tupNot rfl e3).elim
          · obtain ⟨b, ws, rfl, hb, rs⟩ := ry.tupE
            have := rs.keysV e1
            subst this
            exact ⟨H, _, I, Ext.refl, rh, .inr ⟨vs, k', b, .inr ⟨o, e⟩, rfl, hb, rfl⟩, r.look e1⟩
        · have nt : ∀ ks, k ≠ .tup ks := fun ks e => hkt ⟨ks, e⟩
          obtain ⟨k', e1⟩ := dKind_leaf hk nt
          rcases q with ⟨o, vs, e, r⟩ | ⟨o, vs, e, r⟩
          · exact ⟨H, _, I, Ext.refl, rh, .inl ⟨vs, k', .inr ⟨o, e⟩, ry.keyV e1, rfl⟩, r.look e1⟩
          · exact (r.leafNot rfl (dKind_leaf2 hk nt)).elim
end

def inL (hp : Hd) (x : D) (ys : List D) : Option Bool := match pyF hp 16 x, mapO (pyF hp 15) ys with
  | some d, some ds => if (SeqAt.shaped d && SeqAt.shaped (.list ds)) = true then some (ds.any fun z => PyData.eqv z d) else none
  | _, _ => none
def flatD : D → Bool
  | .non => true
  | .bl _ => true
  | .int _ => true
  | .str _ => true
  | _ => false
def eqF : D → D → Bool
  | .non, .non => true
  | .bl a, .bl b => a == b
  | .bl a, .int b => (if a then 1 else 0) == b
  | .int a, .bl b => a == (if b then 1 else 0)
  | .int a, .int b => a == b
  | .str a, .str b => a == b
  | _, _ => false
def inB (x y : D) (hp : Hd) : Option Bool := match y with
  | .ref n => match hp[n]? with
    | some (.lst ys) => inL hp x ys
    | some o => match dicOf o with
      | some kvs => if dKind kvs x = true then some (look kvs x).isSome else none
      | none => none
    | none => none
  | .tup ys => if (flatD x && ys.all flatD) = true then some (ys.any fun z => eqF z x) else inL hp x ys
  | .str z => match x with
    | .str c => some (!(Builtin.Str.occurrences z c 0 z.length 1).isEmpty)
    | _ => none
  | _ => none
def gIn (x y : D) (hp : Hd) : Option (D × Hd) := match inB x y hp with
  | some b => some (.bl b, hp)
  | none => none
def gNotIn (x y : D) (hp : Hd) : Option (D × Hd) := match inB x y hp with
  | some b => some (.bl (!b), hp)
  | none => none
section
variable {X : Cx}
theorem Rp.flat {K : PySem.W.Frag} {H : Hp} {μ : List Addr} {d : D} {v : V} (f : flatD d = true) (r : Rp K H μ d v) : flatV v = true ∧ ∀ e w, flatD e = true → Rp K H μ e w → eqV v w = eqF d e := by
  cases d <;> simp only [flatD] at f <;> try (cases f; done)
  · cases r.nonE
    refine ⟨rfl, fun e w fe re => ?_⟩
    cases e <;> simp only [flatD] at fe <;> try (cases fe; done)
    · cases re.nonE; rfl
    · cases re.blE; rfl
    · cases re.intE; rfl
    · cases re.strE; rfl
  · cases r.blE
    refine ⟨rfl, fun e w fe re => ?_⟩
    cases e <;> simp only [flatD] at fe <;> try (cases fe; done)
    · cases re.nonE; rfl
    · cases re.blE; rfl
    · cases re.intE; rfl
    · cases re.strE; rfl
  · cases r.intE
    refine ⟨rfl, fun e w fe re => ?_⟩
    cases e <;> simp only [flatD] at fe <;> try (cases fe; done)
    · cases re.nonE; rfl
    · cases re.blE; rfl
    · cases re.intE; rfl
    · cases re.strE; rfl
  · cases r.strE
    refine ⟨rfl, fun e w fe re => ?_⟩
    cases e <;> simp only [flatD] at fe <;> try (cases fe; done)
    · cases re.nonE; rfl
    · cases re.blE; rfl
    · cases re.intE; rfl
    · cases re.strE; rfl
theorem Rps.flats {K : PySem.W.Frag} {H : Hp} {μ : List Addr} {e : D} {w : V} (fe : flatD e = true) (re : Rp K H μ e w) : ∀ {ds : List D} {vs : List V}, ds.all flatD = true → Rps K H μ ds vs → vs.all flatV = true ∧ (vs.any fun y => eqV y w) = ds.any fun z => eqF z e
  | [], vs, _, r => by
    rw [Rps] at r
    subst r
    exact ⟨rfl, rfl⟩
  | d :: ds, vs, f, r => by
    rw [Rps] at r
    obtain ⟨v, x, rfl, r1, r2⟩ := r
    rw [List.all_cons, Bool.and_eq_true] at f
    obtain ⟨h1, h2⟩ := r1.flat f.1
    obtain ⟨h3, h4⟩ := Rps.flats fe re f.2 r2
    exact ⟨by rw [List.all_cons, h1, h3]; rfl, by rw [List.any_cons, List.any_cons, h4, h2 e w fe re]⟩
theorem dpAll_of {K : PySem.W.Frag} {H : Hp} {μ : List Addr} {hp : Hd} (rh : RelH K H μ hp) {n : Nat} : ∀ (ds : List D) (ps : List PyData) (vs : List V), mapO (pyF hp n) ds = some ps → Rps K H μ ds vs → DpAll K H vs ps
  | [], ps, vs, h, r => by
    rw [Rps] at r
    simp only [mapO] at h
    cases h
    subst r
    exact .nil
  | d :: ds, ps, vs, h, r => by
    rw [Rps] at r
    obtain ⟨v, w, e, r1, r2⟩ := r
    subst e
    simp only [mapO] at h
    split at h
    · rename_i y ys e1 e2
      cases h
      exact .cons (pyF_dp rh n d y v e1 r1) (dpAll_of rh _ _ _ e2 r2)
    · cases h
theorem inL_some {hp : Hd} {x : D} {ys : List D} {b : Bool} (h : inL hp x ys = some b) : ∃ d ds, pyF hp 16 x = some d ∧ mapO (pyF hp 15) ys = some ds ∧ SeqAt.shaped d = true ∧ SeqAt.shaped (.list ds) = true ∧ b = ds.any fun z => PyData.eqv z d := by
  unfold inL at h
  split at h
  · rename_i d ds e1 e2
    split at h
    · rename_i hs
      rw [Bool.and_eq_true] at hs
      cases h
      exact ⟨d, ds, e1, e2, hs.1, hs.2, rfl⟩
    · cases h
  · cases h
theorem o_in (hu : X.A.units + 65 < cLine) : OpR X (compareOp .In) (RD X.K gIn) := fun pins s σ H x y v u Q I rx ry ⟨hp, μ, d1, d2, d, hp', rh, r1, r2, e, q⟩ => by
  unfold gIn at e
  split at e
  · rename_i b eb
    cases e
    unfold inB at eb
    split at eb
    · rename_i n
      obtain ⟨a, ea, rfl⟩ := r2.refE
      split at eb
      · rename_i ys e2
        obtain ⟨d, ds, e3, e4, s1, s2, rfl⟩ := inL_some eb
        obtain ⟨vs, ev, rv⟩ := rh.lst ea e2
        exact op_inD hu pins s σ H x _ v u Q I rx ry ⟨d, ds, pyF_dp rh _ _ _ _ e3 r1, .lst (.inl (.inl ev)) (dpAll_of rh _ _ _ e4 rv), s1, s2, q _ H μ Ext.refl rh Rp.bl⟩
      · rename_i o e2
        split at eb
        · rename_i kvs eo
          split at eb
          · rename_i hk
            cases eb
            obtain ⟨H', r, I', x', rh', g, ro⟩ := dic_get I rh ea e2 eo hk r1
            obtain rfl : u = Value.ref a := ry
            refine d_in (by omega) I' g rx fun s' I2 => ?_
            have hr : r.isSome = (look kvs d1).isSome := by
              cases h1 : look kvs d1 <;> cases h2 : r <;> rw [h1, h2] at ro <;> first | rfl | exact ro.elim
            rw [hr]
            exact ⟨.bl _, H', I2, rfl, q _ H' μ x' rh' Rp.bl⟩
          · cases eb
        · cases eb
      · cases eb
    · rename_i ys
      split at eb
      · rename_i hf
        rw [Bool.and_eq_true] at hf
        cases eb
        obtain ⟨a, vs, rfl, ta, ra⟩ := r2.tupE
        obtain ⟨f1, _⟩ := r1.flat hf.1
        obtain ⟨f2, f3⟩ := Rps.flats hf.1 r1 hf.2 ra
        refine op_in_seq pins s σ H x _ v u Q I rx ry ⟨a, vs, rfl, .inr ta.sq, f1, f2, ?_⟩
        rw [if_neg (by decide)]
        unfold inV
        rw [f3]
        exact q _ H μ Ext.refl rh Rp.bl
      · obtain ⟨d, ds, e3, e4, s1, s2, rfl⟩ := inL_some eb
        obtain ⟨a, vs, rfl, ta, ra⟩ := r2.tupE
        have dp2 : Dp X.K H (.ref a) (.tuple ds) := .tup ta.sq (dpAll_of rh _ _ _ e4 ra)
        obtain ⟨as, q1⟩ := Dp.reads I d x v (pyF_dp rh _ _ _ _ e3 r1) rx
        obtain ⟨bs, q2⟩ := Dp.reads I (.tuple ds) _ u dp2 ry
        exact SeqAt.in_tuple_reads q2 q1 (SeqAt.canLay_of_shaped s2) (SeqAt.canLay_of_shaped s1) (PyProof.Rows.room_in_shaped s1 hu) ⟨.bl _, H, I, rfl, q _ H μ Ext.refl rh Rp.bl⟩
    · rename_i z
      split at eb
      · rename_i c
        cases eb
        exact op_in_str pins s σ H x y v u Q I rx ry ⟨_, _, r1.strE, r2.strE, q _ H μ Ext.refl rh Rp.bl⟩
      · cases eb
    · cases eb
  · cases e
theorem o_notIn (hu : X.A.units + 65 < cLine) : OpR X (compareOp .NotIn) (RD X.K gNotIn) := fun pins s σ H x y v u Q I rx ry ⟨hp, μ, d1, d2, d, hp', rh, r1, r2, e, q⟩ => by
  unfold gNotIn at e
  split at e
  · rename_i b eb
    cases e
    unfold inB at eb
    split at eb
    · rename_i n
      obtain ⟨a, ea, rfl⟩ := r2.refE
      split at eb
      · rename_i ys e2
        obtain ⟨d, ds, e3, e4, s1, s2, rfl⟩ := inL_some eb
        obtain ⟨vs, ev, rv⟩ := rh.lst ea e2
        exact op_notInD hu pins s σ H x _ v u Q I rx ry ⟨d, ds, pyF_dp rh _ _ _ _ e3 r1, .lst (.inl (.inl ev)) (dpAll_of rh _ _ _ e4 rv), s1, s2, q _ H μ Ext.refl rh Rp.bl⟩
      · rename_i o e2
        split at eb
        · rename_i kvs eo
          split at eb
          · rename_i hk
            cases eb
            obtain ⟨H', r, I', x', rh', g, ro⟩ := dic_get I rh ea e2 eo hk r1
            obtain rfl : u = Value.ref a := ry
            refine d_notIn (by omega) I' g rx fun s' I2 => ?_
            have hr : r.isSome = (look kvs d1).isSome := by
              cases h1 : look kvs d1 <;> cases h2 : r <;> rw [h1, h2] at ro <;> first | rfl | exact ro.elim
            rw [hr]
            exact ⟨.bl _, H', I2, rfl, q _ H' μ x' rh' Rp.bl⟩
          · cases eb
        · cases eb
      · cases eb
    · rename_i ys
      split at eb
      · rename_i hf
        rw [Bool.and_eq_true] at hf
        cases eb
        obtain ⟨a, vs, rfl, ta, ra⟩ := r2.tupE
        obtain ⟨f1, _⟩ := r1.flat hf.1
        obtain ⟨f2, f3⟩ := Rps.flats hf.1 r1 hf.2 ra
        refine op_notIn_seq pins s σ H x _ v u Q I rx ry ⟨a, vs, rfl, .inr ta.sq, f1, f2, ?_⟩
        rw [if_pos rfl]
        unfold inV
        rw [f3]
        exact q _ H μ Ext.refl rh Rp.bl
      · obtain ⟨d, ds, e3, e4, s1, s2, rfl⟩ := inL_some eb
        obtain ⟨a, vs, rfl, ta, ra⟩ := r2.tupE
        have dp2 : Dp X.K H (.ref a) (.tuple ds) := .tup ta.sq (dpAll_of rh _ _ _ e4 ra)
        obtain ⟨as, q1⟩ := Dp.reads I d x v (pyF_dp rh _ _ _ _ e3 r1) rx
        obtain ⟨bs, q2⟩ := Dp.reads I (.tuple ds) _ u dp2 ry
        exact SeqAt.notIn_tuple_reads q2 q1 (SeqAt.canLay_of_shaped s2) (SeqAt.canLay_of_shaped s1) (PyProof.Rows.room_in_shaped s1 hu) ⟨.bl _, H, I, rfl, q _ H μ Ext.refl rh Rp.bl⟩
    · rename_i z
      split at eb
      · rename_i c
        cases eb
        exact op_notin_str pins s σ H x y v u Q I rx ry ⟨_, _, r1.strE, r2.strE, q _ H μ Ext.refl rh Rp.bl⟩
      · cases eb
    · cases eb
  · cases e
end
end Ve
namespace Ve
open PySem PySem.Spec L2

theorem PE.or {X : Cx} {e : Expr} {t t' : TE} (h : PE X e t) (h' : PE X e t') : PE X e (fun σ H Q => t σ H Q ∨ t' σ H Q) := ⟨fun pins s σ H Q I q => q.elim (h.run pins s σ H Q I) (h'.run pins s σ H Q I)⟩

def gIx (x y : D) (hp : Hd) : Option (D × Hd) := match x with
  | .tup ds => match y with
    | .int i => match atI ds i with
      | some d => some (d, hp)
      | none => none
    | _ => none
  | .wt ds => match y with
    | .int i => match atI ds i with
      | some d => some (d, hp)
      | none => none
    | _ => none
  | .scr ns => match y with
    | .int i => match atI ns i with
      | some d => some (.int d, hp)
      | none => none
    | _ => none
  | .str z => match y with
    | .int i => if z.length ≤ sizeLine then match atI z.cps.toList i with
      | some c => some (.str ⟨#[c]⟩, hp)
      | none => none else none
    | _ => none
  | .ref n => match hp[n]? with
    | some (.lst ds) => match y with
      | .int i => match atI ds i with
        | some d => some (d, hp)
        | none => none
      | _ => none
    | some o => match dicOf o with
      | some kvs => if dKind kvs y = true then match look kvs y with
        | some d => some (d, hp)
        | none => none else none
      | none => none
    | none => none
  | _ => none
theorem atI_rps {K : PySem.W.Frag} {H : Hp} {μ : List Addr} {ds : List D} {vs : List V} {i : Int} {d : D} (r : Rps K H μ ds vs) (h : atI ds i = some d) : ∃ v, atI vs i = some v ∧ Rp K H μ d v := by
  unfold atI at h ⊢
  rw [r.len]
  cases e : ixN ds.length i with
  | none => rw [e] at h; cases h
  | some j =>
    rw [e] at h
    obtain ⟨v, e2, r2⟩ := r.get h
    exact ⟨v, e2, r2⟩
theorem atI_map {α β : Type} (f : α → β) {xs : List α} {i : Int} {x : α} (h : atI xs i = some x) : atI (xs.map f) i = some (f x) := by
  unfold atI at h ⊢
  rw [List.length_map]
  cases e : ixN xs.length i with
  | none => rw [e] at h; cases h
  | some j =>
    rw [e] at h
    show (xs.map f)[j]? = _
    rw [List.getElem?_map, show xs[j]? = some x from h]
    rfl
section
variable {X : Cx} {e a b : Expr} {es : List Expr} {fa fb : AE} {fl : AA} {ft : AT} {fr : AA} {pos : Pos}
theorem m2_some {g : D → D → Hd → Option (D × Hd)} {ls : Ls} {hp hp' : Hd} {d : D} (h : m2 fa fb g ls hp = some (d, hp')) : ∃ d1 hp1 d2 hp2, fa ls hp = some (d1, hp1) ∧ fb ls hp1 = some (d2, hp2) ∧ g d1 d2 hp2 = some (d, hp') := by
  unfold m2 at h
  cases e1 : fa ls hp with
  | none => rw [e1] at h; cases h
  | some p1 =>
    obtain ⟨d1, hp1⟩ := p1
    rw [e1] at h
    dsimp only at h
    cases e2 : fb ls hp1 with
    | none => rw [e2] at h; cases h
    | some p2 =>
      obtain ⟨d2, hp2⟩ := p2
      rw [e2] at h
      exact ⟨d1, hp1, d2, hp2, rfl, e2, h⟩
theorem de_ix (hu : X.A.units + 1 < cLine) (ha : DE X a fa) (hb : DE X b fb) (hs : PlainIx b := by intro _ _; rfl) : DE X (.Subscript a b pos) (m2 fa fb gIx) :=
  PE.imp (PE.or (pe_ix ix_seq ha hb hs) (pe_dget hu ha hb hs)) fun σ H Q ⟨ls, hp, μ, d, hp', rl, rh, e, q⟩ => by
    obtain ⟨d1, hp1, d2, hp2, e1, e2, e3⟩ := m2_some e
    unfold gIx at e3
    cases d1 <;> try (cases e3; done)
    · rename_i z
      dsimp only at e3
      cases d2 <;> try (cases e3; done)
      rename_i i
      dsimp only at e3
      split at e3
      · rename_i hz
        split at e3
        · rename_i c ec
          cases e3
          refine .inl ⟨ls, hp, μ, _, hp1, rl, rh, e1, fun v1 H1 μ1 x1 rh1 r1 => ⟨ls, hp1, μ1, _, _, rl.ext x1, rh1, e2, fun v2 H2 μ2 x2 rh2 r2 => .inr (.inr ⟨z, i, c, r1.strE, r2.intE, hz, ec, q _ H2 μ2 (x1.trans x2) rh2 Rp.str⟩)⟩⟩
        · cases e3
      · cases e3
    · rename_i ds
      dsimp only at e3
      cases d2 <;> try (cases e3; done)
      rename_i i
      dsimp only at e3
      split at e3
      · rename_i d' ed
        cases e3
        refine .inl ⟨ls, hp, μ, _, hp1, rl, rh, e1, fun v1 H1 μ1 x1 rh1 r1 => ⟨ls, hp1, μ1, _, _, rl.ext x1, rh1, e2, fun v2 H2 μ2 x2 rh2 r2 => ?_⟩⟩
        obtain ⟨p, vs, rfl, t, rs⟩ := (r1.ext x2).tupE
        obtain ⟨v, ev, rv⟩ := atI_rps rs ed
        exact .inr (.inl ⟨p, vs, i, v, rfl, r2.intE, t.sq, ev, q _ H2 μ2 (x1.trans x2) rh2 rv⟩)
      · cases e3
    · rename_i n
      dsimp only at e3
      split at e3
      · rename_i ds eh
        cases d2 <;> try (cases e3; done)
        rename_i i
        dsimp only at e3
        split at e3
        · rename_i d' ed
          cases e3
          refine .inl ⟨ls, hp, μ, _, hp1, rl, rh, e1, fun v1 H1 μ1 x1 rh1 r1 => ⟨ls, hp1, μ1, _, _, rl.ext x1, rh1, e2, fun v2 H2 μ2 x2 rh2 r2 => ?_⟩⟩
          obtain ⟨p, ep, rfl⟩ := (r1.ext x2).refE
          obtain ⟨vs, evs, rs⟩ := rh2.lst ep eh
          obtain ⟨v, ev, rv⟩ := atI_rps rs ed
          exact .inl ⟨p, vs, i, v, rfl, r2.intE, .inl (.inl evs), ev, q _ H2 μ2 (x1.trans x2) rh2 rv⟩
        · cases e3
      · rename_i o _ eh
        split at e3
        · rename_i kvs eo
          split at e3
          · rename_i hk
            split at e3
            · rename_i d' ed
              cases e3
              refine .inr ⟨ls, hp, μ, _, hp1, rl, rh, e1, fun v1 H1 μ1 x1 rh1 r1 => ⟨ls, hp1, μ1, _, _, rl.ext x1, rh1, e2, fun v2 H2 μ2 x2 rh2 r2 => ?_⟩⟩
              obtain ⟨p, ep, rfl⟩ := (r1.ext x2).refE
              have ne : kvs ≠ [] := fun z => by
                subst z
                simp [look] at ed
              have key : ∃ v, DGet H2 p v2 (some v) ∧ Rp X.K H2 μ2 d v := by
                cases o with
                | lst xs => simp [dicOf] at eo
                | dic kvs' =>
                  simp only [dicOf] at eo
                  cases eo
                  obtain ⟨nd, qd⟩ := rh2.dic ep eh
                  cases kvs with
                  | nil => exact absurd rfl ne
                  | cons pr kr =>
                    by_cases hkt : ∃ ks, d2 = .tup ks
                    · obtain ⟨ks, rfl⟩ := hkt
                      obtain ⟨⟨k', ek⟩, h2⟩ := dKind_tup hk
                      rcases qd with ⟨vs, ev, r⟩ | ⟨vs, ev, r⟩
                      · obtain ⟨ds, e5⟩ := h2 pr kr rfl
                        exact (r.tupNot rfl e5).elim
                      · obtain ⟨b, ws, rfl, hb, rs⟩ := r2.tupE
                        have := rs.keysV ek
                        subst this
                        have ro := r.look ek
                        rw [ed] at ro
                        cases h : valV vs k' with
                        | none => rw [h] at ro; exact ro.elim
                        | some v =>
                          rw [h] at ro
                          exact ⟨v, .inr ⟨vs, k', b, .inl ev, rfl, hb, h.symm⟩, ro⟩
                    · have nt : ∀ ks, d2 ≠ .tup ks := fun ks z => hkt ⟨ks, z⟩
                      obtain ⟨k', ek⟩ := dKind_leaf hk nt
                      rcases qd with ⟨vs, ev, r⟩ | ⟨vs, ev, r⟩
                      · have ro := r.look ek
                        rw [ed] at ro
                        cases h : valV vs k' with
                        | none => rw [h] at ro; exact ro.elim
                        | some v =>
                          rw [h] at ro
                          exact ⟨v, .inl ⟨vs, k', .inl ev, r2.keyV ek, h.symm⟩, ro⟩
                      · exact (r.leafNot rfl (dKind_leaf2 hk nt)).elim
                | dicL kvs' =>
                  simp only [dicOf] at eo
                  split at eo
                  · cases eo
                  · cases eo
                    obtain ⟨nd, qd⟩ := rh2.dicL ep eh
                    cases kvs with
                    | nil => exact absurd rfl ne
                    | cons pr kr =>
                      by_cases hkt : ∃ ks, d2 = .tup ks
                      · obtain ⟨ks, rfl⟩ := hkt
                        obtain ⟨⟨k', ek⟩, h2⟩ := dKind_tup hk
                        rcases qd with ⟨ob, vs, ev, r⟩ | ⟨ob, vs, ev, r⟩
                        · obtain ⟨ds, e5⟩ := h2 pr kr rfl
                          exact (r.tupNot rfl e5).elim
                        · obtain ⟨b, ws, rfl, hb, rs⟩ := r2.tupE
                          have := rs.keysV ek
                          subst this
                          have ro := r.look ek
                          rw [ed] at ro
                          cases h : valV vs k' with
                          | none => rw [h] at ro; exact ro.elim
                          | some v =>
                            rw [h] at ro
                            exact ⟨v, .inr ⟨vs, k', b, .inr ⟨ob, ev⟩, rfl, hb, h.symm⟩, ro⟩
                      · have nt : ∀ ks, d2 ≠ .tup ks := fun ks z => hkt ⟨ks, z⟩
                        obtain ⟨k', ek⟩ := dKind_leaf hk nt
                        rcases qd with ⟨ob, vs, ev, r⟩ | ⟨ob, vs, ev, r⟩
                        · have ro := r.look ek
                          rw [ed] at ro
                          cases h : valV vs k' with
                          | none => rw [h] at ro; exact ro.elim
                          | some v =>
                            rw [h] at ro
                            exact ⟨v, .inl ⟨vs, k', .inr ⟨ob, ev⟩, r2.keyV ek, h.symm⟩, ro⟩
                        · exact (r.leafNot rfl (dKind_leaf2 hk nt)).elim
              obtain ⟨v, g, rv⟩ := key
              exact ⟨p, v, rfl, g, q v H2 μ2 (x1.trans x2) rh2 rv⟩
            · cases e3
          · cases e3
        · cases e3
      · cases e3
    · rename_i ns
      dsimp only at e3
      cases d2 <;> try (cases e3; done)
      rename_i i
      dsimp only at e3
      split at e3
      · rename_i d' ed
        cases e3
        refine .inl ⟨ls, hp, μ, _, hp1, rl, rh, e1, fun v1 H1 μ1 x1 rh1 r1 => ⟨ls, hp1, μ1, _, _, rl.ext x1, rh1, e2, fun v2 H2 μ2 x2 rh2 r2 => ?_⟩⟩
        obtain ⟨p, rfl, sc⟩ := (r1.ext x2).scrE
        exact .inl ⟨p, _, i, .int d', rfl, r2.intE, sc.sq, atI_map V.int ed, q _ H2 μ2 (x1.trans x2) rh2 Rp.int⟩
      · cases e3
    · rename_i ds
      dsimp only at e3
      cases d2 <;> try (cases e3; done)
      rename_i i
      dsimp only at e3
      split at e3
      · rename_i d' ed
        cases e3
        refine .inl ⟨ls, hp, μ, _, hp1, rl, rh, e1, fun v1 H1 μ1 x1 rh1 r1 => ⟨ls, hp1, μ1, _, _, rl.ext x1, rh1, e2, fun v2 H2 μ2 x2 rh2 r2 => ?_⟩⟩
        obtain ⟨p, vs, rfl, t, rs⟩ := (r1.ext x2).wtE
        obtain ⟨v, ev, rv⟩ := atI_rps rs ed
        exact .inr (.inl ⟨p, vs, i, v, rfl, r2.intE, t.sq, ev, q _ H2 μ2 (x1.trans x2) rh2 rv⟩)
      · cases e3

def gSet (x y v : D) (hp : Hd) : Option Hd := match x with
  | .ref n => match hp[n]? with
    | some (.lst ds) => match y with
      | .int i => match ixN ds.length i with
        | some j => some (hp.set n (.lst (ds.set j v)))
        | none => none
      | _ => none
    | some (.dic kvs) => if (dKind kvs y && decide (kvs.length < sizeLine)) = true then some (hp.set n (.dic (putD kvs y v))) else none
    | _ => none
  | _ => none
def rSetD (K : PySem.W.Frag) : TSet := fun x y v H Q => ∃ hp μ dx dy dv hp', RelH K H μ hp ∧ Rp K H μ dx x ∧ Rp K H μ dy y ∧ Rp K H μ dv v ∧ gSet dx dy dv hp = some hp' ∧
  ∀ H', Ext μ H μ H' → RelH K H' μ hp' → Q H'
theorem Rps.set {K : PySem.W.Frag} {H : Hp} {μ : List Addr} {d : D} {v : V} (rv : Rp K H μ d v) : ∀ {ds : List D} {vs : List V} (j : Nat), Rps K H μ ds vs → Rps K H μ (ds.set j d) (vs.set j v)
  | [], vs, j, h => by
    rw [Rps] at h
    subst h
    exact Rps.nil
  | x :: xs, vs, j, h => by
    rw [Rps] at h
    obtain ⟨w, r, rfl, h1, h2⟩ := h
    cases j with
    | zero =>
      rw [List.set_cons_zero, List.set_cons_zero, Rps]
      exact ⟨v, r, rfl, rv, h2⟩
    | succ j =>
      rw [List.set_cons_succ, List.set_cons_succ, Rps]
      exact ⟨w, _, rfl, h1, Rps.set rv j h2⟩
theorem set_any (hu : X.A.units + 1 < cLine) : PSet X (rSetD X.K) := by
  intro pins s σ H o i v ov iv u Q I ro ri rv h
  obtain ⟨hp, μ, dx, dy, dv, hp', rh, rx, ry, rw', e, q⟩ := h
  unfold gSet at e
  cases dx <;> try (cases e; done)
  rename_i n
  dsimp only at e
  obtain ⟨a, ea, rfl⟩ := rx.refE
  split at e
  · rename_i ds eh
    cases dy <;> try (cases e; done)
    rename_i k
    dsimp only at e
    split at e
    · rename_i j ej
      cases e
      obtain ⟨vs, ev, rs⟩ := rh.lst ea eh
      have x0 : Mon μ H μ (upd H a (.lst (vs.set j v))) := Mon.loose ev
      obtain ⟨r1, x1⟩ := rh.put (o := .lst (ds.set j dv)) (u := .lst (vs.set j v)) ea ⟨_, rfl, (rs.set rw' j).mon x0⟩
      exact set_list pins s σ H _ i v ov iv u Q I ro ri rv ⟨a, vs, k, j, rfl, ry.intE, ev, by rw [rs.len]; exact ej, q _ x1 r1⟩
    · cases e
  · rename_i kvs eh
    split at e
    · rename_i hk
      rw [Bool.and_eq_true] at hk
      have hl := of_decide_eq_true hk.2
      cases e
      obtain ⟨H1, I1, x1, rh1, nd, c⟩ := dic_kind I rh ea eh hk.1
      obtain rfl : ov = Value.ref a := ro
      rcases c with ⟨nt, vs, ev, r⟩ | ⟨⟨ks, rfl⟩, vs, ev, r⟩
      · obtain ⟨k', ek⟩ := dKind_leaf hk.1 nt
        have hv := ry.keyV ek
        subst hv
        have x0 : Mon μ H1 μ (upd H1 a (.dK (putK vs k' v))) := ⟨⟨[], by simp⟩, fun b xs e => by rw [upd_ne (fun z => by subst z; rw [ev] at e; cases e)]; exact e, fun b ob xs e => by rw [upd_ne (fun z => by subst z; rw [ev] at e; cases e)]; exact e⟩
        obtain ⟨r2, x2⟩ := rh1.put (o := .dic (putD kvs dy dv)) (u := .dK (putK vs k' v)) ea ⟨nd.put, .inl ⟨_, rfl, (r.put ek (rw'.ext x1) nd).mon x0⟩⟩
        exact d_setItem hu I1 (DPut.k ev (by rw [r.len]; exact hl)) ri rv fun s' I2 => ⟨_, I2, q _ (x1.trans x2) r2⟩
      · obtain ⟨⟨k', ek⟩, _⟩ := dKind_tup hk.1
        obtain ⟨b, ws, rfl, hb, rs⟩ := (ry.ext x1).tupE
        have := rs.keysV ek
        subst this
        have x0 : Mon μ H1 μ (upd H1 a (.dT (putK vs k' v))) := ⟨⟨[], by simp⟩, fun b xs e => by rw [upd_ne (fun z => by subst z; rw [ev] at e; cases e)]; exact e, fun b ob xs e => by rw [upd_ne (fun z => by subst z; rw [ev] at e; cases e)]; exact e⟩
        obtain ⟨r2, x2⟩ := rh1.put (o := .dic (putD kvs (.tup ks) dv)) (u := .dT (putK vs k' v)) ea ⟨nd.put, .inr ⟨_, rfl, (r.put ek (rw'.ext x1) nd).mon x0⟩⟩
        exact d_setItem hu I1 (DPut.t ev hb (by rw [r.len]; exact hl)) ri rv fun s' I2 => ⟨_, I2, q _ (x1.trans x2) r2⟩
    · cases e
  · cases e
def sStore (fe fo fi : AE) : AS := fun ls hp => match fe ls hp with
  | some (v, hp1) => match fo ls hp1 with
    | some (x, hp2) => match fi ls hp2 with
      | some (y, hp3) => match gSet x y v hp3 with
        | some hp4 => some (.nx, ls, hp4)
        | none => none
      | none => none
    | none => none
  | none => none
theorem ds_store {o i : Expr} {fe fo fi : AE} {pos' : Pos} (hu : X.A.units + 1 < cLine) (he : DE X e fe) (ho : DE X o fo) (hi : DE X i fi) (hs : swapsWithSole [.Subscript o i pos'] e pos.line X.env = pure false := by rfl)
    (hsw : swappedStores [.Subscript o i pos'] e X.env = pure none := by rfl) (h1 : (assignEach [.Subscript o i pos'] X.env).map (·.2) = [assign (.Subscript o i pos') X.env] := by rfl)
    (ha : ∀ v, assign (.Subscript o i pos') X.env v = (do
      let ov ← holding [v] (eval o X.env)
      let iv ← holding [v, ov] (eval i X.env)
      standAt pos'
      holding [v, ov, iv] (setItem ov iv v)
      release [v, ov, iv] []) := by intro _; rfl) : DS X (.Assign [.Subscript o i pos'] e pos) (sStore fe fo fi) :=
  PS.imp (ps_asg he (pg_sub ho hi (set_any hu) ha) hs hsw h1) fun Dn σ H ⟨ls, hp, μ, fl, ls', hp', rl, rh, e, q⟩ => by
    unfold sStore at e
    split at e
    · rename_i v hp1 e1
      split at e
      · rename_i x hp2 e2
        split at e
        · rename_i y hp3 e3
          split at e
          · rename_i hp4 e4
            cases e
            exact ⟨ls, hp, μ, v, hp1, rl, rh, e1, fun v1 H1 μ1 x1 rh1 r1 => ⟨ls, hp1, μ1, x, hp2, rl.ext x1, rh1, e2, fun v2 H2 μ2 x2 rh2 r2 => ⟨ls, hp2, μ2, y, hp3, (rl.ext x1).ext x2, rh2, e3, fun v3 H3 μ3 x3 rh3 r3 =>
              ⟨hp3, μ3, x, y, v, hp', rh3, r2.ext x3, r3, (r1.ext x2).ext x3, e4, fun H4 x4 rh4 => q H4 μ3 (((x1.trans x2).trans x3).trans x4) rh4 σ ((((rl.ext x1).ext x2).ext x3).ext x4)⟩⟩⟩⟩
          · cases e
        · cases e
      · cases e
    · cases e
def sAug (i : Nat) (fe : AE) (g : D → D → Hd → Option (D × Hd)) : AS := fun ls hp => match ls[i]? with
  | some (some x) => match fe ls hp with
    | some (y, hp1) => match g x y hp1 with
      | some (z, hp2) => some (.nx, ls.set i (some z), hp2)
      | none => none
    | none => none
  | _ => none
theorem ds_aug {i : Nat} {x : Str} {op : Operator} {pos' : Pos} {g : D → D → Hd → Option (D × Hd)} (hN : X.N.Nodup) (hi : X.N[i]? = some x) (hx : Loc X.env.scope x) (he : DE X e fa) (ho : OpR X (inplaceOp op) (RD X.K g))
    (hf : X.fn x = true ∨ X.env.scope.names.lookup x = some .local := by first | exact .inl rfl | exact .inr rfl | assumption) : DS X (.AugAssign (.Name x pos') op e pos) (sAug i fa g) :=
  PS.imp (ps_aug (ti := RD X.K g) hN hi hx he ho hf) fun Dn σ H ⟨ls, hp, μ, fl, ls', hp', rl, rh, e, q⟩ => by
    unfold sAug at e
    split at e
    · rename_i x ex
      obtain ⟨v, ev, rv⟩ := rl.2 i x ex
      split at e
      · rename_i y hp1 e1
        split at e
        · rename_i z hp2 e2
          cases e
          exact ⟨v, ev, ls, hp, μ, y, hp1, rl, rh, e1, fun v1 H1 μ1 x1 rh1 r1 => ⟨hp1, μ1, x, y, z, hp', rh1, rv.ext x1, r1, e2, fun w H' μ' x2 rh2 r2 => q H' μ' (x1.trans x2) rh2 _ (((rl.ext x1).ext x2).set r2)⟩⟩
        · cases e
      · cases e
    · cases e
def gAddI : D → D → Hd → Option (D × Hd) := gI (fun _ _ => true) fun i j => .int (i + j)
theorem i_add : OpR X (inplaceOp .Add) (RD X.K gAddI) := op_gI0 iop_add
theorem i_sub : OpR X (inplaceOp .Sub) (RD X.K gSub) := op_gI0 iop_sub
end
end Ve
namespace Ve
open PySem PySem.Spec L2

def mAnd (f g : AT) : AT := fun ls hp => match f ls hp with
  | some (true, hp1) => g ls hp1
  | r => r
def mOr (f g : AT) : AT := fun ls hp => match f ls hp with
  | some (false, hp1) => g ls hp1
  | r => r
def mNot (f : AT) : AT := fun ls hp => match f ls hp with
  | some (b, hp1) => some (!b, hp1)
  | none => none
def mAndV (f g : AE) : AE := fun ls hp => match f ls hp with
  | some (.bl true, hp1) => g ls hp1
  | some (.bl false, hp1) => some (.bl false, hp1)
  | _ => none
def mOrV (f g : AE) : AE := fun ls hp => match f ls hp with
  | some (.bl true, hp1) => some (.bl true, hp1)
  | some (.bl false, hp1) => g ls hp1
  | _ => none
def mNotV (f : AE) : AE := fun ls hp => match f ls hp with
  | some (.bl b, hp1) => some (.bl (!b), hp1)
  | _ => none
def mIfE (c : AT) (f g : AE) : AE := fun ls hp => match c ls hp with
  | some (true, hp1) => f ls hp1
  | some (false, hp1) => g ls hp1
  | none => none
section
variable {X : Cx} {e a b c : Expr} {es rest : List Expr} {fa fb fc : AE} {fl fm : AA} {ft fu : AT} {fr : AA} {pos : Pos}
theorem dt_val (h : DE X e fa) (he : ∀ whole, isTrue e X.env whole = (do let v ← whole; standAt e.pos; holding [v] (truthy v)) := by intro _; rfl) : DT X e (mT fa) :=
  PT.imp (pt_val h he) fun σ H Q ⟨ls, hp, μ, b, hp', rl, rh, e, q⟩ => by
    unfold mT at e
    split at e
    · rename_i b' hp1 e1
      cases e
      exact ⟨ls, hp, μ, .bl b, hp', rl, rh, e1, fun v H' μ' x1 rh1 r1 => ⟨b, r1.blE, q H' μ' x1 rh1⟩⟩
    · cases e
theorem dw_and1 (ha : DT X a ft) : DW X (.BoolOp .And [a] pos) ft := pw_and1 ha
theorem dw_or1 (ha : DT X a ft) : DW X (.BoolOp .Or [a] pos) ft := pw_or1 ha
theorem dw_and (ha : DT X a ft) (hb : DW X (.BoolOp .And (b :: rest) pos) fu) : DW X (.BoolOp .And (a :: b :: rest) pos) (mAnd ft fu) :=
  PW.imp (pw_and ha hb) fun σ H Q ⟨ls, hp, μ, r, hp', rl, rh, e, q⟩ => by
    unfold mAnd at e
    cases e1 : ft ls hp with
    | none => rw [e1] at e; cases e
    | some p =>
      obtain ⟨k, hp1⟩ := p
      rw [e1] at e
      refine ⟨ls, hp, μ, k, hp1, rl, rh, e1, fun H1 μ1 x1 rh1 => ?_⟩
      cases k with
      | true => exact iteT ⟨ls, hp1, μ1, r, hp', rl.ext x1, rh1, e, fun H2 μ2 x2 rh2 => q H2 μ2 (x1.trans x2) rh2⟩
      | false =>
        cases e
        exact iteF (q H1 μ1 x1 rh1)
theorem dw_or (ha : DT X a ft) (hb : DW X (.BoolOp .Or (b :: rest) pos) fu) : DW X (.BoolOp .Or (a :: b :: rest) pos) (mOr ft fu) :=
  PW.imp (pw_or ha hb) fun σ H Q ⟨ls, hp, μ, r, hp', rl, rh, e, q⟩ => by
    unfold mOr at e
    cases e1 : ft ls hp with
    | none => rw [e1] at e; cases e
    | some p =>
      obtain ⟨k, hp1⟩ := p
      rw [e1] at e
      refine ⟨ls, hp, μ, k, hp1, rl, rh, e1, fun H1 μ1 x1 rh1 => ?_⟩
      cases k with
      | false => exact iteF ⟨ls, hp1, μ1, r, hp', rl.ext x1, rh1, e, fun H2 μ2 x2 rh2 => q H2 μ2 (x1.trans x2) rh2⟩
      | true =>
        cases e
        exact iteT (q H1 μ1 x1 rh1)
theorem dt_w (h : DW X e ft) : DT X e ft := h.pt
theorem dt_not (ha : DT X a ft) : DT X (.UnaryOp .Not a pos) (mNot ft) :=
  PT.imp (pt_not ha) fun σ H Q ⟨ls, hp, μ, r, hp', rl, rh, e, q⟩ => by
    unfold mNot at e
    split at e
    · rename_i b hp1 e1
      cases e
      exact ⟨ls, hp, μ, b, hp', rl, rh, e1, fun H1 μ1 x1 rh1 => q H1 μ1 x1 rh1⟩
    · cases e
theorem de_one {op} (h : DE X a fa) : DE X (.BoolOp op [a] pos) fa := pe_one h
theorem de_and (ha : DE X a fa) (hb : DE X (.BoolOp .And (b :: rest) pos) fb) : DE X (.BoolOp .And (a :: b :: rest) pos) (mAndV fa fb) :=
  PE.imp (pe_and ha hb) fun σ H Q ⟨ls, hp, μ, r, hp', rl, rh, e, q⟩ => by
    unfold mAndV at e
    split at e
    · rename_i hp1 e1
      exact ⟨ls, hp, μ, _, hp1, rl, rh, e1, fun v H1 μ1 x1 rh1 r1 => ⟨true, r1.blE, iteT ⟨ls, hp1, μ1, r, hp', rl.ext x1, rh1, e, fun v H2 μ2 x2 rh2 r2 => q v H2 μ2 (x1.trans x2) rh2 r2⟩⟩⟩
    · rename_i hp1 e1
      cases e
      exact ⟨ls, hp, μ, _, hp', rl, rh, e1, fun v H1 μ1 x1 rh1 r1 => ⟨false, r1.blE, iteF (q _ H1 μ1 x1 rh1 Rp.bl)⟩⟩
    · cases e
theorem de_or (ha : DE X a fa) (hb : DE X (.BoolOp .Or (b :: rest) pos) fb) : DE X (.BoolOp .Or (a :: b :: rest) pos) (mOrV fa fb) :=
  PE.imp (pe_or ha hb) fun σ H Q ⟨ls, hp, μ, r, hp', rl, rh, e, q⟩ => by
    unfold mOrV at e
    split at e
    · rename_i hp1 e1
      cases e
      exact ⟨ls, hp, μ, _, hp', rl, rh, e1, fun v H1 μ1 x1 rh1 r1 => ⟨true, r1.blE, iteT (q _ H1 μ1 x1 rh1 Rp.bl)⟩⟩
    · rename_i hp1 e1
      exact ⟨ls, hp, μ, _, hp1, rl, rh, e1, fun v H1 μ1 x1 rh1 r1 => ⟨false, r1.blE, iteF ⟨ls, hp1, μ1, r, hp', rl.ext x1, rh1, e, fun v H2 μ2 x2 rh2 r2 => q v H2 μ2 (x1.trans x2) rh2 r2⟩⟩⟩
    · cases e
theorem de_not (ha : DE X a fa) : DE X (.UnaryOp .Not a pos) (mNotV fa) :=
  PE.imp (pe_not ha) fun σ H Q ⟨ls, hp, μ, r, hp', rl, rh, e, q⟩ => by
    unfold mNotV at e
    split at e
    · rename_i b hp1 e1
      cases e
      exact ⟨ls, hp, μ, _, hp', rl, rh, e1, fun v H1 μ1 x1 rh1 r1 => ⟨b, r1.blE, q _ H1 μ1 x1 rh1 Rp.bl⟩⟩
    · cases e
theorem de_ifExp (hc : DT X c ft) (ha : DE X a fa) (hb : DE X b fb) : DE X (.IfExp c a b pos) (mIfE ft fa fb) :=
  PE.imp (pe_ifExp hc ha hb) fun σ H Q ⟨ls, hp, μ, r, hp', rl, rh, e, q⟩ => by
    unfold mIfE at e
    split at e
    · rename_i hp1 e1
      exact ⟨ls, hp, μ, true, hp1, rl, rh, e1, fun H1 μ1 x1 rh1 => iteT ⟨ls, hp1, μ1, r, hp', rl.ext x1, rh1, e, fun v H2 μ2 x2 rh2 r2 => q v H2 μ2 (x1.trans x2) rh2 r2⟩⟩
    · rename_i hp1 e1
      exact ⟨ls, hp, μ, false, hp1, rl, rh, e1, fun H1 μ1 x1 rh1 => iteF ⟨ls, hp1, μ1, r, hp', rl.ext x1, rh1, e, fun v H2 μ2 x2 rh2 r2 => q v H2 μ2 (x1.trans x2) rh2 r2⟩⟩
    · cases e
def mChain (fa fb fc : AE) (g g' : D → D → Hd → Option (D × Hd)) : AE := fun ls hp => match fa ls hp with
  | some (x, hp1) => match fb ls hp1 with
    | some (y, hp2) => match g x y hp2 with
      | some (.bl true, hp3) => match fc ls hp3 with
        | some (z, hp4) => g' y z hp4
        | none => none
      | some (.bl false, hp3) => some (.bl false, hp3)
      | _ => none
    | none => none
  | none => none
theorem tChain_of {K : PySem.W.Frag} {g g' : D → D → Hd → Option (D × Hd)} {σ : St} {H : Hp} {Q : VK} (h : tD K (mChain fa fb fc g g') σ H Q) : tChain (RD K g) (RD K g') (tD K fa) (tD K fb) (tD K fc) σ H Q := by
  obtain ⟨ls, hp, μ, d, hp', rl, rh, e, q⟩ := h
  unfold mChain at e
  split at e
  · rename_i x hp1 e1
    split at e
    · rename_i y hp2 e2
      split at e
      · rename_i hp3 e3
        split at e
        · rename_i z hp4 e4
          exact ⟨ls, hp, μ, x, hp1, rl, rh, e1, fun v1 H1 μ1 x1 rh1 r1 => ⟨ls, hp1, μ1, y, hp2, rl.ext x1, rh1, e2, fun v2 H2 μ2 x2 rh2 r2 => ⟨hp2, μ2, x, y, _, hp3, rh2, r1.ext x2, r2, e3, fun v3 H3 μ3 x3 rh3 r3 =>
            ⟨true, r3.blE, iteT ⟨ls, hp3, μ3, z, hp4, ((rl.ext x1).ext x2).ext x3, rh3, e4, fun v4 H4 μ4 x4 rh4 r4 => ⟨hp4, μ4, y, z, d, hp', rh4, (r2.ext x3).ext x4, r4, e, fun v H5 μ5 x5 rh5 r5 => q v H5 μ5 ((((x1.trans x2).trans x3).trans x4).trans x5) rh5 r5⟩⟩⟩⟩⟩⟩
        · cases e
      · rename_i hp3 e3
        cases e
        exact ⟨ls, hp, μ, x, hp1, rl, rh, e1, fun v1 H1 μ1 x1 rh1 r1 => ⟨ls, hp1, μ1, y, hp2, rl.ext x1, rh1, e2, fun v2 H2 μ2 x2 rh2 r2 => ⟨hp2, μ2, x, y, _, hp', rh2, r1.ext x2, r2, e3, fun v3 H3 μ3 x3 rh3 r3 =>
            ⟨false, r3.blE, iteF (q _ H3 μ3 ((x1.trans x2).trans x3) rh3 Rp.bl)⟩⟩⟩⟩
      · cases e
    · cases e
  · cases e
theorem de_chain {op op' : CmpOp} {g g' : D → D → Hd → Option (D × Hd)} (ho : OpR X (compareOp op) (RD X.K g)) (ho' : OpR X (compareOp op') (RD X.K g')) (ha : DE X a fa) (hb : DE X b fb) (hc : DE X c fc)
    (hm : lastMarks [op, op'] [b, c] = false := by with_unfolding_all rfl) : DE X (.Compare a [op, op'] [b, c] pos) (mChain fa fb fc g g') :=
  PE.imp (pe_chain ho ho' ha hb hc hm) fun _ _ _ h => tChain_of h
def gIs (x y : D) (hp : Hd) : Option (D × Hd) := match y with
  | .non => match x with
    | .non => some (.bl true, hp)
    | _ => some (.bl false, hp)
  | .bl b => match x with
    | .bl a => some (.bl (decide (a = b)), hp)
    | _ => none
  | _ => none
def gIsNot (x y : D) (hp : Hd) : Option (D × Hd) := match y with
  | .non => match x with
    | .non => some (.bl false, hp)
    | _ => some (.bl true, hp)
  | .bl b => match x with
    | .bl a => some (.bl (!decide (a = b)), hp)
    | _ => none
  | _ => none
theorem Rp.notNon {K : PySem.W.Frag} {H : Hp} {μ : List Addr} {d : D} {v : V} (r : Rp K H μ d v) (h : d ≠ .non) : v ≠ .non := by
  intro e
  subst e
  cases d with
  | non => exact h rfl
  | bl b => exact nomatch r.blE
  | int i => exact nomatch r.intE
  | str x => exact nomatch r.strE
  | tup ds => obtain ⟨a, vs, e, _⟩ := r.tupE; exact nomatch e
  | wt ds => obtain ⟨a, vs, e, _⟩ := r.wtE; exact nomatch e
  | ref n => obtain ⟨a, _, e⟩ := r.refE; exact nomatch e
  | scr ns => obtain ⟨a, e, _⟩ := r.scrE; exact nomatch e
theorem o_is : OpR X (compareOp .Is) (RD X.K gIs) := fun pins s σ H x y v u Q I rx ry ⟨hp, μ, d1, d2, d, hp', rh, r1, r2, e, q⟩ => by
  unfold gIs at e
  split at e
  · split at e
    · cases e
      cases r1.nonE
      cases r2.nonE
      exact op_isN pins s σ H .non .non v u Q I rx ry ⟨rfl, q _ H μ Ext.refl rh Rp.bl⟩
    · rename_i hne
      cases e
      refine op_isN pins s σ H x y v u Q I rx ry ⟨r2.nonE, ?_⟩
      rw [decide_eq_false (r1.notNon fun z => hne z)]
      exact q _ H μ Ext.refl rh Rp.bl
  · split at e
    · cases e
      exact op_is_bl pins s σ H x y v u Q I rx ry ⟨_, _, r1.blE, r2.blE, q _ H μ Ext.refl rh Rp.bl⟩
    · cases e
  · cases e
theorem o_isNot : OpR X (compareOp .IsNot) (RD X.K gIsNot) := fun pins s σ H x y v u Q I rx ry ⟨hp, μ, d1, d2, d, hp', rh, r1, r2, e, q⟩ => by
  unfold gIsNot at e
  split at e
  · split at e
    · cases e
      cases r1.nonE
      cases r2.nonE
      exact op_notN pins s σ H .non .non v u Q I rx ry ⟨rfl, q _ H μ Ext.refl rh Rp.bl⟩
    · rename_i hne
      cases e
      refine op_notN pins s σ H x y v u Q I rx ry ⟨r2.nonE, ?_⟩
      rw [decide_eq_false (r1.notNon fun z => hne z)]
      exact q _ H μ Ext.refl rh Rp.bl
  · split at e
    · cases e
      exact op_isnot_bl pins s σ H x y v u Q I rx ry ⟨_, _, r1.blE, r2.blE, q _ H μ Ext.refl rh Rp.bl⟩
    · cases e
  · cases e
def m2L (fa : AE) (fl : AA) (g : D → List D → Hd → Option (D × Hd)) : AE := fun ls hp => match fa ls hp with
  | some (a, hp1) => match fl ls hp1 with
    | some (ds, hp2) => g a ds hp2
    | none => none
  | none => none
def gInL (neg : Bool) (x : D) (ys : List D) (hp : Hd) : Option (D × Hd) := match inL hp x ys with
  | some b => some (.bl (if neg then !b else b), hp)
  | none => none
def RL (K : PySem.W.Frag) (g : D → List D → Hd → Option (D × Hd)) : R2 := fun x y H Q => ∃ hp μ d1 ds vs p d hp', RelH K H μ hp ∧ Rp K H μ d1 x ∧ y = .ref p ∧ p ∉ μ ∧ H p = some (.lst vs) ∧ Rps K H μ ds vs ∧ g d1 ds hp = some (d, hp') ∧
  ∀ v H' μ', Ext μ H μ' H' → RelH K H' μ' hp' → Rp K H' μ' d v → Q v H'
theorem tOpL_of {K : PySem.W.Frag} {g : D → List D → Hd → Option (D × Hd)} {σ : St} {H : Hp} {Q : VK} (h : tD K (m2L fa fl g) σ H Q) : tOp (RL K g) (tD K fa) (tL K fl) σ H Q := by
  obtain ⟨ls, hp, μ, d, hp', rl, rh, e, q⟩ := h
  unfold m2L at e
  split at e
  · rename_i a hp1 e1
    split at e
    · rename_i ds hp2 e2
      exact ⟨ls, hp, μ, a, hp1, rl, rh, e1, fun v1 H1 μ1 x1 rh1 r1 => ⟨ls, hp1, μ1, ds, hp2, rl.ext x1, rh1, e2, fun p vs H2 μ2 x2 rh2 h0 hn hl r2 =>
        ⟨hp2, μ2, a, ds, vs, p, d, hp', rh2, r1.ext x2, rfl, hn, hl, r2, e, fun v H3 μ3 x3 rh3 r3 => q v H3 μ3 ((x1.trans x2).trans x3) rh3 r3⟩⟩⟩
    · cases e
  · cases e
theorem o_inL (hu : X.A.units + 65 < cLine) : OpR X (compareOp .In) (RL X.K (gInL false)) := fun pins s σ H x y v u Q I rx ry ⟨hp, μ, d1, ds, vs, p, d, hp', rh, r1, ep, hn, hl, r2, e, q⟩ => by
  unfold gInL at e
  split at e
  · rename_i b eb
    cases e
    obtain ⟨pd, pds, e1, e2, s1, s2, rfl⟩ := inL_some eb
    subst ep
    exact op_inD hu pins s σ H x _ v u Q I rx ry ⟨pd, pds, pyF_dp rh _ _ _ _ e1 r1, .lst (.inl (.inl hl)) (dpAll_of rh _ _ _ e2 r2), s1, s2, q _ H μ Ext.refl rh Rp.bl⟩
  · cases e
theorem o_notInL (hu : X.A.units + 65 < cLine) : OpR X (compareOp .NotIn) (RL X.K (gInL true)) := fun pins s σ H x y v u Q I rx ry ⟨hp, μ, d1, ds, vs, p, d, hp', rh, r1, ep, hn, hl, r2, e, q⟩ => by
  unfold gInL at e
  split at e
  · rename_i b eb
    cases e
    obtain ⟨pd, pds, e1, e2, s1, s2, rfl⟩ := inL_some eb
    subst ep
    exact op_notInD hu pins s σ H x _ v u Q I rx ry ⟨pd, pds, pyF_dp rh _ _ _ _ e1 r1, .lst (.inl (.inl hl)) (dpAll_of rh _ _ _ e2 r2), s1, s2, q _ H μ Ext.refl rh Rp.bl⟩
  · cases e
theorem de_cmpL {op : CmpOp} {g : D → List D → Hd → Option (D × Hd)} (ho : OpR X (compareOp op) (RL X.K g)) (ha : DE X a fa) (hb : LE X b fl) (hm : behindInMarks op b = false) : DE X (.Compare a [op] [b] pos) (m2L fa fl g) :=
  PE.imp (pe_cmpR ho ha hb hm) fun _ _ _ h => tOpL_of h
def gEqL (neg : Bool) (x : D) (ys : List D) (hp : Hd) : Option (D × Hd) := match pyF hp 16 x, mapO (pyF hp 15) ys with
  | some p, some qs => if (SeqAt.shaped p && SeqAt.shaped (.list qs)) = true then some (.bl (if neg then !PyData.eqv p (.list qs) else PyData.eqv p (.list qs)), hp) else none
  | _, _ => none
theorem o_eqL (hu : X.A.units + 64 < cLine) : OpR X (compareOp .Eq) (RL X.K (gEqL false)) := fun pins s σ H x y v u Q I rx ry ⟨hp, μ, d1, ds, vs, p, d, hp', rh, r1, ep, hn, hl, r2, e, q⟩ => by
  unfold gEqL at e
  split at e
  · rename_i pp qs e1 e2
    split at e
    · rename_i hs
      rw [Bool.and_eq_true] at hs
      cases e
      subst ep
      exact op_eqD hu pins s σ H x _ v u Q I rx ry ⟨pp, _, pyF_dp rh _ _ _ _ e1 r1, .lst (.inl (.inl hl)) (dpAll_of rh _ _ _ e2 r2), hs.1, hs.2, q _ H μ Ext.refl rh Rp.bl⟩
    · cases e
  · cases e
theorem o_neL (hu : X.A.units + 64 < cLine) : OpR X (compareOp .NotEq) (RL X.K (gEqL true)) := fun pins s σ H x y v u Q I rx ry ⟨hp, μ, d1, ds, vs, p, d, hp', rh, r1, ep, hn, hl, r2, e, q⟩ => by
  unfold gEqL at e
  split at e
  · rename_i pp qs e1 e2
    split at e
    · rename_i hs
      rw [Bool.and_eq_true] at hs
      cases e
      subst ep
      exact op_neD hu pins s σ H x _ v u Q I rx ry ⟨pp, _, pyF_dp rh _ _ _ _ e1 r1, .lst (.inl (.inl hl)) (dpAll_of rh _ _ _ e2 r2), hs.1, hs.2, q _ H μ Ext.refl rh Rp.bl⟩
    · cases e
  · cases e

theorem de_glob {x : Str} {v : V} {u : Value} {d : D} (hg : Gl X x) (hm : X.mg x = some u) (r : RelV v u) (hr : ∀ H μ, Rp X.K H μ d v) (hd : (x == ("__debug__" : Str)) = false := by decide) : DE X (.Name x pos) (mC d) := de_c (pe_glob hg hm r hd) hr
theorem de_callB {x : Str} {p : Pos} {id : String} {g : List D → Hd → Option (D × Hd)} (hc : CallR X (.builtin id) (RDs X.K g)) (hg : Gl X x) (hm : X.mg x = none) (hv : bootBuiltins x = some (.builtin id)) (ha : DA X (e :: es) fr) (hn : x ≠ "__name__" := by decide)
    (hdb : (x == ("__debug__" : Str)) = false := by decide) (he : starEach (e :: es) X.env = (false, eval e X.env) :: starEach es X.env := by rfl) (hpl : (backTo pos (starEach es X.env)).any (·.1) = false := by rfl) : DE X (.Call (.Name x p) (e :: es) [] pos) (mAs fr g) :=
  PE.imp (pe_callB hc hg hm hv ha hn hdb he hpl) fun _ _ _ h => tCB_of h
theorem de_callTy {x : Str} {p : Pos} {T : String} {g : List D → Hd → Option (D × Hd)} (hc : CallR X (.type T) (RDs X.K g)) (hg : Gl X x) (hm : X.mg x = none) (hv : bootBuiltins x = some (.type T)) (ha : DA X (e :: es) fr) (hn : x ≠ "__name__" := by decide)
    (hdb : (x == ("__debug__" : Str)) = false := by decide) (he : starEach (e :: es) X.env = (false, eval e X.env) :: starEach es X.env := by rfl) (hpl : (backTo pos (starEach es X.env)).any (·.1) = false := by rfl) : DE X (.Call (.Name x p) (e :: es) [] pos) (mAs fr g) :=
  PE.imp (pe_callTy hc hg hm hv ha hn hdb he hpl) fun _ _ _ h => tCB_of h
def gLen : List D → Hd → Option (D × Hd)
  | [.tup ds], hp => some (.int ds.length, hp)
  | [.wt ds], hp => some (.int ds.length, hp)
  | [.scr ns], hp => some (.int ns.length, hp)
  | [.str z], hp => if z.length ≤ sizeLine then some (.int z.length, hp) else none
  | [.ref n], hp => match hp[n]? with
    | some (.lst ds) => some (.int ds.length, hp)
    | some (.dic ds) => some (.int ds.length, hp)
    | _ => none
  | _, _ => none
theorem Rps.one {K : PySem.W.Frag} {H : Hp} {μ : List Addr} {d : D} {xs : List V} (h : Rps K H μ [d] xs) : ∃ v, xs = [v] ∧ Rp K H μ d v := by
  rw [Rps] at h
  obtain ⟨v, r, rfl, h1, h2⟩ := h
  rw [Rps] at h2
  subst h2
  exact ⟨v, rfl, h1⟩
theorem Rps.two {K : PySem.W.Frag} {H : Hp} {μ : List Addr} {d e : D} {xs : List V} (h : Rps K H μ [d, e] xs) : ∃ v w, xs = [v, w] ∧ Rp K H μ d v ∧ Rp K H μ e w := by
  rw [Rps] at h
  obtain ⟨v, r, rfl, h1, h2⟩ := h
  obtain ⟨w, rfl, h3⟩ := h2.one
  exact ⟨v, w, rfl, h1, h3⟩
theorem c_len : CallR X (.builtin "len") (RDs X.K gLen) := fun pins s σ H xs us Q I r ⟨hp, μ, ds, d, hp', rh, rs, e, q⟩ => by
  unfold gLen at e
  split at e
  · cases e
    obtain ⟨v, rfl, r1⟩ := rs.one
    obtain ⟨a, vs, rfl, t, r2⟩ := r1.tupE
    rw [← r2.len] at q
    exact call_len_seq pins s σ H _ us Q I r ⟨a, vs, rfl, .inr t.sq, q _ H μ Ext.refl rh Rp.int⟩
  · cases e
    obtain ⟨v, rfl, r1⟩ := rs.one
    obtain ⟨a, vs, rfl, t, r2⟩ := r1.wtE
    rw [← r2.len] at q
    exact call_len_seq pins s σ H _ us Q I r ⟨a, vs, rfl, .inr t.sq, q _ H μ Ext.refl rh Rp.int⟩
  · rename_i ns
    cases e
    obtain ⟨v, rfl, r1⟩ := rs.one
    obtain ⟨a, rfl, t⟩ := r1.scrE
    have hl : ((ns.length : Nat) : Int) = ((ns.map V.int).length : Nat) := by rw [List.length_map]
    rw [hl] at q
    exact call_len_seq pins s σ H _ us Q I r ⟨a, _, rfl, .inl t.sq, q _ H μ Ext.refl rh Rp.int⟩
  · split at e
    · rename_i hz
      cases e
      obtain ⟨v, rfl, r1⟩ := rs.one
      cases r1.strE
      exact call_len_str pins s σ H _ us Q I r ⟨_, rfl, hz, q _ H μ Ext.refl rh Rp.int⟩
    · cases e
  · rename_i n
    obtain ⟨v, rfl, r1⟩ := rs.one
    obtain ⟨a, ea, rfl⟩ := r1.refE
    split at e
    · rename_i ds eh
      cases e
      obtain ⟨vs, ev, r2⟩ := rh.lst ea eh
      rw [← r2.len] at q
      exact call_len_seq pins s σ H _ us Q I r ⟨a, vs, rfl, .inl (.inl (.inl ev)), q _ H μ Ext.refl rh Rp.int⟩
    · rename_i kvs eh
      cases e
      obtain ⟨nd, ⟨vs, ev, r2⟩ | ⟨vs, ev, r2⟩⟩ := rh.dic ea eh
      · rw [← r2.len] at q
        obtain ⟨u, rfl, rx⟩ := vals1 r
        obtain rfl : u = .ref a := rx
        exact d_len I (.inl ev) fun t s' I2 => ⟨.int vs.length, H, I2, ⟨_, rfl⟩, q _ H μ Ext.refl rh Rp.int⟩
      · rw [← r2.len] at q
        exact call_len_dT pins s σ H _ us Q I r ⟨a, vs, rfl, ev, q _ H μ Ext.refl rh Rp.int⟩
    · cases e
  · cases e
def gInt : List D → Hd → Option (D × Hd)
  | [.int i], hp => some (.int i, hp)
  | [.bl b], hp => some (.int (if b then 1 else 0), hp)
  | _, _ => none
theorem c_int : CallR X (.type "int") (RDs X.K gInt) := fun pins s σ H xs us Q I r ⟨hp, μ, ds, d, hp', rh, rs, e, q⟩ => by
  unfold gInt at e
  split at e
  · cases e
    obtain ⟨v, rfl, r1⟩ := rs.one
    cases r1.intE
    exact call_int1 pins s σ H _ us Q I r (.inl ⟨_, rfl, q _ H μ Ext.refl rh Rp.int⟩)
  · cases e
    obtain ⟨v, rfl, r1⟩ := rs.one
    cases r1.blE
    exact call_int1 pins s σ H _ us Q I r (.inr ⟨_, rfl, q _ H μ Ext.refl rh Rp.int⟩)
  · cases e
def gMax2 : List D → Hd → Option (D × Hd)
  | [.int i, .int j], hp => some (.int (if j > i then j else i), hp)
  | _, _ => none
def gMin2 : List D → Hd → Option (D × Hd)
  | [.int i, .int j], hp => some (.int (if j < i then j else i), hp)
  | _, _ => none
theorem c_max2 (hc : X.calm = true) : CallR X (.builtin "max") (RDs X.K gMax2) := fun pins s σ H xs us Q I r ⟨hp, μ, ds, d, hp', rh, rs, e, q⟩ => by
  unfold gMax2 at e
  split at e
  · cases e
    obtain ⟨v, w, rfl, r1, r2⟩ := rs.two
    cases r1.intE
    cases r2.intE
    exact call_max2 hc pins s σ H _ us Q I r ⟨_, _, rfl, q _ H μ Ext.refl rh Rp.int⟩
  · cases e
theorem c_min2 (hc : X.calm = true) : CallR X (.builtin "min") (RDs X.K gMin2) := fun pins s σ H xs us Q I r ⟨hp, μ, ds, d, hp', rh, rs, e, q⟩ => by
  unfold gMin2 at e
  split at e
  · cases e
    obtain ⟨v, w, rfl, r1, r2⟩ := rs.two
    cases r1.intE
    cases r2.intE
    exact call_min2 hc pins s σ H _ us Q I r ⟨_, _, rfl, q _ H μ Ext.refl rh Rp.int⟩
  · cases e
def mL (fl : AA) (g : List D → Hd → Option (D × Hd)) : AE := fun ls hp => match fl ls hp with
  | some (ds, hp1) => g ds hp1
  | none => none
def RN (K : PySem.W.Frag) (g : List D → Hd → Option (D × Hd)) : List V → Hp → VK → Prop := fun xs H Q => ∃ hp μ ds vs p d hp', RelH K H μ hp ∧ xs = [.ref p] ∧ p ∉ μ ∧ H p = some (.lst vs) ∧ Rps K H μ ds vs ∧ g ds hp = some (d, hp') ∧
  ∀ v H' μ', Ext μ H μ' H' → RelH K H' μ' hp' → Rp K H' μ' d v → Q v H'
theorem tN_of {K : PySem.W.Frag} {g : List D → Hd → Option (D × Hd)} {σ : St} {H : Hp} {Q : VK} (h : tD K (mL fl g) σ H Q) : tCB (RN K g) (tCons (tL K fl) tNil) σ H Q := by
  obtain ⟨ls, hp, μ, d, hp', rl, rh, e, q⟩ := h
  unfold mL at e
  split at e
  · rename_i ds hp1 e1
    exact ⟨ls, hp, μ, ds, hp1, rl, rh, e1, fun p vs H1 μ1 x1 rh1 h0 hn hl r1 => ⟨hp1, μ1, ds, vs, p, d, hp', rh1, rfl, hn, hl, r1, e, fun v H2 μ2 x2 rh2 r2 => q v H2 μ2 (x1.trans x2) rh2 r2⟩⟩
  · cases e
theorem de_callBL {x : Str} {p : Pos} {id : String} {g : List D → Hd → Option (D × Hd)} (hc : CallR X (.builtin id) (RN X.K g)) (hg : Gl X x) (hm : X.mg x = none) (hv : bootBuiltins x = some (.builtin id)) (ha : LE X e fl) (hn : x ≠ "__name__" := by decide)
    (hdb : (x == ("__debug__" : Str)) = false := by decide) (he : starEach [e] X.env = (false, eval e X.env) :: starEach [] X.env := by rfl) : DE X (.Call (.Name x p) [e] [] pos) (mL fl g) :=
  PE.imp (pe_callB hc hg hm hv (pa_cons ha pa_nil he) hn hdb he rfl) fun _ _ _ h => tN_of h
theorem de_callTyL {x : Str} {p : Pos} {T : String} {g : List D → Hd → Option (D × Hd)} (hc : CallR X (.type T) (RN X.K g)) (hg : Gl X x) (hm : X.mg x = none) (hv : bootBuiltins x = some (.type T)) (ha : LE X e fl) (hn : x ≠ "__name__" := by decide)
    (hdb : (x == ("__debug__" : Str)) = false := by decide) (he : starEach [e] X.env = (false, eval e X.env) :: starEach [] X.env := by rfl) : DE X (.Call (.Name x p) [e] [] pos) (mL fl g) :=
  PE.imp (pe_callTy hc hg hm hv (pa_cons ha pa_nil he) hn hdb he rfl) fun _ _ _ h => tN_of h
def bls? : List D → Option (List Bool)
  | [] => some []
  | .bl b :: r => (bls? r).map (b :: ·)
  | _ :: _ => none
theorem Rps.bls {K : PySem.W.Frag} {H : Hp} {μ : List Addr} : ∀ {ds : List D} {bs : List Bool} {vs : List V}, bls? ds = some bs → Rps K H μ ds vs → vs = bs.map V.bl
  | [], bs, vs, e, h => by
    simp only [bls?] at e
    cases e
    rw [Rps] at h
    rw [h]
    rfl
  | d :: ds, bs, vs, e, h => by
    rw [Rps] at h
    obtain ⟨v, r, rfl, h1, h2⟩ := h
    cases d <;> simp only [bls?] at e <;> try (cases e; done)
    cases e2 : bls? ds with
    | none => rw [e2] at e; cases e
    | some b2 =>
      rw [e2] at e
      cases e
      rw [h1.blE, Rps.bls e2 h2]
      rfl
def gAll (ds : List D) (hp : Hd) : Option (D × Hd) := match bls? ds with
  | some bs => some (.bl (bs.all id), hp)
  | none => none
def gAny (ds : List D) (hp : Hd) : Option (D × Hd) := match bls? ds with
  | some bs => some (.bl (bs.any id), hp)
  | none => none
theorem n_all (hc : X.calm = true) : CallR X (.builtin "all") (RN X.K gAll) := fun pins s σ H xs us Q I r ⟨hp, μ, ds, vs, p, d, hp', rh, ex, hn, hl, rs, e, q⟩ => by
  unfold gAll at e
  split at e
  · rename_i bs eb
    cases e
    subst ex
    have := Rps.bls eb rs
    subst this
    exact cr_all hc pins s σ H _ us Q I r ⟨p, bs, rfl, .inl (.inl hl), q _ H μ Ext.refl rh Rp.bl⟩
  · cases e
theorem n_any (hc : X.calm = true) : CallR X (.builtin "any") (RN X.K gAny) := fun pins s σ H xs us Q I r ⟨hp, μ, ds, vs, p, d, hp', rh, ex, hn, hl, rs, e, q⟩ => by
  unfold gAny at e
  split at e
  · rename_i bs eb
    cases e
    subst ex
    have := Rps.bls eb rs
    subst this
    exact cr_any hc pins s σ H _ us Q I r ⟨p, bs, rfl, .inl (.inl hl), q _ H μ Ext.refl rh Rp.bl⟩
  · cases e
def gTup (ds : List D) (hp : Hd) : Option (D × Hd) := some (.tup ds, hp)
theorem n_tuple : CallR X (.type "tuple") (RN X.K gTup) := fun pins s σ H xs us Q I r ⟨hp, μ, ds, vs, p, d, hp', rh, ex, hn, hl, rs, e, q⟩ => by
  unfold gTup at e
  cases e
  subst ex
  refine call_tuple_of pins s σ H _ us Q I r ⟨p, vs, rfl, .inl ⟨.inl (.inl hl), fun l h0 => ?_⟩⟩
  have x2 := Ext.laid rh (o := .tup vs) h0
  exact q _ _ μ x2 (rh.laid h0) (Rp.tup upd_same (rs.ext x2))
def tyN : D → Hd → Option String
  | .non, _ => some "NoneType"
  | .bl _, _ => some "bool"
  | .int _, _ => some "int"
  | .str _, _ => some "str"
  | .tup _, _ => some "tuple"
  | .wt _, _ => some "tuple"
  | .scr _, _ => none
  | .ref n, hp => match hp[n]? with
    | some (.lst _) => some "list"
    | some (.dic _) => some "dict"
    | _ => none
def gIsi (T : String) : List D → Hd → Option (D × Hd)
  | [x], hp => match tyN x hp with
    | some t => match kitB t T with
      | some b => some (.bl b, hp)
      | none => none
    | none => none
  | _, _ => none
def mIsi (T : String) (fa : AE) : AE := fun ls hp => match fa ls hp with
  | some (x, hp1) => gIsi T [x] hp1
  | none => none
theorem de_isi {T : String} {x t : Str} {p p2 : Pos} (hg : Gl X x) (hm : X.mg x = none) (hv : bootBuiltins x = some (.builtin "isinstance")) (ha : DE X e fa) (hgt : Gl X t) (hmt : X.mg t = none) (hvt : bootBuiltins t = some (.type T))
    (hn : x ≠ "__name__" := by decide) (hdb : (x == ("__debug__" : Str)) = false := by decide) (hnt : t ≠ "__name__" := by decide) (hdt : (t == ("__debug__" : Str)) = false := by decide)
    (he : starEach [e, .Name t p2] X.env = (false, eval e X.env) :: starEach [.Name t p2] X.env := by rfl) (he2 : starEach [.Name t p2] X.env = (false, eval (.Name t p2) X.env) :: starEach [] X.env := by rfl)
    (hpl : (backTo pos (starEach [.Name t p2] X.env)).any (·.1) = false := by rfl) : DE X (.Call (.Name x p) [e, .Name t p2] [] pos) (mIsi T fa) :=
  PE.imp (pe_callB call_isi hg hm hv (pa_cons ha (pa_cons (pe_bltn (v := .ty T) hgt hmt hvt rfl hnt hdt) pa_nil he2) he) hn hdb he hpl) fun σ H Q ⟨ls, hp, μ, d, hp', rl, rh, e, q⟩ => by
    unfold mIsi at e
    split at e
    · rename_i x hp1 e1
      unfold gIsi at e
      dsimp only at e
      split at e
      · rename_i t et
        split at e
        · rename_i b eb
          cases e
          refine ⟨ls, hp, μ, x, hp', rl, rh, e1, fun v H1 μ1 x1 rh1 r1 => ?_⟩
          have ty : TyX X.K H1 v (.type t) := by
            cases x <;> simp only [tyN] at et <;> try (cases et; done)
            · cases et; cases r1.nonE; exact .base .non
            · cases et; cases r1.blE; exact .base (.bl _)
            · cases et; cases r1.intE; exact .base (.int _)
            · cases et; cases r1.strE; exact .base (.str _)
            · cases et
              obtain ⟨a, vs, rfl, t, _⟩ := r1.tupE
              exact .base (.tup t)
            · obtain ⟨a, ea, rfl⟩ := r1.refE
              split at et
              · rename_i xs eh
                cases et
                obtain ⟨vs, ev, _⟩ := rh1.lst ea eh
                exact .base (.lst ev)
              · rename_i xs eh
                cases et
                obtain ⟨nd, ⟨vs, ev, r2⟩ | ⟨vs, ev, r2⟩⟩ := rh1.dic ea eh
                · exact .base (.dK ev)
                · exact .base (.dT ev)
              · cases et
            · cases et
              obtain ⟨a, vs, rfl, ⟨o, its, n, h1, h2, _⟩, _⟩ := r1.wtE
              exact .kTuple h1 h2
          exact ⟨v, .ty T, .type t, .type T, b, rfl, .ty T, ty, kit_ty eb, q _ H1 μ1 x1 rh1 Rp.bl⟩
        · cases e
      · cases e
    · cases e
def isL : D → Hd → Bool
  | .ref n, hp => match hp[n]? with
    | some (.lst _) => true
    | _ => false
  | _, _ => false
theorem isL_some {d : D} {hp : Hd} (h : isL d hp = true) : ∃ n xs, d = .ref n ∧ hp[n]? = some (.lst xs) := by
  unfold isL at h
  split at h
  · rename_i n
    split at h
    · rename_i xs e
      exact ⟨n, _, rfl, e⟩
    · cases h
  · cases h
def mMet (ck : D → Hd → Bool) (fo : AE) (fr : AA) (g : D → List D → Hd → Option (D × Hd)) : AE := fun ls hp => match fo ls hp with
  | some (x, hp1) => if ck x hp1 = true then match fr ls hp1 with
    | some (ds, hp2) => g x ds hp2
    | none => none else none
  | none => none
def RM (K : PySem.W.Frag) (g : D → List D → Hd → Option (D × Hd)) : V → List V → Hp → VK → Prop := fun x xs H Q => ∃ hp μ dx ds d hp', RelH K H μ hp ∧ Rp K H μ dx x ∧ Rps K H μ ds xs ∧ g dx ds hp = some (d, hp') ∧
  ∀ v H' μ', Ext μ H μ' H' → RelH K H' μ' hp' → Rp K H' μ' d v → Q v H'
theorem isL_ty {K : PySem.W.Frag} {H : Hp} {μ : List Addr} {hp : Hd} {d : D} {v : V} (rh : RelH K H μ hp) (r : Rp K H μ d v) (h : isL d hp = true) : tyV K "list" v H := by
  obtain ⟨n, xs, rfl, e⟩ := isL_some h
  obtain ⟨a, ea, rfl⟩ := r.refE
  obtain ⟨vs, ev, _⟩ := rh.lst ea e
  exact .inl ⟨rfl, vs, .inl (.inl ev)⟩
theorem de_lm {name : Str} {id : String} {o : Expr} {fo : AE} {apos cpos : Pos} {g : D → List D → Hd → Option (D × Hd)} (slot : Slot "list" name id) (hty : typeOf (.builtin id) = pure (.type "method_descriptor")) (hm : MtR X id (RM X.K g)) (ho : DE X o fo) (ha : DA X (e :: es) fr)
    (hbase : attributeBase o name X.env (eval o X.env) = eval o X.env := by rfl)
    (hfew : ((backTo cpos (starEach (e :: es) X.env)).all (fun x => !x.1) && (backToKw cpos (keywordEach [] X.env)).all (fun x => x.1.isSome)
      && decide ((e :: es).length + ([] : List Keyword).length + (if ([] : List Keyword).isEmpty then 0 else 1) < 30)) = true := by rfl)
    (hline : (apos.endLine == cpos.line) = true := by rfl) (hs : starEach (e :: es) X.env = (false, eval e X.env) :: starEach es X.env := by rfl) (hplain : (backTo cpos (starEach es X.env)).any (·.1) = false := by rfl) :
    DE X (.Call (.Attribute o name apos) (e :: es) [] cpos) (mMet isL fo fr g) :=
  PE.imp (pe_bm PySem.F.plainAttrs_list slot hty hm ho ha hbase hfew hline hs hplain) fun σ H Q ⟨ls, hp, μ, d, hp', rl, rh, e, q⟩ => by
    unfold mMet at e
    split at e
    · rename_i x hp1 e1
      split at e
      · rename_i hck
        split at e
        · rename_i ds hp2 e2
          exact ⟨ls, hp, μ, x, hp1, rl, rh, e1, fun v1 H1 μ1 x1 rh1 r1 => ⟨isL_ty rh1 r1 hck, ls, hp1, μ1, ds, hp2, rl.ext x1, rh1, e2, fun vs H2 μ2 x2 rh2 r2 =>
            ⟨hp2, μ2, x, ds, d, hp', rh2, r1.ext x2, r2, e, fun v H3 μ3 x3 rh3 r3 => q v H3 μ3 ((x1.trans x2).trans x3) rh3 r3⟩⟩⟩
        · cases e
      · cases e
    · cases e
theorem de_lm0 {name : Str} {id : String} {o : Expr} {fo : AE} {apos cpos : Pos} {g : D → List D → Hd → Option (D × Hd)} (slot : Slot "list" name id) (hty : typeOf (.builtin id) = pure (.type "method_descriptor")) (hm : MtR X id (RM X.K g)) (ho : DE X o fo)
    (hbase : attributeBase o name X.env (eval o X.env) = eval o X.env := by rfl) (hline : (apos.endLine == cpos.line) = true := by rfl) : DE X (.Call (.Attribute o name apos) [] [] cpos) (mMet isL fo mNil g) :=
  PE.imp (pe_bm0 PySem.F.plainAttrs_list slot hty hm ho hbase hline) fun σ H Q ⟨ls, hp, μ, d, hp', rl, rh, e, q⟩ => by
    simp only [mMet, mNil] at e
    split at e
    · rename_i x hp1 e1
      split at e
      · rename_i hck
        exact ⟨ls, hp, μ, x, hp1, rl, rh, e1, fun v1 H1 μ1 x1 rh1 r1 => ⟨isL_ty rh1 r1 hck, ⟨hp1, μ1, x, [], d, hp', rh1, r1, Rps.nil, e, fun v H3 μ3 x3 rh3 r3 => q v H3 μ3 (x1.trans x3) rh3 r3⟩⟩⟩
      · cases e
    · cases e
def onL (x : D) (hp : Hd) (g : List D → Option (D × List D)) : Option (D × Hd) := match x with
  | .ref n => match hp[n]? with
    | some (.lst xs) => match g xs with
      | some (d, ys) => some (d, hp.set n (.lst ys))
      | none => none
    | _ => none
  | _ => none
theorem onL_some {x : D} {hp hp' : Hd} {g : List D → Option (D × List D)} {d : D} (h : onL x hp g = some (d, hp')) : ∃ n xs ys, x = .ref n ∧ hp[n]? = some (.lst xs) ∧ g xs = some (d, ys) ∧ hp' = hp.set n (.lst ys) := by
  unfold onL at h
  split at h
  · rename_i n
    split at h
    · rename_i xs e1
      split at h
      · rename_i d' ys e2
        cases h
        exact ⟨n, xs, ys, rfl, e1, e2, rfl⟩
      · cases h
    · cases h
  · cases h
def gAppend (x : D) (ds : List D) (hp : Hd) : Option (D × Hd) := match ds with
  | [d] => onL x hp fun xs => if xs.length < sizeLine then some (.non, xs ++ [d]) else none
  | _ => none
theorem t_append : MtR X "list.append" (RM X.K gAppend) := fun pins s σ H x xs v us Q I rx rxs ⟨hp, μ, dx, ds, d, hp', rh, r1, rs, e, q⟩ => by
  unfold gAppend at e
  split at e
  · rename_i y
    obtain ⟨n, ws, ys, rfl, e1, e2, rfl⟩ := onL_some e
    split at e2
    · rename_i hl
      cases e2
      obtain ⟨w, rfl, r2⟩ := rs.one
      obtain ⟨a, ea, rfl⟩ := r1.refE
      obtain ⟨vs, ev, r3⟩ := rh.lst ea e1
      have x0 : Mon μ H μ (upd H a (.lst (vs ++ [w]))) := Mon.loose ev
      obtain ⟨r4, x1⟩ := rh.put (o := .lst (ws ++ [y])) (u := .lst (vs ++ [w])) ea ⟨_, rfl, (r3.append (by rw [Rps]; exact ⟨w, [], rfl, r2, Rps.nil⟩)).mon x0⟩
      exact mt_append pins s σ H _ _ v us Q I rx rxs ⟨a, vs, w, rfl, rfl, ev, by rw [r3.len]; exact hl, q _ _ μ x1 r4 Rp.non⟩
    · cases e2
  · cases e
def gPop (x : D) (ds : List D) (hp : Hd) : Option (D × Hd) := match ds with
  | [] => onL x hp fun xs => match xs[xs.length - 1]? with
    | some y => some (y, xs.dropLast)
    | none => none
  | _ => none
theorem Rps.take {K : PySem.W.Frag} {H : Hp} {μ : List Addr} : ∀ {ds : List D} {vs : List V} (n : Nat), Rps K H μ ds vs → Rps K H μ (ds.take n) (vs.take n)
  | _, _, 0, _ => by simp [Rps.nil]
  | [], _, n + 1, h => by
    rw [Rps] at h
    subst h
    exact Rps.nil
  | d :: ds, _, n + 1, h => by
    rw [Rps] at h
    obtain ⟨v, r, rfl, h1, h2⟩ := h
    rw [List.take_succ_cons, List.take_succ_cons, Rps]
    exact ⟨v, _, rfl, h1, Rps.take n h2⟩
theorem Rps.drop {K : PySem.W.Frag} {H : Hp} {μ : List Addr} : ∀ {ds : List D} {vs : List V} (n : Nat), Rps K H μ ds vs → Rps K H μ (ds.drop n) (vs.drop n)
  | _, _, 0, h => by simpa using h
  | [], _, n + 1, h => by
    rw [Rps] at h
    subst h
    exact Rps.nil
  | d :: ds, _, n + 1, h => by
    rw [Rps] at h
    obtain ⟨v, r, rfl, h1, h2⟩ := h
    exact Rps.drop n h2
theorem Rps.dropLast {K : PySem.W.Frag} {H : Hp} {μ : List Addr} {ds : List D} {vs : List V} (h : Rps K H μ ds vs) : Rps K H μ ds.dropLast vs.dropLast := by
  rw [List.dropLast_eq_take, List.dropLast_eq_take, h.len]
  exact h.take _
theorem t_pop : MtR X "list.pop" (RM X.K gPop) := fun pins s σ H x xs v us Q I rx rxs ⟨hp, μ, dx, ds, d, hp', rh, r1, rs, e, q⟩ => by
  unfold gPop at e
  split at e
  · obtain ⟨n, ws, ys, rfl, e1, e2, rfl⟩ := onL_some e
    split at e2
    · rename_i y ey
      cases e2
      rw [Rps] at rs
      subst rs
      obtain ⟨a, ea, rfl⟩ := r1.refE
      obtain ⟨vs, ev, r3⟩ := rh.lst ea e1
      obtain ⟨w, ew, rw'⟩ := r3.get ey
      have x0 : Mon μ H μ (upd H a (.lst vs.dropLast)) := Mon.loose ev
      obtain ⟨r4, x1⟩ := rh.put (o := .lst ws.dropLast) (u := .lst vs.dropLast) ea ⟨_, rfl, r3.dropLast.mon x0⟩
      exact mt_pop pins s σ H _ _ v us Q I rx rxs ⟨a, vs, w, rfl, rfl, ev, by rw [r3.len]; exact ew, q _ _ μ x1 r4 (rw'.mon x0)⟩
    · cases e2
  · cases e
def mExt (fo : AE) (fl : AA) : AE := fun ls hp => match fo ls hp with
  | some (x, hp1) => if isL x hp1 = true then match fl ls hp1 with
    | some (ds, hp2) => onL x hp2 fun xs => if xs.length + ds.length ≤ sizeLine then some (.non, xs ++ ds) else none
    | none => none else none
  | none => none
theorem de_extend {o : Expr} {fo : AE} {apos cpos : Pos} (ho : DE X o fo) (ha : LE X e fl)
    (hbase : attributeBase o "extend" X.env (eval o X.env) = eval o X.env := by rfl)
    (hfew : ((backTo cpos (starEach [e] X.env)).all (fun x => !x.1) && (backToKw cpos (keywordEach [] X.env)).all (fun x => x.1.isSome)
      && decide (([e] : List Expr).length + ([] : List Keyword).length + (if ([] : List Keyword).isEmpty then 0 else 1) < 30)) = true := by rfl)
    (hline : (apos.endLine == cpos.line) = true := by rfl) (hs : starEach [e] X.env = (false, eval e X.env) :: starEach [] X.env := by rfl) :
    DE X (.Call (.Attribute o "extend" apos) [e] [] cpos) (mExt fo fl) :=
  PE.imp (pe_bm PySem.F.plainAttrs_list PySem.F.slot_list_extend PySem.F.type_list_extend mt_extend ho (pa_cons ha pa_nil hs) hbase hfew hline hs rfl) fun σ H Q ⟨ls, hp, μ, d, hp', rl, rh, e, q⟩ => by
    unfold mExt at e
    split at e
    · rename_i x hp1 e1
      split at e
      · rename_i hck
        split at e
        · rename_i ds hp2 e2
          obtain ⟨n, ws, ys, rfl, e3, e4, rfl⟩ := onL_some e
          split at e4
          · rename_i hl
            cases e4
            refine ⟨ls, hp, μ, _, hp1, rl, rh, e1, fun v1 H1 μ1 x1 rh1 r1 => ⟨isL_ty rh1 r1 hck, ls, hp1, μ1, ds, hp2, rl.ext x1, rh1, e2, fun p vs H2 μ2 x2 rh2 h0 hn hl2 r2 => ?_⟩⟩
            obtain ⟨a, ea, rfl⟩ := (r1.ext x2).refE
            obtain ⟨vs2, ev, r3⟩ := rh2.lst ea e3
            have x0 : Mon μ2 H2 μ2 (upd H2 a (.lst (vs2 ++ vs))) := Mon.loose ev
            obtain ⟨r4, x4⟩ := rh2.put (o := .lst (ws ++ ds)) (u := .lst (vs2 ++ vs)) ea ⟨_, rfl, (r3.append r2).mon x0⟩
            exact ⟨a, p, vs2, vs, rfl, rfl, ev, hl2, by rw [r3.len, r2.len]; exact hl, q _ _ μ2 ((x1.trans x2).trans x4) r4 Rp.non⟩
          · cases e4
        · cases e
      · cases e
    · cases e
end
end Ve
namespace Ve
open PySem PySem.Spec L2

mutual
def D.lt (n : Nat) : D → Bool
  | .ref k => decide (k < n)
  | .tup ds => D.lts n ds
  | .wt ds => D.lts n ds
  | _ => true
def D.lts (n : Nat) : List D → Bool
  | [] => true
  | d :: ds => D.lt n d && D.lts n ds
end
mutual
def D.ren (ρ : List Nat) : D → D
  | .ref k => .ref (ρ.getD k 0)
  | .tup ds => .tup (D.rens ρ ds)
  | .wt ds => .wt (D.rens ρ ds)
  | .non => .non
  | .bl b => .bl b
  | .int i => .int i
  | .str x => .str x
  | .scr ns => .scr ns
def D.rens (ρ : List Nat) : List D → List D
  | [] => []
  | d :: ds => D.ren ρ d :: D.rens ρ ds
end
def kvLt (n : Nat) : List (D × D) → Bool
  | [] => true
  | p :: r => D.lt n p.1 && D.lt n p.2 && kvLt n r
def kvRen (ρ : List Nat) : List (D × D) → List (D × D)
  | [] => []
  | p :: r => (p.1, D.ren ρ p.2) :: kvRen ρ r
def O.lt (n : Nat) : O → Bool
  | .lst xs => D.lts n xs
  | .dic kvs => kvLt n kvs
  | .dicL kvs => kvLt n kvs
def O.ren (ρ : List Nat) : O → O
  | .lst xs => .lst (D.rens ρ xs)
  | .dic kvs => .dic (kvRen ρ kvs)
  | .dicL kvs => .dicL (kvRen ρ kvs)
def Sub (n : Nat) (d : D) (hp' : Hd) (r : Option (D × Hd)) : Prop :=
  ∃ d2 hp2, r = some (d2, hp2) ∧ ∃ ρ : List Nat, ρ.length = hp'.length ∧ ρ.Nodup ∧ n ≤ hp'.length ∧ (∀ i, i < n → ρ[i]? = some i) ∧ D.lt hp'.length d = true ∧ d2 = D.ren ρ d ∧
    ∀ (i : Nat) (o : O), hp'[i]? = some o → O.lt hp'.length o = true ∧ ∃ j : Nat, ρ[i]? = some j ∧ hp2[j]? = some (O.ren ρ o)
def Con (c m : List D → Hd → Option (D × Hd)) : Prop := ∀ ds hp d hp', (∀ (i : Nat) (o : O), hp[i]? = some o → O.lt hp.length o = true) → D.lts hp.length ds = true → c ds hp = some (d, hp') → Sub hp.length d hp' (m ds hp)

section
variable {K : PySem.W.Frag} {H : Hp} {μ μ2 : List Addr} {hp hp2 : Hd}
mutual
theorem Rp.below {n : Nat} (hn : μ.length = n) : ∀ {d : D} {v : V}, Rp K H μ d v → D.lt n d = true
  | .non, _, _ => rfl
  | .bl _, _, _ => rfl
  | .int _, _, _ => rfl
  | .str _, _, _ => rfl
  | .scr _, _, _ => rfl
  | .ref k, _, h => by
    obtain ⟨a, e, _⟩ := h.refE
    have := (List.getElem?_eq_some_iff.mp e).1
    simp only [D.lt, decide_eq_true_eq]
    omega
  | .tup ds, _, h => by
    obtain ⟨a, vs, _, _, r⟩ := h.tupE
    rw [D.lt]
    exact Rps.below hn r
  | .wt ds, _, h => by
    obtain ⟨a, vs, _, _, r⟩ := h.wtE
    rw [D.lt]
    exact Rps.below hn r
theorem Rps.below {n : Nat} (hn : μ.length = n) : ∀ {ds : List D} {vs : List V}, Rps K H μ ds vs → D.lts n ds = true
  | [], _, _ => by rw [D.lts]
  | d :: ds, _, h => by
    rw [Rps] at h
    obtain ⟨v, r, _, h1, h2⟩ := h
    rw [D.lts, Rp.below hn h1, Rps.below hn h2]
    rfl
end
theorem toKey_lt {n : Nat} {d : D} {k : Key} (h : toKey d = some k) : D.lt n d = true := by
  cases d <;> simp [toKey] at h <;> rfl
theorem toKeys_lt {n : Nat} : ∀ {ds : List D} {k : List Key}, toKeys ds = some k → D.lts n ds = true
  | [], _, _ => by rw [D.lts]
  | d :: ds, k, h => by
    simp only [toKeys] at h
    split at h
    · rename_i k1 ks e1 e2
      rw [D.lts, toKey_lt e1, toKeys_lt e2]
      rfl
    · cases h
theorem RpK.below {n : Nat} (hn : μ.length = n) : ∀ {kvs : List (D × D)} {vs : List (Key × V)}, RpK K H μ kvs vs → kvLt n kvs = true
  | [], _, _ => rfl
  | p :: r, _, h => by
    rw [RpK] at h
    obtain ⟨k, v, rs, _, h1, h2, h3⟩ := h
    simp only [kvLt, toKey_lt h1, Rp.below hn h2, RpK.below hn h3, Bool.and_self]
theorem RpT.below {n : Nat} (hn : μ.length = n) : ∀ {kvs : List (D × D)} {vs : List (List Key × V)}, RpT K H μ kvs vs → kvLt n kvs = true
  | [], _, _ => rfl
  | p :: r, _, h => by
    rw [RpT] at h
    obtain ⟨ds, k, v, rs, e0, _, h1, h2, h3⟩ := h
    simp only [kvLt, e0, D.lt, toKeys_lt h1, Rp.below hn h2, RpT.below hn h3, Bool.and_self]
theorem RelH.below (r : RelH K H μ hp) (i : Nat) (o : O) (h : hp[i]? = some o) : O.lt hp.length o = true := by
  obtain ⟨a, ea, q⟩ := r.at_ h
  cases o with
  | lst xs => obtain ⟨vs, _, q⟩ := q; exact q.below r.len
  | dic kvs =>
    obtain ⟨_, ⟨vs, _, q⟩ | ⟨vs, _, q⟩⟩ := q
    · exact q.below r.len
    · exact q.below r.len
  | dicL kvs =>
    obtain ⟨_, ⟨_, vs, _, q⟩ | ⟨_, vs, _, q⟩⟩ := q
    · exact q.below r.len
    · exact q.below r.len
def pick (μ2 : List Addr) (ρ : List Nat) : List Addr := ρ.map fun j => μ2.getD j 0
mutual
theorem Rp.pick {ρ : List Nat} (hρ : ∀ j ∈ ρ, j < μ2.length) : ∀ {d : D} {v : V}, D.lt ρ.length d = true → Rp K H μ2 (D.ren ρ d) v → Rp K H (Ve.pick μ2 ρ) d v
  | .non, _, _, h => by rw [D.ren] at h; exact h.nonE ▸ Rp.non
  | .bl _, _, _, h => by rw [D.ren] at h; exact h.blE ▸ Rp.bl
  | .int _, _, _, h => by rw [D.ren] at h; exact h.intE ▸ Rp.int
  | .str _, _, _, h => by rw [D.ren] at h; exact h.strE ▸ Rp.str
  | .scr ns, _, _, h => by
    rw [D.ren] at h
    obtain ⟨a, rfl, s⟩ := h.scrE
    rw [Rp]
    exact ⟨a, rfl, s⟩
  | .ref k, v, hl, h => by
    rw [D.ren] at h
    obtain ⟨a, e, rfl⟩ := h.refE
    have hk : k < ρ.length := by simpa [D.lt] using hl
    rw [Rp]
    refine ⟨a, ?_, rfl⟩
    unfold Ve.pick
    rw [List.getElem?_map, List.getElem?_eq_getElem hk]
    have e2 : ρ.getD k 0 = ρ[k] := by simp [List.getD, hk]
    rw [e2] at e
    show some (μ2.getD ρ[k] 0) = some a
    rw [List.getD, e]
    rfl
  | .tup ds, _, hl, h => by
    rw [D.ren] at h
    obtain ⟨a, vs, rfl, t, r⟩ := h.tupE
    rw [D.lt] at hl
    rw [Rp]
    exact ⟨a, vs, rfl, t, Rps.pick hρ hl r⟩
  | .wt ds, _, hl, h => by
    rw [D.ren] at h
    obtain ⟨a, vs, rfl, t, r⟩ := h.wtE
    rw [D.lt] at hl
    rw [Rp]
    exact ⟨a, vs, rfl, t, Rps.pick hρ hl r⟩
theorem Rps.pick {ρ : List Nat} (hρ : ∀ j ∈ ρ, j < μ2.length) : ∀ {ds : List D} {vs : List V}, D.lts ρ.length ds = true → Rps K H μ2 (D.rens ρ ds) vs → Rps K H (Ve.pick μ2 ρ) ds vs
  | [], _, _, h => by
    rw [D.rens, Rps] at h
    rw [Rps]
    exact h
  | d :: ds, _, hl, h => by
    rw [D.lts, Bool.and_eq_true] at hl
    rw [D.rens, Rps] at h
    obtain ⟨v, r, rfl, h1, h2⟩ := h
    rw [Rps]
    exact ⟨v, r, rfl, Rp.pick hρ hl.1 h1, Rps.pick hρ hl.2 h2⟩
end
theorem RpK.pick {ρ : List Nat} (hρ : ∀ j ∈ ρ, j < μ2.length) : ∀ {ds : List (D × D)} {vs : List (Key × V)}, kvLt ρ.length ds = true → RpK K H μ2 (kvRen ρ ds) vs → RpK K H (Ve.pick μ2 ρ) ds vs
  | [], _, _, h => by
    rw [kvRen, RpK] at h
    rw [RpK]
    exact h
  | d :: ds, _, hl, h => by
    rw [kvLt, Bool.and_eq_true, Bool.and_eq_true] at hl
    rw [kvRen, RpK] at h
    obtain ⟨k, v, r, rfl, h0, h1, h2⟩ := h
    rw [RpK]
    exact ⟨k, v, r, rfl, h0, Rp.pick hρ hl.1.2 h1, RpK.pick hρ hl.2 h2⟩
theorem RpT.pick {ρ : List Nat} (hρ : ∀ j ∈ ρ, j < μ2.length) : ∀ {ds : List (D × D)} {vs : List (List Key × V)}, kvLt ρ.length ds = true → RpT K H μ2 (kvRen ρ ds) vs → RpT K H (Ve.pick μ2 ρ) ds vs
  | [], _, _, h => by
    rw [kvRen, RpT] at h
    rw [RpT]
    exact h
  | d :: ds, _, hl, h => by
    rw [kvLt, Bool.and_eq_true, Bool.and_eq_true] at hl
    rw [kvRen, RpT] at h
    obtain ⟨ks, k, v, r, e0, rfl, h0, h1, h2⟩ := h
    rw [RpT]
    exact ⟨ks, k, v, r, e0, rfl, h0, Rp.pick hρ hl.1.2 h1, RpT.pick hρ hl.2 h2⟩
theorem KNd.ren {ρ : List Nat} : ∀ {kvs : List (D × D)}, KNd (kvRen ρ kvs) → KNd kvs
  | [], _ => True.intro
  | p :: r, h => by
    refine ⟨fun q hq => ?_, KNd.ren h.2⟩
    have hm : ∀ {l : List (D × D)}, q ∈ l → (q.1, D.ren ρ q.2) ∈ kvRen ρ l := by
      intro l
      induction l with
      | nil => intro h; cases h
      | cons x xs ih =>
        intro h
        rcases List.mem_cons.mp h with z | z
        · rw [z]; exact List.mem_cons_self
        · exact List.mem_cons_of_mem _ (ih z)
    exact h.1 (q.1, D.ren ρ q.2) (hm hq)
theorem Ro.pick {ρ : List Nat} (hρ : ∀ j ∈ ρ, j < μ2.length) {o : O} {h : Option HO} (hl : O.lt ρ.length o = true) (r : Ro K H μ2 (O.ren ρ o) h) : Ro K H (Ve.pick μ2 ρ) o h := by
  cases o with
  | lst xs => obtain ⟨vs, e, q⟩ := r; exact ⟨vs, e, q.pick hρ hl⟩
  | dic kvs =>
    obtain ⟨nd, ⟨vs, e, q⟩ | ⟨vs, e, q⟩⟩ := r
    · exact ⟨KNd.ren nd, .inl ⟨vs, e, q.pick hρ hl⟩⟩
    · exact ⟨KNd.ren nd, .inr ⟨vs, e, q.pick hρ hl⟩⟩
  | dicL kvs =>
    obtain ⟨nd, ⟨o, vs, e, q⟩ | ⟨o, vs, e, q⟩⟩ := r
    · exact ⟨KNd.ren nd, .inl ⟨o, vs, e, q.pick hρ hl⟩⟩
    · exact ⟨KNd.ren nd, .inr ⟨o, vs, e, q.pick hρ hl⟩⟩
theorem sub_sound {H' : Hp} {d : D} {hp' : Hd} {r : Option (D × Hd)} (rh : RelH K H μ hp) (s : Sub hp.length d hp' r) : ∃ d2 hp2, r = some (d2, hp2) ∧ ∀ v H' μ2, Ext μ H μ2 H' → RelH K H' μ2 hp2 → Rp K H' μ2 d2 v →
    ∃ μ', Ext μ H μ' H' ∧ RelH K H' μ' hp' ∧ Rp K H' μ' d v := by
  obtain ⟨d2, hp2, rfl, ρ, hl, nd, hn, hid, hd, rfl, ho⟩ := s
  refine ⟨_, hp2, rfl, fun v H' μ2 x rh2 rv => ?_⟩
  have hρ : ∀ j ∈ ρ, j < μ2.length := fun j hj => by
    obtain ⟨i, hi, e⟩ := List.mem_iff_getElem.mp hj
    have hi' : i < hp'.length := by rw [← hl]; exact hi
    obtain ⟨_, j2, e2, e3⟩ := ho i hp'[i] (List.getElem?_eq_getElem hi')
    rw [List.getElem?_eq_getElem hi, e] at e2
    cases e2
    rw [rh2.len]
    exact (List.getElem?_eq_some_iff.mp e3).1
  have hpk : ∀ (i : Nat) j, ρ[i]? = some j → (pick μ2 ρ)[i]? = μ2[j]? := fun i j e => by
    unfold pick
    rw [List.getElem?_map, e]
    have hj : j < μ2.length := hρ j (List.mem_of_getElem? e)
    show some (μ2.getD j 0) = _
    rw [List.getElem?_eq_getElem hj]
    simp [List.getD, hj]
  have sub : ∀ a ∈ pick μ2 ρ, a ∈ μ2 := fun a ha => by
    obtain ⟨j, hj, e⟩ := List.mem_map.mp ha
    have := hρ j hj
    rw [← e]
    simp [List.getD, this]
  have rl : RelH K H' (pick μ2 ρ) hp' := by
    refine ⟨by simp [pick, hl], ?_, fun i o a e1 e2 => ?_⟩
    · refine List.pairwise_iff_getElem.mpr fun i j hi hj hij => ?_
      have hi' : i < ρ.length := by simpa [pick] using hi
      have hj' : j < ρ.length := by simpa [pick] using hj
      have a1 := hρ _ (List.getElem_mem hi')
      have a2 := hρ _ (List.getElem_mem hj')
      have g1 : (pick μ2 ρ)[i] = μ2[ρ[i]] := by simp [pick, List.getD, a1]
      have g2 : (pick μ2 ρ)[j] = μ2[ρ[j]] := by simp [pick, List.getD, a2]
      rw [g1, g2]
      intro z
      have := (List.getElem_inj rh2.nd).mp z
      have := (List.getElem_inj nd).mp this
      omega
    · obtain ⟨hlt, j, e3, e4⟩ := ho i o e1
      rw [hpk i j e3] at e2
      exact (rh2.obj j _ a e4 e2).pick hρ (by rw [hl]; exact hlt)
  refine ⟨pick μ2 ρ, ⟨?_, fun a o hn e hm => x.new a o hn e (sub a hm), x.keep, x.tups, x.scrs⟩, rl, rv.pick hρ (by rw [hl]; exact hd)⟩
  obtain ⟨ν, e⟩ := x.pre
  refine ⟨(pick μ2 ρ).drop μ.length, ?_⟩
  have hlen : μ.length ≤ (pick μ2 ρ).length := by
    rw [rh.len]
    simp [pick, hl]
    exact hn
  have ht : (pick μ2 ρ).take μ.length = μ := by
    refine List.ext_getElem? fun i => ?_
    by_cases hi : i < μ.length
    · rw [List.getElem?_take_of_lt hi, hpk i i (hid i (by rw [← rh.len]; exact hi)), e, List.getElem?_append_left hi]
    · rw [List.getElem?_eq_none (by simp; omega), List.getElem?_eq_none (by omega)]
  rw [← List.take_append_drop μ.length (pick μ2 ρ), ht]
  simp
end

structure Fn (P : Program) (w : World) (K : PySem.W.Frag) (mg : Str → Option Value) (base : Heap) (k : Nat) (x : Str) (n : Nat) (g : List D → Hd → Option (D × Hd)) : Prop where
  ex : ∃ (f : Addr) (fd : FuncData) (ps : List Str), FnG P w K mg base CX0 k f fd ps (spD K n g) ∧ mg x = some (.ref f) ∧ PySem.W.keepIn K (.ref f) = true ∧ Binds K fd ps []
section
variable {P : Program} {w : World} {K : PySem.W.Frag} {mg : Str → Option Value} {base : Heap} {k j n : Nat} {x : Str} {g c : List D → Hd → Option (D × Hd)}
theorem Fn.mono (F : Fn P w K mg base j x n g) (h : j ≤ k) : Fn P w K mg base k x n g := by
  obtain ⟨f, fd, ps, F, a, b, c⟩ := F.ex
  exact ⟨f, fd, ps, F.mono h, a, b, c⟩
theorem Fn.con (F : Fn P w K mg base k x n g) (h : Con c g) : Fn P w K mg base k x n c := by
  obtain ⟨f, fd, ps, F, a, b, e⟩ := F.ex
  refine ⟨f, fd, ps, F.imp fun vs H Q E q => ?_, a, b, e⟩
  obtain ⟨hp, μ, ds, d, hp', hn, rh, r, ec, q⟩ := q
  obtain ⟨d2, hp2, e2, s⟩ := sub_sound (H' := H) rh (h ds hp d hp' (fun i o => rh.below i o) (r.below rh.len) ec)
  exact ⟨hp, μ, ds, d2, hp2, hn, rh, r, e2, fun v H' μ2 x rh2 rv => by
    obtain ⟨μ', x', rh', rv'⟩ := s v H' μ2 x rh2 rv
    exact q v H' μ' x' rh' rv'⟩
theorem fn_mk {qual : Str} {st : Stmt} {f : Addr} {fd : FuncData} {N ps : List Str} {fb : AS} (F : Fun K x qual st f fd) (S : FnScope N ps (defScope st)) (hm : mg x = some (.ref f)) (hb : Binds K fd ps [])
    (body : ∀ (cdv : Value) (A : Around) (outer : List Env) (s : Shared) (H : Hp) (E : XK), RoomG k (A.deeper (PyProof.Rows.envOfC qual (defScope st) s.heap.objs.size f cdv)) →
      DSs (cxOf CX0 P w K mg base N qual (defScope st) f cdv A outer s H E).nox (defBody st) fb) : Fn P w K mg base (k + 1) x ps.length (mDef N.length fb) :=
  ⟨f, fd, ps, fn_def F S body, hm, F.kp, hb⟩
end
section
variable {X : Cx} {e : Expr} {es : List Expr} {fr : AA} {pos : Pos}
theorem de_callF {k : Nat} {n : Nat} {g : List D → Hd → Option (D × Hd)} {x : Str} {p : Pos} (F : Fn X.prog X.w X.K X.mg X.base k x n g) (hr : RoomG k X.A) (hg : Gl X x) (ha : DA X (e :: es) fr)
    (hdb : (x == ("__debug__" : Str)) = false := by decide) (he : starEach (e :: es) X.env = (false, eval e X.env) :: starEach es X.env := by rfl) (hpl : (backTo pos (starEach es X.env)).any (·.1) = false := by rfl) :
    DE X (.Call (.Name x p) (e :: es) [] pos) (mAs fr (ar n g)) := by
  obtain ⟨f, fd, ps, F, a, b, c⟩ := F.ex
  exact de_call F hr hg a b c ha hdb he hpl
theorem de_callF0 {k : Nat} {n : Nat} {g : List D → Hd → Option (D × Hd)} {x : Str} {p : Pos} (F : Fn X.prog X.w X.K X.mg X.base k x n g) (hr : RoomG k X.A) (hg : Gl X x) (hdb : (x == ("__debug__" : Str)) = false := by decide) :
    DE X (.Call (.Name x p) [] [] pos) (mAs mNil (ar n g)) := by
  obtain ⟨f, fd, ps, F, a, b, c⟩ := F.ex
  exact de_call0 F hr hg a b c hdb
end
end Ve
theorem L2.Room.units65 {k : Nat} {A : PySem.Around} (r : L2.Room k A) : A.units + 65 < PySem.cLine := by
  have := r.un
  omega
namespace Ve
open PySem PySem.Spec L2

theorem bb_len : bootBuiltins "len" = some (.builtin "len") := by decide +kernel
theorem bb_max : bootBuiltins "max" = some (.builtin "max") := by decide +kernel
theorem bb_min : bootBuiltins "min" = some (.builtin "min") := by decide +kernel
theorem bb_sum : bootBuiltins "sum" = some (.builtin "sum") := by decide +kernel
theorem bb_abs : bootBuiltins "abs" = some (.builtin "abs") := by decide +kernel
theorem bb_all : bootBuiltins "all" = some (.builtin "all") := by decide +kernel
theorem bb_any : bootBuiltins "any" = some (.builtin "any") := by decide +kernel
theorem bb_sorted : bootBuiltins "sorted" = some (.builtin "sorted") := by decide +kernel
theorem bb_repr : bootBuiltins "repr" = some (.builtin "repr") := by decide +kernel
theorem bb_isinstance : bootBuiltins "isinstance" = some (.builtin "isinstance") := by decide +kernel
theorem bb_int : bootBuiltins "int" = some (.type "int") := by decide +kernel
theorem bb_bool : bootBuiltins "bool" = some (.type "bool") := by decide +kernel
theorem bb_str : bootBuiltins "str" = some (.type "str") := by decide +kernel
theorem bb_list : bootBuiltins "list" = some (.type "list") := by decide +kernel
theorem bb_tuple : bootBuiltins "tuple" = some (.type "tuple") := by decide +kernel
theorem bb_dict : bootBuiltins "dict" = some (.type "dict") := by decide +kernel

section
variable {X : Cx} {a b c : Expr} {fa fb fc : AE} {fl : AA} {pos : Pos}
theorem dt_cmpL {op : CmpOp} {g : D → List D → Hd → Option (D × Hd)} (ho : OpR X (compareOp op) (RL X.K g)) (ha : DE X a fa) (hb : LE X b fl) (hm : behindInMarks op b = false) : DT X (.Compare a [op] [b] pos) (mT (m2L fa fl g)) :=
  PT.imp (pt_cmpR ho ha hb hm) fun _ _ _ h => tTest_of (fun _ _ _ h => tOpL_of h) h
theorem dt_chain {op op' : CmpOp} {g g' : D → D → Hd → Option (D × Hd)} (ho : OpR X (compareOp op) (RD X.K g)) (ho' : OpR X (compareOp op') (RD X.K g')) (ha : DE X a fa) (hb : DE X b fb) (hc : DE X c fc)
    (hm : lastMarks [op, op'] [b, c] = false := by with_unfolding_all rfl) : DT X (.Compare a [op, op'] [b, c] pos) (mT (mChain fa fb fc g g')) :=
  PT.imp (pt_chain ho ho' ha hb hc hm) fun _ _ _ h => tTest_of (fun _ _ _ h => tChain_of h) h
end
theorem scAt_of {K : PySem.W.Frag} {H : Hp} {a : Addr} {xs : List V} (ho : Only H) (h : SqL K H a xs) : ScAt K H a xs := by
  rcases h with (h | ⟨o, h⟩) | h
  · rcases ho a with z | ⟨o, ys, z⟩
    · rw [h] at z
      cases z
    · rw [h] at z
      cases z
  · exact .inl ⟨o, h⟩
  · exact .inr h
theorem Rps.mk {K : PySem.W.Frag} {H : Hp} {μ : List Addr} {d : D} {ds : List D} {v : V} {vs : List V} (r : Rp K H μ d v) (rs : Rps K H μ ds vs) : Rps K H μ (d :: ds) (v :: vs) := by
  rw [Rps]
  exact ⟨v, vs, rfl, r, rs⟩
theorem Rp.wt {K : PySem.W.Frag} {H : Hp} {μ : List Addr} {ds : List D} {a : Addr} {its : Array Value} {n : Nat} {dd : Option Addr} {sl : Array (Option Value)} {vs : List V} (h : K.lookup a = some ⟨.type "tuple", dd, .seq its n, sl⟩) (hl : its.size ≤ sizeLine) (hv : Vals vs its.toList)
    (r : Rps K H μ ds vs) : Rp K H μ (.wt ds) (.ref a) := by
  rw [Rp]
  exact ⟨a, vs, rfl, ⟨_, its, n, h, rfl, rfl, hl, hv⟩, r⟩
end Ve
namespace Ve
open PySem PySem.Spec L2

mutual
def D.all (p : Nat → Bool) : D → Bool
  | .ref k => p k
  | .tup ds => D.alls p ds
  | .wt ds => D.alls p ds
  | .non => true
  | .bl _ => true
  | .int _ => true
  | .str _ => true
  | .scr _ => true
def D.alls (p : Nat → Bool) : List D → Bool
  | [] => true
  | d :: ds => D.all p d && D.alls p ds
end
mutual
def D.map (f : Nat → Nat) : D → D
  | .ref k => .ref (f k)
  | .tup ds => .tup (D.maps f ds)
  | .wt ds => .wt (D.maps f ds)
  | .non => .non
  | .bl b => .bl b
  | .int i => .int i
  | .str x => .str x
  | .scr ns => .scr ns
def D.maps (f : Nat → Nat) : List D → List D
  | [] => []
  | d :: ds => D.map f d :: D.maps f ds
end
def kvAll (p : Nat → Bool) : List (D × D) → Bool
  | [] => true
  | x :: r => D.all p x.1 && D.all p x.2 && kvAll p r
def kvMap (f : Nat → Nat) : List (D × D) → List (D × D)
  | [] => []
  | p :: r => (p.1, D.map f p.2) :: kvMap f r
def O.all (p : Nat → Bool) : O → Bool
  | .lst xs => D.alls p xs
  | .dic kvs => kvAll p kvs
  | .dicL kvs => kvAll p kvs
def O.map (f : Nat → Nat) : O → O
  | .lst xs => .lst (D.maps f xs)
  | .dic kvs => .dic (kvMap f kvs)
  | .dicL kvs => .dicL (kvMap f kvs)

section
variable {K : PySem.W.Frag} {H : Hp} {μ μ2 : List Addr}
mutual
theorem Rp.mapped {f : Nat → Nat} {p : Nat → Bool} (hf : ∀ k, p k = true → k < μ2.length → μ[f k]? = μ2[k]?) : ∀ {d : D} {v : V}, D.all p d = true → Rp K H μ2 d v → Rp K H μ (D.map f d) v
  | .non, _, _, h => by rw [D.map]; exact h.nonE ▸ Rp.non
  | .bl _, _, _, h => by rw [D.map]; exact h.blE ▸ Rp.bl
  | .int _, _, _, h => by rw [D.map]; exact h.intE ▸ Rp.int
  | .str _, _, _, h => by rw [D.map]; exact h.strE ▸ Rp.str
  | .scr ns, _, _, h => by
    obtain ⟨a, rfl, s⟩ := h.scrE
    rw [D.map, Rp]
    exact ⟨a, rfl, s⟩
  | .ref k, v, hl, h => by
    obtain ⟨a, e, rfl⟩ := h.refE
    rw [D.all] at hl
    rw [D.map, Rp]
    exact ⟨a, by rw [hf k hl (List.getElem?_eq_some_iff.mp e).1]; exact e, rfl⟩
  | .tup ds, _, hl, h => by
    obtain ⟨a, vs, rfl, t, r⟩ := h.tupE
    rw [D.all] at hl
    rw [D.map, Rp]
    exact ⟨a, vs, rfl, t, Rps.mapped hf hl r⟩
  | .wt ds, _, hl, h => by
    obtain ⟨a, vs, rfl, t, r⟩ := h.wtE
    rw [D.all] at hl
    rw [D.map, Rp]
    exact ⟨a, vs, rfl, t, Rps.mapped hf hl r⟩
theorem Rps.mapped {f : Nat → Nat} {p : Nat → Bool} (hf : ∀ k, p k = true → k < μ2.length → μ[f k]? = μ2[k]?) : ∀ {ds : List D} {vs : List V}, D.alls p ds = true → Rps K H μ2 ds vs → Rps K H μ (D.maps f ds) vs
  | [], _, _, h => by
    rw [Rps] at h
    rw [D.maps, Rps]
    exact h
  | d :: ds, _, hl, h => by
    rw [D.alls, Bool.and_eq_true] at hl
    rw [Rps] at h
    obtain ⟨v, r, rfl, h1, h2⟩ := h
    rw [D.maps, Rps]
    exact ⟨v, r, rfl, Rp.mapped hf hl.1 h1, Rps.mapped hf hl.2 h2⟩
end
theorem RpK.mapped {f : Nat → Nat} {p : Nat → Bool} (hf : ∀ k, p k = true → k < μ2.length → μ[f k]? = μ2[k]?) : ∀ {ds : List (D × D)} {vs : List (Key × V)}, kvAll p ds = true → RpK K H μ2 ds vs → RpK K H μ (kvMap f ds) vs
  | [], _, _, h => by
    rw [RpK] at h
    rw [kvMap, RpK]
    exact h
  | d :: ds, _, hl, h => by
    rw [kvAll, Bool.and_eq_true, Bool.and_eq_true] at hl
    rw [RpK] at h
    obtain ⟨k, v, r, rfl, h0, h1, h2⟩ := h
    rw [kvMap, RpK]
    exact ⟨k, v, r, rfl, h0, Rp.mapped hf hl.1.2 h1, RpK.mapped hf hl.2 h2⟩
theorem RpT.mapped {f : Nat → Nat} {p : Nat → Bool} (hf : ∀ k, p k = true → k < μ2.length → μ[f k]? = μ2[k]?) : ∀ {ds : List (D × D)} {vs : List (List Key × V)}, kvAll p ds = true → RpT K H μ2 ds vs → RpT K H μ (kvMap f ds) vs
  | [], _, _, h => by
    rw [RpT] at h
    rw [kvMap, RpT]
    exact h
  | d :: ds, _, hl, h => by
    rw [kvAll, Bool.and_eq_true, Bool.and_eq_true] at hl
    rw [RpT] at h
    obtain ⟨ks, k, v, r, e0, rfl, h0, h1, h2⟩ := h
    rw [kvMap, RpT]
    exact ⟨ks, k, v, r, e0, rfl, h0, Rp.mapped hf hl.1.2 h1, RpT.mapped hf hl.2 h2⟩
theorem KNd.mapped {f : Nat → Nat} : ∀ {kvs : List (D × D)}, KNd kvs → KNd (kvMap f kvs)
  | [], _ => True.intro
  | p :: r, h => by
    refine ⟨fun q hq => ?_, KNd.mapped h.2⟩
    have hm : ∀ {l : List (D × D)}, q ∈ kvMap f l → ∃ q2 ∈ l, q2.1 = q.1 := by
      intro l
      induction l with
      | nil => intro h; cases h
      | cons x xs ih =>
        intro h
        rcases List.mem_cons.mp h with z | z
        · exact ⟨x, List.mem_cons_self, by rw [z]⟩
        · obtain ⟨q2, h2, e⟩ := ih z
          exact ⟨q2, List.mem_cons_of_mem _ h2, e⟩
    obtain ⟨q2, h2, e⟩ := hm hq
    rw [← e]
    exact h.1 q2 h2
theorem Ro.mapped {f : Nat → Nat} {p : Nat → Bool} (hf : ∀ k, p k = true → k < μ2.length → μ[f k]? = μ2[k]?) {o : O} {h : Option HO} (hl : O.all p o = true) (r : Ro K H μ2 o h) : Ro K H μ (O.map f o) h := by
  cases o with
  | lst xs => obtain ⟨vs, e, q⟩ := r; exact ⟨vs, e, q.mapped hf hl⟩
  | dic kvs =>
    obtain ⟨nd, ⟨vs, e, q⟩ | ⟨vs, e, q⟩⟩ := r
    · exact ⟨nd.mapped, .inl ⟨vs, e, q.mapped hf hl⟩⟩
    · exact ⟨nd.mapped, .inr ⟨vs, e, q.mapped hf hl⟩⟩
  | dicL kvs =>
    obtain ⟨nd, ⟨o, vs, e, q⟩ | ⟨o, vs, e, q⟩⟩ := r
    · exact ⟨nd.mapped, .inl ⟨o, vs, e, q.mapped hf hl⟩⟩
    · exact ⟨nd.mapped, .inr ⟨o, vs, e, q.mapped hf hl⟩⟩
end

structure Run (m : List D → Hd → Option (D × Hd)) (ds : List D) (hp : Hd) (d : D) (hp' : Hd) (σ κ : List Nat) (dsS : List D) (os : Hd) (d2 : D) (g : Hd) (f : Nat → Nat) (kp : Nat → Bool) : Prop where
  run : m dsS os = some (d2, g)
  nd : σ.Nodup
  lt : ∀ i ∈ σ, i < hp.length
  len : os.length = σ.length
  args : ds = D.rens σ dsS
  argsLt : D.lts σ.length dsS = true
  objs : ∀ (i : Nat) (o : O), os[i]? = some o → O.lt σ.length o = true ∧ hp[σ.getD i 0]? = some (O.ren σ o)
  kNd : κ.Nodup
  kLt : ∀ k ∈ κ, σ.length ≤ k ∧ k < g.length
  fOld : ∀ i, i < σ.length → f i = σ.getD i 0
  fNew : ∀ (t : Nat) (k : Nat), κ[t]? = some k → f k = hp.length + t
  kpIs : ∀ i, kp i = true → i < σ.length ∨ i ∈ κ
  res : D.all kp d2 = true ∧ d = D.map f d2
  len' : hp'.length = hp.length + κ.length
  rest : ∀ j, j < hp.length → j ∉ σ → hp'[j]? = hp[j]?
  old : ∀ i, i < σ.length → ∃ o, g[i]? = some o ∧ O.all kp o = true ∧ hp'[σ.getD i 0]? = some (O.map f o)
  new : ∀ (t : Nat) (k : Nat), κ[t]? = some k → ∃ o, g[k]? = some o ∧ O.all kp o = true ∧ hp'[hp.length + t]? = some (O.map f o)
def Cl (c m : List D → Hd → Option (D × Hd)) : Prop := ∀ ds hp d hp', c ds hp = some (d, hp') → ∃ σ κ dsS os d2 g f kp, Run m ds hp d hp' σ κ dsS os d2 g f kp

section
variable {K : PySem.W.Frag} {H : Hp} {μ : List Addr} {hp hp' : Hd} {m : List D → Hd → Option (D × Hd)} {ds dsS : List D} {d d2 : D} {σ κ : List Nat} {os g : Hd} {f : Nat → Nat} {kp : Nat → Bool}
theorem Run.start (R : Run m ds hp d hp' σ κ dsS os d2 g f kp) (rh : RelH K H μ hp) : RelH K H (pick μ σ) os := by
  have hσ : ∀ j ∈ σ, j < μ.length := fun j hj => by rw [rh.len]; exact R.lt j hj
  have hg : ∀ (i : Nat), i < σ.length → (pick μ σ)[i]? = μ[σ.getD i 0]? := fun i hi => by
    unfold pick
    have h1 : σ.getD i 0 = σ[i] := by simp [List.getD, hi]
    have h2 := hσ _ (List.getElem_mem hi)
    rw [List.getElem?_map, List.getElem?_eq_getElem hi, h1, List.getElem?_eq_getElem h2]
    simp [List.getD, h2]
  refine ⟨by simp [pick, R.len], ?_, fun i o a e1 e2 => ?_⟩
  · refine List.pairwise_iff_getElem.mpr fun i j hi hj hij => ?_
    have hi' : i < σ.length := by simpa [pick] using hi
    have hj' : j < σ.length := by simpa [pick] using hj
    have a1 := hσ _ (List.getElem_mem hi')
    have a2 := hσ _ (List.getElem_mem hj')
    have g1 : (pick μ σ)[i] = μ[σ[i]] := by simp [pick, List.getD, a1]
    have g2 : (pick μ σ)[j] = μ[σ[j]] := by simp [pick, List.getD, a2]
    rw [g1, g2]
    intro z
    have := (List.getElem_inj rh.nd).mp z
    have := (List.getElem_inj R.nd).mp this
    omega
  · obtain ⟨h1, h2⟩ := R.objs i o e1
    have hi : i < σ.length := by rw [← R.len]; exact (List.getElem?_eq_some_iff.mp e1).1
    rw [hg i hi] at e2
    exact (rh.obj _ _ a h2 e2).pick hσ h1
theorem Run.sound (R : Run m ds hp d hp' σ κ dsS os d2 g f kp) (rh : RelH K H μ hp) {v : V} {H' : Hp} {μ2 : List Addr} (x : Ext (pick μ σ) H μ2 H') (rh2 : RelH K H' μ2 g) (rv : Rp K H' μ2 d2 v) :
    ∃ μ', Ext μ H μ' H' ∧ RelH K H' μ' hp' ∧ Rp K H' μ' d v := by
  have hσ : ∀ j ∈ σ, j < μ.length := fun j hj => by rw [rh.len]; exact R.lt j hj
  have hpl : (pick μ σ).length = σ.length := by simp [pick]
  have hg : ∀ (i : Nat), i < σ.length → (pick μ σ)[i]? = μ[σ.getD i 0]? := fun i hi => by
    unfold pick
    have h1 : σ.getD i 0 = σ[i] := by simp [List.getD, hi]
    have h2 := hσ _ (List.getElem_mem hi)
    rw [List.getElem?_map, List.getElem?_eq_getElem hi, h1, List.getElem?_eq_getElem h2]
    simp [List.getD, h2]
  have hsub : ∀ a ∈ pick μ σ, a ∈ μ := fun a ha => by
    obtain ⟨j, hj, e⟩ := List.mem_map.mp ha
    have := hσ j hj
    rw [← e]
    simp [List.getD, this]
  have h2i : ∀ (i : Nat), i < σ.length → μ2[i]? = μ[σ.getD i 0]? := fun i hi => by
    rw [← hg i hi]
    obtain ⟨ν, e⟩ := x.pre
    rw [e, List.getElem?_append_left (by rw [hpl]; exact hi)]
  let N := κ.map fun k => μ2.getD k 0
  have hN : ∀ (t k : Nat), κ[t]? = some k → N[t]? = μ2[k]? := fun t k e => by
    show (κ.map fun k => μ2.getD k 0)[t]? = _
    rw [List.getElem?_map, e]
    have hk : k < μ2.length := by rw [rh2.len]; exact (R.kLt k (List.mem_of_getElem? e)).2
    show some (μ2.getD k 0) = _
    rw [List.getElem?_eq_getElem hk]
    simp [List.getD, hk]
  have hnew : ∀ a ∈ N, a ∉ μ ∧ ∃ k ∈ κ, μ2[k]? = some a := fun a ha => by
    obtain ⟨k, hk, e⟩ := List.mem_map.mp ha
    obtain ⟨hk1, hk2⟩ := R.kLt k hk
    have hk2' : k < μ2.length := by rw [rh2.len]; exact hk2
    have e2 : μ2[k]? = some a := by
      rw [← e, List.getElem?_eq_getElem hk2']
      simp [List.getD, hk2']
    refine ⟨fun hm => ?_, k, hk, e2⟩
    by_cases hp1 : a ∈ pick μ σ
    · obtain ⟨i, hi, e3⟩ := List.mem_iff_getElem.mp hp1
      obtain ⟨ν, e4⟩ := x.pre
      have hi2 : i < μ2.length := by rw [e4, List.length_append]; omega
      have e5 : μ2[i]? = some a := by rw [e4, List.getElem?_append_left hi, List.getElem?_eq_getElem hi, e3]
      rw [List.getElem?_eq_getElem hi2] at e5
      rw [List.getElem?_eq_getElem hk2'] at e2
      have := (List.getElem_inj rh2.nd).mp ((Option.some.inj e5).trans (Option.some.inj e2).symm)
      rw [hpl] at hi
      omega
    · obtain ⟨u, eu, _⟩ := rh.taken hm
      exact x.new a u hp1 eu (List.mem_of_getElem? e2)
  have hf : ∀ k, kp k = true → k < μ2.length → (μ ++ N)[f k]? = μ2[k]? := fun k hk hl => by
    rcases R.kpIs k hk with h | h
    · rw [R.fOld k h, List.getElem?_append_left (hσ _ (by simp [List.getD, h])), h2i k h]
    · obtain ⟨t, ht, e⟩ := List.mem_iff_getElem.mp h
      have e' : κ[t]? = some k := by rw [List.getElem?_eq_getElem ht, e]
      rw [R.fNew t k e', List.getElem?_append_right (by rw [rh.len]; omega), rh.len, Nat.add_sub_cancel_left, hN t k e']
  have xx : Ext μ H (μ ++ N) H' := by
    refine ⟨⟨N, rfl⟩, fun a o hn e hm => ?_, fun a o hn e => x.keep a o (fun z => hn (hsub a z)) e, x.tups, x.scrs⟩
    rcases List.mem_append.mp hm with z | z
    · exact hn z
    · obtain ⟨_, k, hk, e2⟩ := hnew a z
      exact x.new a o (fun z => hn (hsub a z)) e (List.mem_of_getElem? e2)
  refine ⟨μ ++ N, xx, ⟨by rw [List.length_append, R.len', rh.len]; simp [N], ?_, fun j o a e1 e2 => ?_⟩, ?_⟩
  · refine List.nodup_append.mpr ⟨rh.nd, ?_, fun a ha b hb z => ?_⟩
    · refine List.pairwise_iff_getElem.mpr fun i j hi hj hij z => ?_
      have hi' : i < κ.length := by simpa [N] using hi
      have hj' : j < κ.length := by simpa [N] using hj
      have e1 := hN i κ[i] (List.getElem?_eq_getElem hi')
      have e2 := hN j κ[j] (List.getElem?_eq_getElem hj')
      rw [List.getElem?_eq_getElem hi] at e1
      rw [List.getElem?_eq_getElem hj] at e2
      have k1 : κ[i] < μ2.length := by rw [rh2.len]; exact (R.kLt _ (List.getElem_mem hi')).2
      have k2 : κ[j] < μ2.length := by rw [rh2.len]; exact (R.kLt _ (List.getElem_mem hj')).2
      rw [List.getElem?_eq_getElem k1] at e1
      rw [List.getElem?_eq_getElem k2] at e2
      have := (List.getElem_inj rh2.nd).mp (((Option.some.inj e1).symm.trans z).trans (Option.some.inj e2))
      have := (List.getElem_inj R.kNd).mp this
      omega
    · subst z
      exact (hnew a hb).1 ha
  · by_cases hj : j < hp.length
    · rw [List.getElem?_append_left (by rw [rh.len]; exact hj)] at e2
      by_cases hm : j ∈ σ
      · obtain ⟨i, hi, e⟩ := List.mem_iff_getElem.mp hm
        obtain ⟨o2, h1, h2, h3⟩ := R.old i hi
        have ej : σ.getD i 0 = j := by simp [List.getD, hi, e]
        rw [ej, e1] at h3
        cases h3
        have e3 := h2i i hi
        rw [ej, e2] at e3
        exact (rh2.obj i o2 a h1 e3).mapped hf h2
      · rw [R.rest j hj hm] at e1
        have q := rh.obj j o a e1 e2
        obtain ⟨u, eu, _⟩ := q.some
        have hna : a ∉ pick μ σ := fun z => by
          obtain ⟨k, hk, e⟩ := List.mem_map.mp z
          have hk2 := hσ k hk
          have e5 : μ[k]? = some a := by
            rw [← e, List.getElem?_eq_getElem hk2]
            simp [List.getD, hk2]
          obtain ⟨l1, e6⟩ := List.getElem?_eq_some_iff.mp e5
          obtain ⟨l2, e7⟩ := List.getElem?_eq_some_iff.mp e2
          have := (List.getElem_inj rh.nd).mp (e6.trans e7.symm)
          exact hm (this ▸ hk)
        rw [x.keep a u hna eu, ← eu]
        exact q.mon xx.m
    · have hj2 : j < hp'.length := (List.getElem?_eq_some_iff.mp e1).1
      have hlen' := R.len'
      have ht : j - hp.length < κ.length := by omega
      obtain ⟨o2, h1, h2, h3⟩ := R.new (j - hp.length) κ[j - hp.length] (List.getElem?_eq_getElem ht)
      have ej : hp.length + (j - hp.length) = j := by omega
      rw [ej, e1] at h3
      cases h3
      rw [List.getElem?_append_right (by rw [rh.len]; omega), rh.len, hN _ _ (List.getElem?_eq_getElem ht)] at e2
      exact (rh2.obj _ o2 a h1 e2).mapped hf h2
  · rw [R.res.2]
    exact rv.mapped hf R.res.1
end
theorem Fn.cl {P : Program} {w : World} {K : PySem.W.Frag} {mg : Str → Option Value} {base : Heap} {k n : Nat} {x : Str} {m c : List D → Hd → Option (D × Hd)} (F : Fn P w K mg base k x n m) (h : Cl c m) : Fn P w K mg base k x n c := by
  obtain ⟨f, fd, ps, F, a, b, e⟩ := F.ex
  refine ⟨f, fd, ps, F.imp fun vs H Q E q => ?_, a, b, e⟩
  obtain ⟨hp, μ, ds, d, hp', hn, rh, r, ec, q⟩ := q
  obtain ⟨σ, κ, dsS, os, d2, g, f, kp, R⟩ := h ds hp d hp' ec
  have hσ : ∀ j ∈ σ, j < μ.length := fun j hj => by rw [rh.len]; exact R.lt j hj
  have ra : Rps K H (pick μ σ) dsS vs := Rps.pick hσ R.argsLt (by rw [← R.args]; exact r)
  refine ⟨os, pick μ σ, dsS, d2, g, ?_, R.start rh, ra, R.run, fun v H' μ2 x rh2 rv => ?_⟩
  · rw [← hn, R.args]
    have : ∀ l : List D, (D.rens σ l).length = l.length := by
      intro l
      induction l with
      | nil => rfl
      | cons y ys ih => rw [D.rens, List.length_cons, List.length_cons, ih]
    rw [this]
  · obtain ⟨μ', x', rh', rv'⟩ := R.sound rh x rh2 rv
    exact q v H' μ' x' rh' rv'
end Ve
namespace Ve
open PySem PySem.Spec L2

def cutD {α : Type} (xs : List α) (lo hi : Option Int) : List α := (xs.drop (HT.sIx xs.length 0 lo)).take (HT.sIx xs.length xs.length hi - HT.sIx xs.length 0 lo)
theorem Rps.cut {K : PySem.W.Frag} {H : Hp} {μ : List Addr} {ds : List D} {vs : List V} (r : Rps K H μ ds vs) (lo hi : Option Int) : Rps K H μ (cutD ds lo hi) (cutV vs lo hi) := by
  unfold cutD cutV
  rw [r.len]
  exact (r.drop _).take _
def gSl (x : D) (lo hi : Option Int) (hp : Hd) : Option (D × Hd) := match x with
  | .tup ds => some (.tup (cutD ds lo hi), hp)
  | .str z => if z.length ≤ sizeLine then some (.str (cutS z lo hi), hp) else none
  | .ref n => match hp[n]? with
    | some (.lst ds) => some (.ref hp.length, hp ++ [.lst (cutD ds lo hi)])
    | _ => none
  | _ => none
def mPo : Option AE → Ls → Hd → Option (Option Int × Hd)
  | none, _, hp => some (none, hp)
  | some f, ls, hp => match f ls hp with
    | some (.int i, hp1) => some (some i, hp1)
    | _ => none
def tOp' (K : PySem.W.Frag) (f : Option AE) : TO := fun σ H Q => ∃ ls hp μ o hp', Rl K H μ ls σ ∧ RelH K H μ hp ∧ mPo f ls hp = some (o, hp') ∧ ∀ H' μ', Ext μ H μ' H' → RelH K H' μ' hp' → Q o H'
abbrev DPO (X : Cx) (e : Option Expr) (f : Option AE) : Prop := PO X e (tOp' X.K f)
theorem PO.imp {X : Cx} {e : Option Expr} {t t' : TO} (h : PO X e t) (i : ∀ σ H Q, t' σ H Q → t σ H Q) : PO X e t' := ⟨fun pins s σ H Q I q => h.run pins s σ H Q I (i σ H Q q)⟩
def mSl (fa : AE) (fl fu : Option AE) : AE := fun ls hp => match fa ls hp with
  | some (x, hp1) => match mPo fl ls hp1 with
    | some (l, hp2) => match mPo fu ls hp2 with
      | some (u, hp3) => gSl x l u hp3
      | none => none
    | none => none
  | none => none
section
variable {X : Cx} {e a b : Expr} {es : List Expr} {fa fb : AE} {fl fm : AA} {fr : AA} {pos p2 : Pos} {lo hi : Option Expr} {ol oh : Option AE}
theorem dpo_none : DPO X none none := PO.imp po_none fun σ H Q ⟨ls, hp, μ, o, hp', rl, rh, e, q⟩ => by
  simp only [mPo] at e
  cases e
  exact q H μ Ext.refl rh
theorem dpo_some (h : DE X e fa) : DPO X (some e) (some fa) := PO.imp (po_some h) fun σ H Q ⟨ls, hp, μ, o, hp', rl, rh, e, q⟩ => by
  simp only [mPo] at e
  split at e
  · rename_i i hp1 e1
    cases e
    exact ⟨ls, hp, μ, .int i, hp', rl, rh, e1, fun v H1 μ1 x1 rh1 r1 => ⟨i, r1.intE, q H1 μ1 x1 rh1⟩⟩
  · cases e
theorem de_slice (ha : DE X a fa) (hl : DPO X lo ol) (hu : DPO X hi oh) : DE X (.Subscript a (.Slice lo hi none p2) pos) (mSl fa ol oh) :=
  PE.imp (pe_slice (SlR.or (SlR.or sl_tupA sl_list) sl_str) ha hl hu) fun σ H Q ⟨ls, hp, μ, d, hp', rl, rh, e, q⟩ => by
    unfold mSl at e
    split at e
    · rename_i x hp1 e1
      split at e
      · rename_i l hp2 e2
        split at e
        · rename_i u hp3 e3
          refine ⟨ls, hp, μ, x, hp1, rl, rh, e1, fun v H1 μ1 x1 rh1 r1 => ⟨ls, hp1, μ1, l, hp2, rl.ext x1, rh1, e2, fun H2 μ2 x2 rh2 => ⟨ls, hp2, μ2, u, hp3, (rl.ext x1).ext x2, rh2, e3, fun H3 μ3 x3 rh3 => ?_⟩⟩⟩
          have r3 := (r1.ext x2).ext x3
          have x13 := (x1.trans x2).trans x3
          unfold gSl at e
          split at e
          · rename_i ds
            cases e
            obtain ⟨p, vs, rfl, t, rs⟩ := r3.tupE
            refine .inl (.inl ⟨p, vs, rfl, t.sq, fun hw => ?_, fun _ p' hp0 => ?_⟩)
            · have hc : cutD ds l u = ds := by
                unfold cutD
                rw [← rs.len, hw.1, hw.2]
                simp
                rw [rs.len]
                exact List.take_length
              refine q _ H3 μ3 x13 rh3 ?_
              rw [hc]
              exact Rp.tup' t rs
            · have x4 := Ext.laid rh3 (o := .tup (cutV vs l u)) hp0
              exact q _ _ μ3 (x13.trans x4) (rh3.laid hp0) (Rp.tup upd_same ((rs.cut l u).ext x4))
          · split at e
            · rename_i z hz
              cases e
              exact .inr ⟨_, r3.strE, hz, q _ H3 μ3 x13 rh3 Rp.str⟩
            · cases e
          · rename_i n
            split at e
            · rename_i ds eh
              cases e
              obtain ⟨p, ep, rfl⟩ := r3.refE
              obtain ⟨vs, ev, rs⟩ := rh3.lst ep eh
              refine .inl (.inr ⟨p, vs, rfl, .inl (.inl ev), fun p' hp0 => ?_⟩)
              have x4 := Ext.laid rh3 (o := .lst (cutV vs l u)) hp0
              have rh4 := rh3.laid (o := .lst (cutV vs l u)) hp0
              have hn := rh3.notIn hp0
              refine q (.ref p') _ (μ3 ++ [p']) ((x13.trans x4).place (x13.back rh3 hp0)) (rh4.place hn ⟨_, upd_same, ((rs.cut l u).ext x4).mon Mon.grow⟩) ?_
              rw [Rp]
              refine ⟨p', ?_, rfl⟩
              rw [List.getElem?_append_right (by rw [rh3.len]; exact Nat.le_refl _), rh3.len]
              simp
            · cases e
          · cases e
        · cases e
      · cases e
    · cases e

def mCat (fl fm : AA) : AA := fun ls hp => match fl ls hp with
  | some (xs, hp1) => match fm ls hp1 with
    | some (ys, hp2) => if xs.length + ys.length ≤ sizeLine then some (xs ++ ys, hp2) else none
    | none => none
  | none => none
theorem le_cat (ha : LE X a fl) (hb : LE X b fm) : LE X (.BinOp a .Add b pos) (mCat fl fm) :=
  PE.imp (pe_op op_cat ha hb) fun σ H Q ⟨ls, hp, μ, ds, hp', rl, rh, e, q⟩ => by
    unfold mCat at e
    split at e
    · rename_i xs hp1 e1
      split at e
      · rename_i ys hp2 e2
        split at e
        · rename_i hz
          cases e
          refine ⟨ls, hp, μ, xs, hp1, rl, rh, e1, fun p vs H1 μ1 x1 rh1 h0 hn hl r1 => ⟨ls, hp1, μ1, ys, hp', rl.ext x1, rh1, e2, fun p2 ws H2 μ2 x2 rh2 h02 hn2 hl2 r2 => ?_⟩⟩
          refine ⟨p, p2, vs, ws, rfl, rfl, x2.keep _ _ hn hl, hl2, by rw [r1.len, r2.len]; exact hz, fun p' hp0 => ?_⟩
          have x4 := Ext.laid rh2 (o := .lst (vs ++ ws)) hp0
          exact q p' _ _ μ2 ((x1.trans x2).trans x4) (rh2.laid hp0) ((x1.trans x2).back rh2 hp0) (rh2.notIn hp0) upd_same (((r1.ext x2).append r2).ext x4)
        · cases e
      · cases e
    · cases e
def lstOf (d : D) (hp : Hd) : Option (List D) := match d with
  | .ref n => match hp[n]? with
    | some (.lst xs) => some xs
    | _ => none
  | _ => none
theorem lstOf_some {d : D} {hp : Hd} {xs : List D} (h : lstOf d hp = some xs) : ∃ n, d = .ref n ∧ hp[n]? = some (.lst xs) := by
  unfold lstOf at h
  split at h
  · rename_i n
    split at h
    · rename_i xs' e
      cases h
      exact ⟨n, rfl, e⟩
    · cases h
  · cases h
def mCatOL (fa : AE) (fm : AA) : AA := fun ls hp => match fa ls hp with
  | some (x, hp1) => match fm ls hp1 with
    | some (ys, hp2) => match lstOf x hp2 with
      | some xs => if xs.length + ys.length ≤ sizeLine then some (xs ++ ys, hp2) else none
      | none => none
    | none => none
  | none => none
def mCatLO (fl : AA) (fb : AE) : AA := fun ls hp => match fl ls hp with
  | some (xs, hp1) => match fb ls hp1 with
    | some (y, hp2) => match lstOf y hp2 with
      | some ys => if xs.length + ys.length ≤ sizeLine then some (xs ++ ys, hp2) else none
      | none => none
    | none => none
  | none => none
theorem le_catOL (ha : DE X a fa) (hb : LE X b fm) : LE X (.BinOp a .Add b pos) (mCatOL fa fm) :=
  PE.imp (pe_op op_cat ha hb) fun σ H Q ⟨ls, hp, μ, ds, hp', rl, rh, e, q⟩ => by
    unfold mCatOL at e
    split at e
    · rename_i x hp1 e1
      split at e
      · rename_i ys hp2 e2
        split at e
        · rename_i xs e3
          split at e
          · rename_i hz
            cases e
            refine ⟨ls, hp, μ, x, hp1, rl, rh, e1, fun v H1 μ1 x1 rh1 r1 => ⟨ls, hp1, μ1, ys, hp', rl.ext x1, rh1, e2, fun p2 ws H2 μ2 x2 rh2 h02 hn2 hl2 r2 => ?_⟩⟩
            obtain ⟨n, rfl, eh⟩ := lstOf_some e3
            obtain ⟨p, ep, rfl⟩ := (r1.ext x2).refE
            obtain ⟨vs, ev, rs⟩ := rh2.lst ep eh
            refine ⟨p, p2, vs, ws, rfl, rfl, ev, hl2, by rw [rs.len, r2.len]; exact hz, fun p' hp0 => ?_⟩
            have x4 := Ext.laid rh2 (o := .lst (vs ++ ws)) hp0
            exact q p' _ _ μ2 ((x1.trans x2).trans x4) (rh2.laid hp0) ((x1.trans x2).back rh2 hp0) (rh2.notIn hp0) upd_same ((rs.append r2).ext x4)
          · cases e
        · cases e
      · cases e
    · cases e
theorem le_catLO (ha : LE X a fl) (hb : DE X b fb) : LE X (.BinOp a .Add b pos) (mCatLO fl fb) :=
  PE.imp (pe_op op_cat ha hb) fun σ H Q ⟨ls, hp, μ, ds, hp', rl, rh, e, q⟩ => by
    unfold mCatLO at e
    split at e
    · rename_i xs hp1 e1
      split at e
      · rename_i y hp2 e2
        split at e
        · rename_i ys e3
          split at e
          · rename_i hz
            cases e
            refine ⟨ls, hp, μ, xs, hp1, rl, rh, e1, fun p vs H1 μ1 x1 rh1 h0 hn hl r1 => ⟨ls, hp1, μ1, y, hp', rl.ext x1, rh1, e2, fun v2 H2 μ2 x2 rh2 r2 => ?_⟩⟩
            obtain ⟨n, rfl, eh⟩ := lstOf_some e3
            obtain ⟨p2, ep, rfl⟩ := r2.refE
            obtain ⟨ws, ev, rs⟩ := rh2.lst ep eh
            refine ⟨p, p2, vs, ws, rfl, rfl, x2.keep _ _ hn hl, ev, by rw [r1.len, rs.len]; exact hz, fun p' hp0 => ?_⟩
            have x4 := Ext.laid rh2 (o := .lst (vs ++ ws)) hp0
            exact q p' _ _ μ2 ((x1.trans x2).trans x4) (rh2.laid hp0) ((x1.trans x2).back rh2 hp0) (rh2.notIn hp0) upd_same (((r1.ext x2).append rs).ext x4)
          · cases e
        · cases e
      · cases e
    · cases e
def mRep (fl : AA) (fb : AE) : AA := fun ls hp => match fl ls hp with
  | some (xs, hp1) => match fb ls hp1 with
    | some (.int k, hp2) => if 0 ≤ k ∧ k < 2 ^ 40 ∧ xs.length * k.toNat ≤ sizeLine then some ((List.replicate k.toNat xs).flatten, hp2) else none
    | _ => none
  | none => none
theorem Rps.rep {K : PySem.W.Frag} {H : Hp} {μ : List Addr} {ds : List D} {vs : List V} (r : Rps K H μ ds vs) : ∀ n : Nat, Rps K H μ (List.replicate n ds).flatten (List.replicate n vs).flatten
  | 0 => Rps.nil
  | n + 1 => by
    rw [List.replicate_succ, List.replicate_succ, List.flatten_cons, List.flatten_cons]
    exact r.append (Rps.rep r n)
theorem le_rep (ha : LE X a fl) (hb : DE X b fb) : LE X (.BinOp a .Mult b pos) (mRep fl fb) :=
  PE.imp (pe_op op_rep ha hb) fun σ H Q ⟨ls, hp, μ, ds, hp', rl, rh, e, q⟩ => by
    unfold mRep at e
    split at e
    · rename_i xs hp1 e1
      split at e
      · rename_i k hp2 e2
        split at e
        · rename_i hz
          cases e
          refine ⟨ls, hp, μ, xs, hp1, rl, rh, e1, fun p vs H1 μ1 x1 rh1 h0 hn hl r1 => ⟨ls, hp1, μ1, _, hp', rl.ext x1, rh1, e2, fun v2 H2 μ2 x2 rh2 r2 => ?_⟩⟩
          refine ⟨p, k, vs, rfl, r2.intE, x2.keep _ _ hn hl, by omega, by omega, by rw [r1.len]; exact hz.2.2, fun p' hp0 => ?_⟩
          have x4 := Ext.laid rh2 (o := .lst (List.replicate k.toNat vs).flatten) hp0
          exact q p' _ _ μ2 ((x1.trans x2).trans x4) (rh2.laid hp0) ((x1.trans x2).back rh2 hp0) (rh2.notIn hp0) upd_same (((r1.ext x2).rep k.toNat).ext x4)
        · cases e
      · cases e
    · cases e
def sAsgL (ts : List Tg) (f : AA) : AS := fun ls hp => match f ls hp with
  | some (ds, hp1) => match Tg.asgs ts ds ls with
    | some ls1 => some (.nx, ls1, hp1)
    | none => none
  | none => none
theorem ds_asgL {kt : Nat} {pt : Pos} {ts : List Tg} (hc : X.calm = true) (he : LE X e fl) (hg : DGs X es ts) (hn : (assignEach es X.env).length = ts.length := by rfl) (hst : (assignEach es X.env).findIdx? (·.1) = none := by rfl)
    (hs : swapsWithSole [.Tuple es kt pt] e pos.line X.env = pure false := by rfl) (hsw : swappedStores [.Tuple es kt pt] e X.env = pure none := by rfl) (h1 : (assignEach [.Tuple es kt pt] X.env).map (·.2) = [assign (.Tuple es kt pt) X.env] := by rfl) : DS X (.Assign [.Tuple es kt pt] e pos) (sAsgL ts fl) :=
  PS.imp (ps_asg he (pg_unl (n := ts.length) hc hg hn hst) hs hsw h1) fun Dn σ H ⟨ls, hp, μ, fl', ls', hp', rl, rh, e, q⟩ => by
    unfold sAsgL at e
    split at e
    · rename_i ds hp1 e1
      split at e
      · rename_i ls1 e2
        cases e
        exact ⟨ls, hp, μ, ds, hp', rl, rh, e1, fun p vs H1 μ1 x1 rh1 h0 hn' hl r1 => ⟨p, vs, rfl, .inl (.inl hl), by rw [r1.len, asgs_len e2], ls, μ1, ds, ls', rl.ext x1, r1, e2, fun σ' rl' _ => q H1 μ1 x1 rh1 σ' rl'⟩⟩
      · cases e
    · cases e
end
end Ve
namespace Ve
open PySem PySem.Spec L2

def maxI : Int → List Int → Int
  | a, [] => a
  | a, b :: r => maxI (if a < b then b else a) r
def minI : Int → List Int → Int
  | a, [] => a
  | a, b :: r => minI (if b < a then b else a) r
theorem maxI_is : ∀ (r : List Int) (a : Int), (maxI a r = a ∨ maxI a r ∈ r) ∧ a ≤ maxI a r ∧ ∀ y ∈ r, y ≤ maxI a r
  | [], a => ⟨.inl rfl, Int.le_refl _, fun _ h => nomatch h⟩
  | b :: r, a => by
    obtain ⟨h1, h2, h3⟩ := maxI_is r (if a < b then b else a)
    unfold maxI
    refine ⟨?_, by split at h2 <;> rename_i h <;> simp only [h, if_true, if_false, ite_true, ite_false] <;> omega, fun y hy => ?_⟩
    · rcases h1 with h1 | h1
      · by_cases h : a < b
        · rw [if_pos h] at h1 ⊢
          exact .inr (by rw [h1]; exact List.mem_cons_self)
        · rw [if_neg h] at h1 ⊢
          exact .inl h1
      · exact .inr (List.mem_cons_of_mem _ h1)
    · rcases List.mem_cons.mp hy with e | e
      · subst e
        by_cases h : a < y
        · rw [if_pos h] at h2 ⊢
          exact h2
        · rw [if_neg h] at h2 ⊢
          omega
      · exact h3 y e
theorem minI_is : ∀ (r : List Int) (a : Int), (minI a r = a ∨ minI a r ∈ r) ∧ minI a r ≤ a ∧ ∀ y ∈ r, minI a r ≤ y
  | [], a => ⟨.inl rfl, Int.le_refl _, fun _ h => nomatch h⟩
  | b :: r, a => by
    obtain ⟨h1, h2, h3⟩ := minI_is r (if b < a then b else a)
    unfold minI
    refine ⟨?_, by split at h2 <;> rename_i h <;> simp only [h, if_true, if_false, ite_true, ite_false] <;> omega, fun y hy => ?_⟩
    · rcases h1 with h1 | h1
      · by_cases h : b < a
        · rw [if_pos h] at h1 ⊢
          exact .inr (by rw [h1]; exact List.mem_cons_self)
        · rw [if_neg h] at h1 ⊢
          exact .inl h1
      · exact .inr (List.mem_cons_of_mem _ h1)
    · rcases List.mem_cons.mp hy with e | e
      · subst e
        by_cases h : y < a
        · rw [if_pos h] at h2 ⊢
          exact h2
        · rw [if_neg h] at h2 ⊢
          omega
      · exact h3 y e
def maxD (ds : List D) : Option Int := match ints? ds with
  | some (a :: r) => some (maxI a r)
  | _ => none
def minD (ds : List D) : Option Int := match ints? ds with
  | some (a :: r) => some (minI a r)
  | _ => none
def sumD (ds : List D) : Option Int := match ints? ds with
  | some ns => some ns.sum
  | none => none
theorem maxD_some {ds : List D} {m : Int} (h : maxD ds = some m) : ∃ ns : List Int, ds = ns.map .int ∧ 0 < ns.length ∧ ∀ x, x ∈ ns → (∀ y, y ∈ ns → y ≤ x) → x = m := by
  unfold maxD at h
  split at h
  · rename_i a r e
    cases h
    obtain ⟨h1, h2, h3⟩ := maxI_is r a
    refine ⟨a :: r, ints?_eq e, Nat.succ_pos _, fun x hx hb => ?_⟩
    have := hb (maxI a r) (by rcases h1 with z | z; · rw [z]; exact List.mem_cons_self
                              · exact List.mem_cons_of_mem _ z)
    rcases List.mem_cons.mp hx with z | z
    · subst z
      omega
    · have := h3 x z
      omega
  · cases h
theorem minD_some {ds : List D} {m : Int} (h : minD ds = some m) : ∃ ns : List Int, ds = ns.map .int ∧ 0 < ns.length ∧ ∀ x, x ∈ ns → (∀ y, y ∈ ns → x ≤ y) → x = m := by
  unfold minD at h
  split at h
  · rename_i a r e
    cases h
    obtain ⟨h1, h2, h3⟩ := minI_is r a
    refine ⟨a :: r, ints?_eq e, Nat.succ_pos _, fun x hx hb => ?_⟩
    have := hb (minI a r) (by rcases h1 with z | z; · rw [z]; exact List.mem_cons_self
                              · exact List.mem_cons_of_mem _ z)
    rcases List.mem_cons.mp hx with z | z
    · subst z
      omega
    · have := h3 x z
      omega
  · cases h
def gMaxL (ds : List D) (hp : Hd) : Option (D × Hd) := match maxD ds with
  | some m => some (.int m, hp)
  | none => none
def gMinL (ds : List D) (hp : Hd) : Option (D × Hd) := match minD ds with
  | some m => some (.int m, hp)
  | none => none
def gSumL (ds : List D) (hp : Hd) : Option (D × Hd) := match sumD ds with
  | some m => some (.int m, hp)
  | none => none
section
variable {X : Cx}
theorem n_max (hc : X.calm = true) : CallR X (.builtin "max") (RN X.K gMaxL) := fun pins s σ H xs us Q I r ⟨hp, μ, ds, vs, p, d, hp', rh, ex, hn, hl, rs, e, q⟩ => by
  unfold gMaxL at e
  split at e
  · rename_i m em
    cases e
    subst ex
    obtain ⟨ns, rfl, h1, h2⟩ := maxD_some em
    have := rs.ints
    subst this
    exact cr_max hc pins s σ H _ us Q I r ⟨p, ns, rfl, .inl (.inl hl), h1, fun x hx hb => by rw [h2 x hx hb]; exact q _ H μ Ext.refl rh Rp.int⟩
  · cases e
theorem n_min (hc : X.calm = true) : CallR X (.builtin "min") (RN X.K gMinL) := fun pins s σ H xs us Q I r ⟨hp, μ, ds, vs, p, d, hp', rh, ex, hn, hl, rs, e, q⟩ => by
  unfold gMinL at e
  split at e
  · rename_i m em
    cases e
    subst ex
    obtain ⟨ns, rfl, h1, h2⟩ := minD_some em
    have := rs.ints
    subst this
    exact cr_min hc pins s σ H _ us Q I r ⟨p, ns, rfl, .inl (.inl hl), h1, fun x hx hb => by rw [h2 x hx hb]; exact q _ H μ Ext.refl rh Rp.int⟩
  · cases e
theorem n_sum (hc : X.calm = true) : CallR X (.builtin "sum") (RN X.K gSumL) := fun pins s σ H xs us Q I r ⟨hp, μ, ds, vs, p, d, hp', rh, ex, hn, hl, rs, e, q⟩ => by
  unfold gSumL sumD at e
  split at e
  · rename_i m em
    cases e
    subst ex
    split at em
    · rename_i ns en
      cases em
      have := ints?_eq en
      subst this
      have := rs.ints
      subst this
      exact cr_sum hc pins s σ H _ us Q I r ⟨p, ns, rfl, .inl (.inl hl), q _ H μ Ext.refl rh Rp.int⟩
    · cases em
  · cases e
def gLenL (ds : List D) (hp : Hd) : Option (D × Hd) := some (.int ds.length, hp)
theorem n_len : CallR X (.builtin "len") (RN X.K gLenL) := fun pins s σ H xs us Q I r ⟨hp, μ, ds, vs, p, d, hp', rh, ex, hn, hl, rs, e, q⟩ => by
  unfold gLenL at e
  cases e
  subst ex
  rw [← rs.len] at q
  exact call_len_seq pins s σ H _ us Q I r ⟨p, vs, rfl, .inl (.inl (.inl hl)), q _ H μ Ext.refl rh Rp.int⟩
def gAbs : List D → Hd → Option (D × Hd)
  | [.int i], hp => some (.int (if i < 0 then -i else i), hp)
  | _, _ => none
theorem c_abs : CallR X (.builtin "abs") (RDs X.K gAbs) := fun pins s σ H xs us Q I r ⟨hp, μ, ds, d, hp', rh, rs, e, q⟩ => by
  unfold gAbs at e
  split at e
  · cases e
    obtain ⟨v, rfl, r1⟩ := rs.one
    cases r1.intE
    exact call_abs pins s σ H _ us Q I r ⟨_, rfl, q _ H μ Ext.refl rh Rp.int⟩
  · cases e
def seqOfL (d : D) (hp : Hd) : Option (List D) := match d with
  | .scr ns => some (ns.map .int)
  | d => lstOf d hp
theorem seqOfL_some {K : PySem.W.Frag} {H : Hp} {μ : List Addr} {hp : Hd} {d : D} {v : V} {ds : List D} (rh : RelH K H μ hp) (r : Rp K H μ d v) (h : seqOfL d hp = some ds) : ∃ a vs, v = .ref a ∧ SqL K H a vs ∧ Rps K H μ ds vs := by
  unfold seqOfL at h
  split at h
  · rename_i ns
    cases h
    obtain ⟨a, rfl, t⟩ := r.scrE
    refine ⟨a, _, rfl, t.sq, ?_⟩
    have go : ∀ ns : List Int, Rps K H μ (ns.map .int) (ns.map V.int) := by
      intro ns
      induction ns with
      | nil => exact Rps.nil
      | cons n ns ih => exact Rps.mk Rp.int ih
    exact go ns
  · obtain ⟨n, rfl, e⟩ := lstOf_some h
    obtain ⟨a, ea, rfl⟩ := r.refE
    obtain ⟨vs, ev, rs⟩ := rh.lst ea e
    exact ⟨a, vs, rfl, .inl (.inl ev), rs⟩
def on1 (g : List D → Option Int) : List D → Hd → Option (D × Hd)
  | [d], hp => match seqOfL d hp with
    | some ds => match g ds with
      | some m => some (.int m, hp)
      | none => none
    | none => none
  | _, _ => none
def gMax1 : List D → Hd → Option (D × Hd) := on1 maxD
def gMin1 : List D → Hd → Option (D × Hd) := on1 minD
def gSum1 : List D → Hd → Option (D × Hd) := on1 sumD
theorem on1_some {g : List D → Option Int} {ds : List D} {hp hp' : Hd} {d : D} (h : on1 g ds hp = some (d, hp')) : ∃ x xs m, ds = [x] ∧ seqOfL x hp = some xs ∧ g xs = some m ∧ d = .int m ∧ hp' = hp := by
  unfold on1 at h
  split at h
  · split at h
    · rename_i e
      split at h
      · rename_i em
        cases h
        exact ⟨_, _, _, rfl, e, em, rfl, rfl⟩
      · cases h
    · cases h
  · cases h
theorem c_max1 (hc : X.calm = true) : CallR X (.builtin "max") (RDs X.K gMax1) := fun pins s σ H xs us Q I r ⟨hp, μ, ds, d, hp', rh, rs, e, q⟩ => by
  obtain ⟨x, ys, m, rfl, e1, e2, rfl, rfl⟩ := on1_some e
  obtain ⟨v, rfl, r1⟩ := rs.one
  obtain ⟨a, vs, rfl, hs, r2⟩ := seqOfL_some rh r1 e1
  obtain ⟨ns, rfl, h1, h2⟩ := maxD_some e2
  have := r2.ints
  subst this
  exact cr_max hc pins s σ H _ us Q I r ⟨a, ns, rfl, hs, h1, fun x hx hb => by rw [h2 x hx hb]; exact q _ H μ Ext.refl rh Rp.int⟩
theorem c_min1 (hc : X.calm = true) : CallR X (.builtin "min") (RDs X.K gMin1) := fun pins s σ H xs us Q I r ⟨hp, μ, ds, d, hp', rh, rs, e, q⟩ => by
  obtain ⟨x, ys, m, rfl, e1, e2, rfl, rfl⟩ := on1_some e
  obtain ⟨v, rfl, r1⟩ := rs.one
  obtain ⟨a, vs, rfl, hs, r2⟩ := seqOfL_some rh r1 e1
  obtain ⟨ns, rfl, h1, h2⟩ := minD_some e2
  have := r2.ints
  subst this
  exact cr_min hc pins s σ H _ us Q I r ⟨a, ns, rfl, hs, h1, fun x hx hb => by rw [h2 x hx hb]; exact q _ H μ Ext.refl rh Rp.int⟩
theorem c_sum1 (hc : X.calm = true) : CallR X (.builtin "sum") (RDs X.K gSum1) := fun pins s σ H xs us Q I r ⟨hp, μ, ds, d, hp', rh, rs, e, q⟩ => by
  obtain ⟨x, ys, m, rfl, e1, e2, rfl, rfl⟩ := on1_some e
  obtain ⟨v, rfl, r1⟩ := rs.one
  obtain ⟨a, vs, rfl, hs, r2⟩ := seqOfL_some rh r1 e1
  unfold sumD at e2
  split at e2
  · rename_i ns en
    cases e2
    have := ints?_eq en
    subst this
    have := r2.ints
    subst this
    exact cr_sum hc pins s σ H _ us Q I r ⟨a, ns, rfl, hs, q _ H μ Ext.refl rh Rp.int⟩
  · cases e2

def gClear (x : D) (ds : List D) (hp : Hd) : Option (D × Hd) := match ds with
  | [] => onL x hp fun _ => some (.non, [])
  | _ => none
theorem t_clear : MtR X "list.clear" (RM X.K gClear) := fun pins s σ H x xs v us Q I rx rxs ⟨hp, μ, dx, ds, d, hp', rh, r1, rs, e, q⟩ => by
  unfold gClear at e
  split at e
  · obtain ⟨n, ws, ys, rfl, e1, e2, rfl⟩ := onL_some e
    cases e2
    rw [Rps] at rs
    subst rs
    obtain ⟨a, ea, rfl⟩ := r1.refE
    obtain ⟨vs, ev, r3⟩ := rh.lst ea e1
    obtain ⟨r4, x1⟩ := rh.put (o := .lst []) (u := .lst []) ea ⟨_, rfl, Rps.nil⟩
    exact mt_clear pins s σ H _ _ v us Q I rx rxs ⟨a, vs, rfl, rfl, ev, q _ _ μ x1 r4 Rp.non⟩
  · cases e
theorem Rps.rev {K : PySem.W.Frag} {H : Hp} {μ : List Addr} : ∀ {ds : List D} {vs : List V}, Rps K H μ ds vs → Rps K H μ ds.reverse vs.reverse
  | [], vs, h => by
    rw [Rps] at h
    subst h
    exact Rps.nil
  | d :: ds, vs, h => by
    rw [Rps] at h
    obtain ⟨v, r, rfl, h1, h2⟩ := h
    rw [List.reverse_cons, List.reverse_cons]
    exact (Rps.rev h2).append (Rps.mk h1 Rps.nil)
def gReverse (x : D) (ds : List D) (hp : Hd) : Option (D × Hd) := match ds with
  | [] => onL x hp fun xs => some (.non, xs.reverse)
  | _ => none
theorem t_reverse : MtR X "list.reverse" (RM X.K gReverse) := fun pins s σ H x xs v us Q I rx rxs ⟨hp, μ, dx, ds, d, hp', rh, r1, rs, e, q⟩ => by
  unfold gReverse at e
  split at e
  · obtain ⟨n, ws, ys, rfl, e1, e2, rfl⟩ := onL_some e
    cases e2
    rw [Rps] at rs
    subst rs
    obtain ⟨a, ea, rfl⟩ := r1.refE
    obtain ⟨vs, ev, r3⟩ := rh.lst ea e1
    have x0 : Mon μ H μ (upd H a (.lst vs.reverse)) := Mon.loose ev
    obtain ⟨r4, x1⟩ := rh.put (o := .lst ws.reverse) (u := .lst vs.reverse) ea ⟨_, rfl, r3.rev.mon x0⟩
    exact mt_reverse pins s σ H _ _ v us Q I rx rxs ⟨a, vs, rfl, rfl, ev, q _ _ μ x1 r4 Rp.non⟩
  · cases e
theorem Rps.erase {K : PySem.W.Frag} {H : Hp} {μ : List Addr} {ds : List D} {vs : List V} (h : Rps K H μ ds vs) (k : Nat) : Rps K H μ (ds.eraseIdx k) (vs.eraseIdx k) := by
  rw [List.eraseIdx_eq_take_drop_succ, List.eraseIdx_eq_take_drop_succ]
  exact (h.take _).append (h.drop _)
def gPopAt (x : D) (ds : List D) (hp : Hd) : Option (D × Hd) := match ds with
  | [.int i] => if -(2 ^ 63) ≤ i ∧ i < 2 ^ 63 then onL x hp fun xs => match seqIndex? i xs.length with
    | some k => match xs[k]? with
      | some y => some (y, xs.eraseIdx k)
      | none => none
    | none => none else none
  | _ => none
theorem t_popAt : MtR X "list.pop" (RM X.K gPopAt) := fun pins s σ H x xs v us Q I rx rxs ⟨hp, μ, dx, ds, d, hp', rh, r1, rs, e, q⟩ => by
  unfold gPopAt at e
  split at e
  · rename_i i
    split at e
    · rename_i hi
      obtain ⟨n, ws, ys, rfl, e1, e2, rfl⟩ := onL_some e
      split at e2
      · rename_i k ek
        split at e2
        · rename_i y ey
          cases e2
          obtain ⟨w0, rfl, r2⟩ := rs.one
          cases r2.intE
          obtain ⟨a, ea, rfl⟩ := r1.refE
          obtain ⟨vs, ev, r3⟩ := rh.lst ea e1
          obtain ⟨w, ew, rw'⟩ := r3.get ey
          have x0 : Mon μ H μ (upd H a (.lst (vs.eraseIdx k))) := Mon.loose ev
          obtain ⟨r4, x1⟩ := rh.put (o := .lst (ws.eraseIdx k)) (u := .lst (vs.eraseIdx k)) ea ⟨_, rfl, (r3.erase k).mon x0⟩
          exact mt_popAt pins s σ H _ _ v us Q I rx rxs ⟨a, vs, i, k, w, rfl, rfl, ev, hi.1, hi.2, by rw [r3.len]; exact ek, ew, q _ _ μ x1 r4 (rw'.mon x0)⟩
        · cases e2
      · cases e2
    · cases e
  · cases e
end
end Ve
namespace Ve
open PySem PySem.Spec L2 PyProof.Rows

def encD (hp : Hd) (d : D) : PyData := (pyF hp 15 d).getD .none
def isTupC : PyData → Bool
  | .tuple (_ :: _) => true
  | _ => false
def notTN : PyData → Bool
  | .tuple _ => false
  | .none => false
  | _ => true
def srtOk (hp : Hd) (ds : List D) : Bool := (ds.all fun d => (pyF hp 15 d).isSome) && ((ds.all fun a => ds.all fun b => PySem.W.alike (encD hp a) (encD hp b)) && (((ds.all fun d => isTupC (encD hp d)) || ds.all fun d => notTN (encD hp d)) && ds.all fun d => decide ((encD hp d).depth ≤ 40)))
def srt (hp : Hd) (ds : List D) : List D := ds.mergeSort (PySem.W.dataLe false (encD hp))
def RelD (K : PySem.W.Frag) (H : Hp) (μ : List Addr) (u : Value) (d : D) : Prop := ∃ v, RelV v u ∧ Rp K H μ d v
section
variable {K : PySem.W.Frag} {H : Hp} {μ : List Addr} {hp : Hd}
theorem each_of : ∀ {ds : List D} {vs : List V} {us : List Value}, Rps K H μ ds vs → Vals vs us → PySem.W.EachIs (RelD K H μ) us ds
  | [], vs, us, h, r => by
    rw [Rps] at h
    subst h
    cases r
    exact .nil
  | d :: ds, vs, us, h, r => by
    rw [Rps] at h
    obtain ⟨v, w, rfl, h1, h2⟩ := h
    cases r with
    | cons r1 r2 => exact .cons ⟨v, r1, h1⟩ (each_of h2 r2)
theorem each_back : ∀ {ds : List D} {us : List Value}, PySem.W.EachIs (RelD K H μ) us ds → ∃ vs, Vals vs us ∧ Rps K H μ ds vs
  | _, _, .nil => ⟨[], .nil, Rps.nil⟩
  | _, _, .cons ⟨v, r1, h1⟩ t => by
    obtain ⟨vs, r2, h2⟩ := each_back t
    exact ⟨v :: vs, .cons r1 r2, Rps.mk h1 h2⟩
theorem each_at {α β : Type} {R : α → β → Prop} : ∀ {us : List α} {ds : List β}, us.length = ds.length → (∀ (j : Nat) u d, us[j]? = some u → ds[j]? = some d → R u d) → PySem.W.EachIs R us ds
  | [], [], _, _ => .nil
  | [], _ :: _, h, _ => by simp at h
  | _ :: _, [], h, _ => by simp at h
  | u :: us, d :: ds, h, f => .cons (f 0 u d rfl rfl) (each_at (by simpa using h) fun j a b e1 e2 => f (j + 1) a b (by simpa using e1) (by simpa using e2))
theorem srtOk_parts {ds : List D} (h : srtOk hp ds = true) : (∀ d ∈ ds, ∃ p, pyF hp 15 d = some p) ∧ PySem.W.AllAlike (ds.map (encD hp)) ∧ PySem.W.Sortable (ds.map (encD hp)) ∧ ∀ d ∈ ds, (encD hp d).depth ≤ 40 := by
  unfold srtOk at h
  rw [Bool.and_eq_true, Bool.and_eq_true, Bool.and_eq_true] at h
  obtain ⟨h1, h2, h3, h4⟩ := h
  refine ⟨fun d hd => Option.isSome_iff_exists.mp (List.all_eq_true.mp h1 d hd), fun a ha b hb => ?_, ?_, fun d hd => of_decide_eq_true (List.all_eq_true.mp h4 d hd)⟩
  · obtain ⟨x, hx, rfl⟩ := List.mem_map.mp ha
    obtain ⟨y, hy, rfl⟩ := List.mem_map.mp hb
    exact List.all_eq_true.mp (List.all_eq_true.mp h2 x hx) y hy
  · rcases Bool.or_eq_true _ _ ▸ h3 with h3 | h3
    · refine .inl fun d hd => ?_
      obtain ⟨x, hx, rfl⟩ := List.mem_map.mp hd
      have := List.all_eq_true.mp h3 x hx
      unfold isTupC at this
      split at this
      · rename_i e
        exact ⟨_, _, e⟩
      · cases this
    · refine .inr fun d hd => ?_
      obtain ⟨x, hx, rfl⟩ := List.mem_map.mp hd
      have := List.all_eq_true.mp h3 x hx
      refine ⟨fun e => ?_, fun xs e => ?_⟩ <;> rw [e] at this <;> cases this
end
section
variable {X : Cx} {pins : List (Addr × Obj)} {σ : L2.St} {H : Hp} {s : Shared} {μ : List Addr} {hp : Hd}
theorem each_reads (I : Inv X pins σ H s) (rh : RelH X.K H μ hp) {us : List Value} {ds : List D} (h : ∀ d ∈ ds, ∃ p, pyF hp 15 d = some p) (e : PySem.W.EachIs (RelD X.K H μ) us ds) : PySem.W.EachIs (fun u d => ∃ as, Reads s.heap u (encD hp d) as) us ds := by
  induction e with
  | nil => exact .nil
  | @cons u d us ds h1 t ih =>
    obtain ⟨v, r, rv⟩ := h1
    refine .cons ?_ (ih fun d hd => h d (List.mem_cons_of_mem _ hd))
    obtain ⟨p, e⟩ := h d List.mem_cons_self
    have := pyF_dp rh 15 d p v e rv
    unfold encD
    rw [e]
    exact Dp.reads I p v _ this r
theorem sorted_core {us : List Value} {ds : List D} {A : Around} {h' : Heap} {a : Addr} {tk : Nat} (I1 : Inv X pins σ H { s with heap := h', toks := tk }) (rh : RelH X.K H μ hp) (er : PySem.W.EachIs (RelD X.K H μ) us ds) (hs : srtOk hp ds = true) (hu : A.units + 44 < cLine) (ha : h'.get? a = none) (hh : ∀ b o, h'.get? b = some o → b ≠ a) (h2 : Heap) (k2 : ∀ b o, h'.get? b = some o → h2.get? b = some o) :
    PySem.W.SortsAt X.prog X.w A { s with heap := PySem.W.sortingHeap h2 a us, toks := tk } (PySem.W.dataKind (PySem.W.sortingHeap h2 a us) (ds.map (encD hp))) us ∧
      PySem.W.EachIs (RelD X.K H μ) (PySem.W.sortVals (PySem.W.dataKind (PySem.W.sortingHeap h2 a us) (ds.map (encD hp))) false us us) (srt hp ds) := by
  obtain ⟨h1, hal, hk, hdep⟩ := srtOk_parts hs
  have er1 := each_reads I1 rh h1 er
  have er2 : PySem.W.EachIs (fun u d => ∃ as, Reads (PySem.W.sortingHeap h2 a us) u (encD hp d) as) us ds := er1.mono fun _ _ ⟨as, r⟩ => ⟨as, PyProof.Rows.Reads.keeps (fun b o e => PySem.W.sortingHeap_old (hh b o e) (k2 b o e)) r⟩
  refine ⟨PySem.W.SortsAt.data (s := { s with heap := PySem.W.sortingHeap h2 a us, toks := tk }) (PySem.W.each_map (R := fun v d => ∃ as, Reads (PySem.W.sortingHeap h2 a us) v d as) (encD hp) er2) hal hk fun d hd => ?_, PySem.W.sortVals_data false er er2 hal⟩
  obtain ⟨x, hx, rfl⟩ := List.mem_map.mp hd
  have := hdep x hx
  omega
theorem sorted_of_src {T : String} {r d : Addr} {n : Nat} {P : Nat → Value → Prop} {OK : Heap → Prop} (KS : PySem.W.KdlSrc X.prog X.w T r d n P OK) (I : Inv X pins σ H s) (hc : X.calm = true) (hok : OK s.heap) (hn : n ≤ sizeLine) {ds : List D} (rh : RelH X.K H μ hp) (hs : srtOk hp ds = true) (hu : X.A.units + 64 < cLine) {Q : VK}
    (hacc : ∀ acc : Array Value, ItemsOf P acc n → PySem.W.EachIs (RelD X.K H μ) acc.toList ds) (q : ∀ p vs, H p = none → Rps X.K H μ (srt hp ds) vs → Q (.ref p) (upd H p (.lst vs))) :
    wpAny (model X.prog X.w) X.A (call (.builtin "sorted") [.ref r]) (EP X pins σ Q) X.xe s := by
  refine Calls.call_function_entry PyProof.Rows.kind_sorted PyProof.Rows.plain_sorted PyProof.Rows.entry_sorted (PyProof.Rows.args_sorted1 _) ?_
  unfold Builtin.«sorted»
  refine wpAny_bind (m := checkCount "sorted" 1 1 _) (wpAny_pure ?_)
  refine wpAny_bind (PySem.W.kdu_collect (A := X.A.in1) KS (I.ok.hd hc) hok hn fun h' tk acc hk hit => ?_)
  have er := hacc acc hit
  have I1 : Inv X pins σ H { s with heap := h', toks := tk } := I.kept hk
  have hz : acc.toList.length ≤ sizeLine := by rw [Array.length_toList, hit.1]; exact hn
  refine wpAny_bind (wpAny_newList ?_ hz)
  have hoL : (h'.push (seqObj "list" acc.toList.toArray 0)).get? h'.objs.size = some (seqObj "list" acc.toList.toArray 0) := Heap.get?_push_size _ rfl
  have hlt : ∀ b o, h'.get? b = some o → b ≠ h'.objs.size := fun b o e => Nat.ne_of_lt (Heap.lt_size e)
  have h0 : h'.get? h'.objs.size = none := by
    cases hh : h'.get? h'.objs.size with
    | none => rfl
    | some o => exact absurd rfl (hlt _ o hh)
  obtain ⟨S, eo⟩ := sorted_core (A := X.A.in1.in1) I1 rh er hs (show X.A.units + 1 + 1 + 44 < cLine by omega) h0 hlt (h'.push (seqObj "list" acc.toList.toArray 0)) fun b o e => Heap.get?_push_of_some _ e
  show wpAny _ _ _ _ _ { s with heap := h'.push (seqObj "list" acc.toList.toArray 0), toks := tk }
  refine wpAny_bind (wpAny_holding (wpAny_call_entry PyProof.Rows.slot_list_sort ⟨_, hoL, rfl⟩ PyProof.Rows.entry_list_sort
    (PySem.W.list_sort_vals (s := { s with heap := h'.push (seqObj "list" acc.toList.toArray 0), toks := tk }) hoL S hz ⟨_, rfl, ?_⟩)
    (PyProof.Rows.args_list_sort _)))
  obtain ⟨vs', rv', rs'⟩ := each_back eo
  obtain ⟨e', he'⟩ := PyProof.Rows.sortedHeap_at (vs := acc.toList) (out := (PySem.W.sortVals (PySem.W.dataKind (PySem.W.sortingHeap (h'.push (seqObj "list" acc.toList.toArray 0)) h'.objs.size acc.toList) (ds.map (encD hp))) false acc.toList acc.toList).toArray) hoL
  have hlen : vs'.length ≤ sizeLine := by
    rw [rs'.len]
    unfold srt
    rw [List.length_mergeSort, ← er.length]
    exact hz
  refine wpAny_pure ⟨_, rfl, .ref h'.objs.size, upd H h'.objs.size (.lst vs'), I1.laid (t' := tk) (fun b u e => ?_) (Nat.le_refl _)
    (show ObjOk X.prog X.w _ _ _ (.lst vs') from ⟨hlen, _, e', rv', he'⟩), rfl, q _ vs' (I1.hok.fresh (Nat.le_refl _)) rs'⟩
  have hb : b < h'.objs.size := Heap.lt_size e
  rw [PyProof.Rows.sortedHeap_old (Nat.ne_of_lt hb) (by rw [size_push']; exact Nat.lt_succ_of_lt hb)]
  exact Heap.get?_push_of_some _ e
theorem sorted_of_list {a : Addr} {ds : List D} {vs : List V} (I : Inv X pins σ H s) (hq : SqL X.K H a vs) (rs : Rps X.K H μ ds vs) (rh : RelH X.K H μ hp) (hs : srtOk hp ds = true) (hu : X.A.units + 64 < cLine) {Q : VK}
    (q : ∀ p vs, H p = none → Rps X.K H μ (srt hp ds) vs → Q (.ref p) (upd H p (.lst vs))) :
    wpAny (model X.prog X.w) X.A (call (.builtin "sorted") [.ref a]) (EP X pins σ Q) X.xe s := by
  obtain ⟨its, rv, hl, hz⟩ := I.list hq
  have er := each_of rs rv
  obtain ⟨h1, hal, hk, hdep⟩ := srtOk_parts hs
  refine PySem.W.sorted_data (bs := ds) (enc := encD hp) hl.isList er (each_reads I rh h1 er) hal hk (by rw [← rs.len]; exact hz) (fun b hb => ?_) fun out ho eo => ?_
  · have := hdep b hb
    omega
  · obtain ⟨vs', rv', rs'⟩ := each_back (ds := srt hp ds) eo
    obtain ⟨ep, he'⟩ := PyProof.Rows.sortedAll_at s.heap its out.toArray
    have hlen : vs'.length ≤ sizeLine := by
      rw [rs'.len]
      unfold srt
      rw [List.length_mergeSort, ← rs.len]
      exact hz
    exact ⟨.ref _, upd H (s.heap.objs.size + 1) (.lst vs'), I.laid (t' := s.toks) (fun _ _ => PyProof.Rows.sortedAll_old) (Nat.le_succ _) ⟨hlen, out, ep, rv', he'⟩, rfl, q _ vs' (I.hok.fresh (Nat.le_succ _)) rs'⟩
end
end Ve
namespace Ve
open PySem PySem.Spec L2

def TLL (K : PySem.W.Frag) (hp' : Hd) (ds' : List D) (μ : List Addr) (H : Hp) (Q : VK) : Prop := ∀ a ws H' μ', Ext μ H μ' H' → RelH K H' μ' hp' → H a = none → a ∉ μ' → H' a = some (.lst ws) → Rps K H' μ' ds' ws → Q (.ref a) H'
def RNL (K : PySem.W.Frag) (g : List D → Hd → Option (List D × Hd)) : List V → Hp → VK → Prop := fun xs H Q => ∃ hp μ ds vs p ds' hp', RelH K H μ hp ∧ xs = [.ref p] ∧ SqL K H p vs ∧ Rps K H μ ds vs ∧ g ds hp = some (ds', hp') ∧ TLL K hp' ds' μ H Q
def gSrt (ds : List D) (hp : Hd) : Option (List D × Hd) := if srtOk hp ds = true then some (srt hp ds, hp) else none
section
variable {X : Cx} {e a b : Expr} {es : List Expr} {fa fb : AE} {fl fm : AA} {fr : AA} {pos : Pos}
theorem n_sorted (hu : X.A.units + 64 < cLine) : CallR X (.builtin "sorted") (RNL X.K gSrt) := fun pins s σ H xs us Q I r ⟨hp, μ, ds, vs, p, ds', hp', rh, ex, hq, rs, e, q⟩ => by
  unfold gSrt at e
  split at e
  · rename_i hs
    cases e
    subst ex
    rw [Vals.ref1 r]
    refine sorted_of_list I hq rs rh hs hu fun p' vs' h0 rs' => ?_
    have x := Ext.laid rh (o := .lst vs') h0
    exact q p' vs' _ μ x (rh.laid h0) h0 (rh.notIn h0) upd_same (rs'.ext x)
  · cases e
def mSortedL (fl : AA) : AA := fun ls hp => match fl ls hp with
  | some (ds, hp1) => gSrt ds hp1
  | none => none
theorem le_sortedL {x : Str} {p : Pos} (hu : X.A.units + 64 < cLine) (hg : Gl X x) (hm : X.mg x = none) (hv : bootBuiltins x = some (.builtin "sorted")) (ha : LE X e fl) (hn : x ≠ "__name__" := by decide)
    (hdb : (x == ("__debug__" : Str)) = false := by decide) (he : starEach [e] X.env = (false, eval e X.env) :: starEach [] X.env := by rfl) : LE X (.Call (.Name x p) [e] [] pos) (mSortedL fl) :=
  PE.imp (pe_callB (n_sorted hu) hg hm hv (pa_cons ha pa_nil he) hn hdb he rfl) fun σ H Q ⟨ls, hp, μ, ds, hp', rl, rh, e, q⟩ => by
    unfold mSortedL at e
    split at e
    · rename_i xs hp1 e1
      exact ⟨ls, hp, μ, xs, hp1, rl, rh, e1, fun p vs H1 μ1 x1 rh1 h0 hn hl r1 => ⟨hp1, μ1, xs, vs, p, ds, hp', rh1, rfl, .inl (.inl hl), r1, e, fun a ws H2 μ2 x2 rh2 h2 n2 l2 r2 =>
        q a ws H2 μ2 (x1.trans x2) rh2 (x1.back rh1 h2) n2 l2 r2⟩⟩
    · cases e
def keysOf : D → Hd → Option (List D)
  | .ref n, hp => match hp[n]? with
    | some (.dic kvs) => some (kvs.map (·.1))
    | _ => none
  | _, _ => none
theorem keysOf_some {d : D} {hp : Hd} {ds : List D} (h : keysOf d hp = some ds) : ∃ n kvs, d = .ref n ∧ hp[n]? = some (.dic kvs) ∧ ds = kvs.map (·.1) := by
  unfold keysOf at h
  split at h
  · split at h
    · rename_i e
      cases h
      exact ⟨_, _, rfl, e, rfl⟩
    · cases h
  · cases h
theorem Rp.ofKey {K : PySem.W.Frag} {H : Hp} {μ : List Addr} {d : D} {k : Key} (h : toKey d = some k) : Rp K H μ d (kV k) := by
  cases d <;> simp only [toKey] at h <;> try (cases h; done)
  · cases h
    exact Rp.int
  · cases h
    exact Rp.str
theorem Rps.ofKeys {K : PySem.W.Frag} {H : Hp} {μ : List Addr} : ∀ {ds : List D} {ks : List Key}, toKeys ds = some ks → Rps K H μ ds (ks.map kV)
  | [], ks, h => by
    simp only [toKeys] at h
    cases h
    exact Rps.nil
  | d :: ds, ks, h => by
    simp only [toKeys] at h
    split at h
    · rename_i k ks' e1 e2
      cases h
      exact Rps.mk (Rp.ofKey e1) (Rps.ofKeys e2)
    · cases h
theorem RpK.at_ {K : PySem.W.Frag} {H : Hp} {μ : List Addr} : ∀ {kvs : List (D × D)} {vs : List (Key × V)} {i : Nat} {k : Key} {v : V}, RpK K H μ kvs vs → vs[i]? = some (k, v) → ∃ p, kvs[i]? = some p ∧ toKey p.1 = some k ∧ Rp K H μ p.2 v
  | [], _, i, k, v, h, e => by
    rw [RpK] at h
    subst h
    simp at e
  | x :: xs, _, i, k, v, h, e => by
    rw [RpK] at h
    obtain ⟨ka, w, rs, rfl, h1, h2, h3⟩ := h
    cases i with
    | zero =>
      simp at e
      obtain ⟨rfl, rfl⟩ := e
      exact ⟨x, rfl, h1, h2⟩
    | succ i =>
      obtain ⟨p, e1, e2⟩ := RpK.at_ h3 (by simpa using e)
      exact ⟨p, by simpa using e1, e2⟩
theorem RpT.at_ {K : PySem.W.Frag} {H : Hp} {μ : List Addr} : ∀ {kvs : List (D × D)} {vs : List (List Key × V)} {i : Nat} {k : List Key} {v : V}, RpT K H μ kvs vs → vs[i]? = some (k, v) → ∃ p ds, kvs[i]? = some p ∧ p.1 = .tup ds ∧ toKeys ds = some k ∧ Rp K H μ p.2 v
  | [], _, i, k, v, h, e => by
    rw [RpT] at h
    subst h
    simp at e
  | x :: xs, _, i, k, v, h, e => by
    rw [RpT] at h
    obtain ⟨ds, ka, w, rs, e0, rfl, h1, h2, h3⟩ := h
    cases i with
    | zero =>
      simp at e
      obtain ⟨rfl, rfl⟩ := e
      exact ⟨x, ds, rfl, e0, h1, h2⟩
    | succ i =>
      obtain ⟨p, ds, e1, e2⟩ := RpT.at_ h3 (by simpa using e)
      exact ⟨p, ds, by simpa using e1, e2⟩
theorem paired_at {α β : Type} {R : α → β → Prop} : ∀ {xs : List α} {ys : List β} {i : Nat} {y : β}, Paired R xs ys → ys[i]? = some y → ∃ x, xs[i]? = some x ∧ R x y
  | _, _, _, _, .nil, e => by simp at e
  | _, _, 0, _, .cons r _, e => by
    simp at e
    subst e
    exact ⟨_, rfl, r⟩
  | _, _, i + 1, _, .cons _ t, e => by
    obtain ⟨x, e1, r⟩ := paired_at t (by simpa using e)
    exact ⟨x, by simpa using e1, r⟩
def RDL (K : PySem.W.Frag) (g : D → Hd → Option (List D × Hd)) : List V → Hp → VK → Prop := fun xs H Q => ∃ hp μ d v ds' hp', RelH K H μ hp ∧ xs = [v] ∧ Rp K H μ d v ∧ g d hp = some (ds', hp') ∧ TLL K hp' ds' μ H Q
def gSrtO (d : D) (hp : Hd) : Option (List D × Hd) := match seqOfL d hp with
  | some ds => gSrt ds hp
  | none => match keysOf d hp with
    | some ds => gSrt ds hp
    | none => none
theorem c_sorted (hc : X.calm = true) (hu : X.A.units + 64 < cLine) : CallR X (.builtin "sorted") (RDL X.K gSrtO) := fun pins s σ H xs us Q I r ⟨hp, μ, d, v, ds', hp', rh, ex, rd, e, q⟩ => by
  unfold gSrtO at e
  split at e
  · rename_i ds e1
    unfold gSrt at e
    split at e
    · rename_i hs
      cases e
      subst ex
      obtain ⟨a, vs, rfl, hq, rs⟩ := seqOfL_some rh rd e1
      rw [Vals.ref1 r]
      refine sorted_of_list I hq rs rh hs hu fun p' vs' h0 rs' => ?_
      have x := Ext.laid rh (o := .lst vs') h0
      exact q p' vs' _ μ x (rh.laid h0) h0 (rh.notIn h0) upd_same (rs'.ext x)
    · cases e
  · split at e
    · rename_i ds e1
      unfold gSrt at e
      split at e
      · rename_i hs
        cases e
        subst ex
        obtain ⟨n, kvs, rfl, eh, rfl⟩ := keysOf_some e1
        obtain ⟨a, ea, rfl⟩ := rd.refE
        rw [Vals.ref1 r]
        have fin : ∀ p vs, H p = none → Rps X.K H μ (srt hp (kvs.map (·.1))) vs → Q (.ref p) (upd H p (.lst vs)) := fun p' vs' h0 rs' => by
          have x := Ext.laid rh (o := .lst vs') h0
          exact q p' vs' _ μ x (rh.laid h0) h0 (rh.notIn h0) upd_same (rs'.ext x)
        obtain ⟨nd, ⟨vs, ev, rk⟩ | ⟨vs, ev, rk⟩⟩ := rh.dic ea eh
        · obtain ⟨z, lo, ws, rel, dd⟩ := dk_of I.hok ev
          obtain ⟨ep, hat⟩ := dd.dictAt
          have l1 : vs.length = ws.length := Paired.length rel
          refine sorted_of_src (PySem.W.kdl_dict (knd := mixKind X.prog X.w) (kvs := ws) (ep := ep) lo) I hc hat (by omega) rh hs hu (fun acc hit => ?_) fin
          have la : acc.toList.length = vs.length := by rw [Array.length_toList, hit.1]; exact l1.symm
          refine each_at (by rw [la, rk.len, List.length_map]) fun j u d hu' hd => ?_
          obtain ⟨k, x, e2, e3⟩ := hit.2 j u (by rw [← Array.getElem?_toList]; exact hu')
          obtain ⟨⟨k2, v2⟩, e4, e5, _⟩ := paired_at rel e2
          have e5 : k2 = k := e5
          subst e5
          obtain ⟨p, e6, e7, _⟩ := rk.at_ e4
          rw [List.getElem?_map, e6] at hd
          cases hd
          exact ⟨kV k2, keyIs_rel e3, Rp.ofKey e7⟩
        · obtain ⟨z, hsm, ks, pr, o, es, ep, ho, hx, hdt, he, hn⟩ := (show ObjOk X.prog X.w H s.heap a (.dT vs) from I.hok a _ ev)
          have l1 : es.size = ks.length := size_of_entries he
          have l2 : vs.length = ks.length := Paired.length pr
          refine sorted_of_src (kdl_raw hsm hx hdt) I hc ho (by omega) rh hs hu (fun acc hit => ?_) fin
          have la : acc.toList.length = vs.length := by rw [Array.length_toList, hit.1]; omega
          refine each_at (by rw [la, rk.len, List.length_map]) fun j u d hu' hd => ?_
          obtain ⟨en, hen, hv⟩ := hit.2 j u (by rw [← Array.getElem?_toList]; exact hu')
          have qe := entry_at he j
          rw [hen] at qe
          cases hb : ks[j]? with
          | none =>
            rw [hb] at qe
            exact nomatch (show some en = none from qe)
          | some b =>
            rw [hb] at qe
            have e2 : en = entryOfKey (tupleKind (mixKind X.prog X.w)) b := Option.some.inj qe
            obtain ⟨⟨k2, v2⟩, e4, e5, e6, _⟩ := paired_at pr hb
            obtain ⟨p, dks, e7, e8, e9, _⟩ := rk.at_ e4
            rw [List.getElem?_map, e7] at hd
            cases hd
            refine ⟨.ref b.2.1, ?_, ?_⟩
            · rw [hv, e2]
              rfl
            · show Rp X.K H μ p.1 _
              rw [e8]
              exact Rp.tup e6 (Rps.ofKeys e9)
      · cases e
    · cases e
def mSorted (fa : AE) : AA := fun ls hp => match fa ls hp with
  | some (d, hp1) => gSrtO d hp1
  | none => none
theorem le_sorted {x : Str} {p : Pos} (hc : X.calm = true) (hu : X.A.units + 64 < cLine) (hg : Gl X x) (hm : X.mg x = none) (hv : bootBuiltins x = some (.builtin "sorted")) (ha : DE X e fa) (hn : x ≠ "__name__" := by decide)
    (hdb : (x == ("__debug__" : Str)) = false := by decide) (he : starEach [e] X.env = (false, eval e X.env) :: starEach [] X.env := by rfl) : LE X (.Call (.Name x p) [e] [] pos) (mSorted fa) :=
  PE.imp (pe_callB (c_sorted hc hu) hg hm hv (pa_cons ha pa_nil he) hn hdb he rfl) fun σ H Q ⟨ls, hp, μ, ds, hp', rl, rh, e, q⟩ => by
    unfold mSorted at e
    split at e
    · rename_i d hp1 e1
      exact ⟨ls, hp, μ, d, hp1, rl, rh, e1, fun v H1 μ1 x1 rh1 r1 => ⟨hp1, μ1, d, v, ds, hp', rh1, rfl, r1, e, fun a ws H2 μ2 x2 rh2 h2 n2 l2 r2 =>
        q a ws H2 μ2 (x1.trans x2) rh2 (x1.back rh1 h2) n2 l2 r2⟩⟩
    · cases e
end
end Ve
namespace Ve
open PySem PySem.Spec L2

def prs? : List D → Option (List (D × D))
  | [] => some []
  | .tup [k, v] :: r => (prs? r).map ((k, v) :: ·)
  | _ :: _ => none
def putAll (acc : List (D × D)) : List (D × D) → List (D × D)
  | [] => acc
  | p :: r => putAll (putD acc p.1 p.2) r
def tupKey : D → Bool
  | .tup ks => (toKeys ks).isSome
  | _ => false
def gDictL (ds : List D) (hp : Hd) : Option (D × Hd) := match prs? ds with
  | some ps => if ((ps.all fun p => (toKey p.1).isSome) || ps.all fun p => tupKey p.1) = true then some (.ref hp.length, hp ++ [.dic (putAll [] ps)]) else none
  | none => none
theorem prs?_cons {d : D} {ds : List D} {ps : List (D × D)} (h : prs? (d :: ds) = some ps) : ∃ k v ps', d = .tup [k, v] ∧ prs? ds = some ps' ∧ ps = (k, v) :: ps' := by
  unfold prs? at h
  split at h
  · rename_i e; cases e
  · rename_i k v r e
    cases e
    cases e2 : prs? ds with
    | none => rw [e2] at h; cases h
    | some ps' =>
      rw [e2] at h
      cases h
      exact ⟨k, v, ps', rfl, rfl, rfl⟩
  · cases h
section
variable {K : PySem.W.Frag} {H : Hp} {μ : List Addr}
theorem pairs_leaf : ∀ {ds : List D} {ps : List (D × D)} {vs : List V}, prs? ds = some ps → (ps.all fun p => (toKey p.1).isSome) = true → Rps K H μ ds vs → ∃ (as : List Addr) (kvs : List (Key × V)), vs = as.map V.ref ∧ Paired (fun p kv => SqT K H p [kV kv.1, kv.2]) as kvs ∧ RpK K H μ ps kvs
  | [], ps, vs, h, _, r => by
    simp only [prs?] at h
    cases h
    rw [Rps] at r
    subst r
    exact ⟨[], [], rfl, .nil, by rw [RpK]⟩
  | d :: ds, ps, vs, h, hk, r => by
    obtain ⟨k, v, ps', rfl, e, rfl⟩ := prs?_cons h
    rw [List.all_cons, Bool.and_eq_true] at hk
    rw [Rps] at r
    obtain ⟨v1, w, rfl, r1, r2⟩ := r
    obtain ⟨as, kvs, rfl, hp, hr⟩ := pairs_leaf e hk.2 r2
    obtain ⟨k', ek⟩ := Option.isSome_iff_exists.mp hk.1
    obtain ⟨a, xs, rfl, ta, ra⟩ := r1.tupE
    obtain ⟨x, y, rfl, rx, ry⟩ := ra.two
    have := rx.keyV ek
    subst this
    refine ⟨a :: as, (k', y) :: kvs, rfl, .cons ta.sq hp, ?_⟩
    rw [RpK]
    exact ⟨k', y, kvs, rfl, ek, ry, hr⟩
theorem pairs_tup : ∀ {ds : List D} {ps : List (D × D)} {vs : List V}, prs? ds = some ps → (ps.all fun p => tupKey p.1) = true → Rps K H μ ds vs →
    ∃ (as : List Addr) (kvs : List (List Key × Addr × V)), vs = as.map V.ref ∧ Paired (fun p kv => SqT K H p [V.ref kv.2.1, kv.2.2] ∧ H kv.2.1 = some (.tup (kv.1.map kV))) as kvs ∧ RpT K H μ ps (kvs.map fun x => (x.1, x.2.2))
  | [], ps, vs, h, _, r => by
    simp only [prs?] at h
    cases h
    rw [Rps] at r
    subst r
    exact ⟨[], [], rfl, .nil, by rw [List.map_nil, RpT]⟩
  | d :: ds, ps, vs, h, hk, r => by
    obtain ⟨k, v, ps', rfl, e, rfl⟩ := prs?_cons h
    rw [List.all_cons, Bool.and_eq_true] at hk
    rw [Rps] at r
    obtain ⟨v1, w, rfl, r1, r2⟩ := r
    obtain ⟨as, kvs, rfl, hp, hr⟩ := pairs_tup e hk.2 r2
    obtain ⟨hk1, _⟩ := hk
    dsimp only at hk1
    cases k <;> simp only [tupKey] at hk1 <;> try (cases hk1; done)
    rename_i ks
    obtain ⟨k', ek⟩ := Option.isSome_iff_exists.mp hk1
    obtain ⟨a, xs, rfl, ta, ra⟩ := r1.tupE
    obtain ⟨x, y, rfl, rx, ry⟩ := ra.two
    obtain ⟨b, ws, rfl, tb, rb⟩ := rx.tupE
    have := rb.keysV ek
    subst this
    refine ⟨a :: as, (k', b, y) :: kvs, rfl, .cons ⟨ta.sq, tb⟩ hp, ?_⟩
    rw [List.map_cons, RpT]
    exact ⟨ks, k', y, _, rfl, rfl, ek, ry, hr⟩
theorem RpK.putAll : ∀ {ps : List (D × D)} {kvs : List (Key × V)} {acc : List (D × D)} {av : List (Key × V)}, RpK K H μ ps kvs → KNd acc → RpK K H μ acc av → KNd (Ve.putAll acc ps) ∧ RpK K H μ (Ve.putAll acc ps) (mergeK av kvs)
  | [], kvs, acc, av, h, nd, r => by
    rw [RpK] at h
    subst h
    exact ⟨nd, r⟩
  | p :: ps, kvs, acc, av, h, nd, r => by
    rw [RpK] at h
    obtain ⟨k, v, rs, rfl, h1, h2, h3⟩ := h
    have := RpK.putAll h3 nd.put (r.put h1 h2 nd)
    exact this
def mergeT (kvs more : List (List Key × V)) : List (List Key × V) := more.foldl (fun acc kv => putK acc kv.1 kv.2) kvs
theorem RpT.putAll : ∀ {ps : List (D × D)} {kvs : List (List Key × V)} {acc : List (D × D)} {av : List (List Key × V)}, RpT K H μ ps kvs → KNd acc → RpT K H μ acc av → KNd (Ve.putAll acc ps) ∧ RpT K H μ (Ve.putAll acc ps) (mergeT av kvs)
  | [], kvs, acc, av, h, nd, r => by
    rw [RpT] at h
    subst h
    exact ⟨nd, r⟩
  | p :: ps, kvs, acc, av, h, nd, r => by
    rw [RpT] at h
    obtain ⟨ks, k, v, rs, e0, rfl, h1, h2, h3⟩ := h
    obtain ⟨p1, p2⟩ := p
    have e0 : p1 = .tup ks := e0
    subst e0
    have := RpT.putAll h3 nd.put (r.put h1 h2 nd)
    exact this
theorem KT.putAll : ∀ {kvs : List (List Key × Addr × V)} {us : List (List Key × Addr × Value)} {acc : List (List Key × V)} {av : List (List Key × Addr × Value)}, Paired (fun p q => p.1 = q.1 ∧ p.2.1 = q.2.1 ∧ H p.2.1 = some (.tup (p.1.map kV)) ∧ RelV p.2.2 q.2.2) kvs us → KT H acc av →
    KT H (mergeT acc (kvs.map fun x => (x.1, x.2.2))) (storedAllH av us)
  | _, _, _, _, .nil, r => r
  | _, _, _, _, .cons (a := p) (b := q) h t, r => by
    obtain ⟨h1, h2, h3, h4⟩ := h
    obtain ⟨k, b, u⟩ := q
    obtain ⟨k', b', v⟩ := p
    cases h1
    cases h2
    have := KT.putAll t (r.put _ h3 h4)
    exact this
theorem length_mergeT : ∀ (more acc : List (List Key × V)), (mergeT acc more).length ≤ acc.length + more.length
  | [], acc => Nat.le_refl _
  | p :: more, acc => by
    have h1 := length_mergeT more (putK acc p.1 p.2)
    have h2 := length_putK acc p.1 p.2
    show (mergeT (putK acc p.1 p.2) more).length ≤ _
    rw [List.length_cons]
    omega
end
section
variable {X : Cx} {pins : List (Addr × Obj)} {σ : St} {H : Hp} {s : Shared}
theorem pairs_ofT (I : Inv X pins σ H s) : ∀ {as : List Addr} {kvs : List (List Key × Addr × V)}, Paired (fun p kv => SqT X.K H p [V.ref kv.2.1, kv.2.2] ∧ H kv.2.1 = some (.tup (kv.1.map kV))) as kvs →
    ∃ us : List (List Key × Addr × Value), Paired (fun p q => p.1 = q.1 ∧ p.2.1 = q.2.1 ∧ H p.2.1 = some (.tup (p.1.map kV)) ∧ RelV p.2.2 q.2.2) kvs us ∧ us.length = as.length ∧
      ∀ (j : Nat) (q : List Key × Addr × Value), us[j]? = some q → ∃ b : Addr, as[j]? = some b ∧ PySem.PairAt s.heap b (.ref q.2.1) q.2.2 ∧ (tupleKind (mixKind X.prog X.w)).is s.heap q.1 q.2.1
  | _, _, .nil => ⟨[], .nil, rfl, fun j q e => by simp at e⟩
  | _, _, .cons (a := p) (b := kv) h t => by
    obtain ⟨us, r, hl, hp⟩ := pairs_ofT I t
    obtain ⟨h1, h2⟩ := h
    obtain ⟨its, rv, ht, _⟩ := I.tuple h1
    obtain ⟨u, y, ei, ru, ry⟩ := vals2 rv
    subst ei
    obtain rfl : u = Value.ref kv.2.1 := ru
    refine ⟨(kv.1, kv.2.1, y) :: us, .cons ⟨rfl, rfl, h2, ry⟩ r, by rw [List.length_cons, List.length_cons, hl], fun j q e => ?_⟩
    cases j with
    | zero =>
      have e' : (kv.1, kv.2.1, y) = q := Option.some.inj e
      subst e'
      exact ⟨p, rfl, .inl ht, key_of I.hok h2⟩
    | succ j =>
      obtain ⟨b, e1, e2⟩ := hp j q (by simpa using e)
      exact ⟨b, by simpa using e1, e2⟩
theorem call_dictT (hcalm : X.calm = true) (hu : X.A.units + 64 < cLine) : CallR X (.type "dict") (fun xs H Q => ∃ (a : Addr) (as : List Addr) (kvs : List (List Key × Addr × V)), xs = [.ref a] ∧ SqL X.K H a (as.map V.ref) ∧
    Paired (fun p kv => SqT X.K H p [V.ref kv.2.1, kv.2.2] ∧ H kv.2.1 = some (.tup (kv.1.map kV))) as kvs ∧ ∀ p, H p = none → Q (.ref p) (upd H p (.dT (mergeT [] (kvs.map fun x => (x.1, x.2.2)))))) := by
  intro pins s σ H xs us Q I r q
  obtain ⟨a, as, kvs, ex, hq, hp, q⟩ := q
  subst ex
  obtain ⟨u, eu, rx⟩ := vals1 r
  subst eu
  cases rx
  obtain ⟨its, rv, pl, hz⟩ := I.list hq
  have ei := refs_at rv
  subst ei
  rw [List.length_map] at hz
  obtain ⟨us, rel, hl, hpr⟩ := pairs_ofT I hp
  obtain ⟨o, n, ho, hc, hd, hdat⟩ := pl
  have hk : (kvs.map fun x => (x.1, x.2.2)).length = us.length := by rw [List.length_map]; exact Paired.length rel
  refine PySem.call_dict_pairsH (knd := tupleKind (mixKind X.prog X.w)) (ps := us) (PySem.PairArg.list a (as.map Value.ref).toArray (fun j => as[j]?.getD 0) (us.map fun x => (Value.ref x.2.1, x.2.2))) (I.ok.hd hcalm) ?_ ⟨⟨o, n, ho, hc, hd, hdat⟩, by simp [hl], fun j k v e => ?_⟩ ⟨by simp, fun i k v e => ?_⟩ ?_ (by simp; omega) fun h' tk hd' k => ?_
  · show X.A.units + 1 + 1 < cLine
    omega
  · rw [List.getElem?_map] at e
    cases e2 : us[j]? with
    | none => rw [e2] at e; cases e
    | some q' =>
      rw [e2] at e
      cases e
      obtain ⟨b, e3, e4, _⟩ := hpr j q' e2
      refine ⟨by simp [e3], ?_⟩
      show PySem.PairAt s.heap (as[j]?.getD 0) _ _
      rw [e3]
      exact e4
  · have e : (us.map fun x => (Value.ref x.2.1, x.2.2))[i]? = some (k, v) := e
    rw [List.getElem?_map] at e
    cases e2 : us[i]? with
    | none => rw [e2] at e; cases e
    | some q' =>
      rw [e2] at e
      cases e
      exact ⟨q'.1, q'.2.1, rfl, rfl⟩
  · intro h' hk' x hx
    obtain ⟨i, hi⟩ := List.mem_iff_getElem?.mp hx
    obtain ⟨b, e1, e2, e3⟩ := hpr i x hi
    obtain ⟨o', its', n', g1, g2, g3, g4⟩ := e3
    exact ⟨o', its', n', hk' _ _ (Nat.ne_of_lt (Heap.lt_size g1)) (fun z => nomatch z) g1, g2, g3, g4⟩
  · have hm : (s.heap.objs.size == sysModules) = false := beq_eq_false_iff_ne.mpr (Nat.ne_of_gt I.big)
    have hlen : (mergeT [] (kvs.map fun x => (x.1, x.2.2))).length ≤ sizeLine := by
      refine Nat.le_trans (length_mergeT _ _) ?_
      rw [List.length_nil, Nat.zero_add, hk, hl]
      exact hz
    have h0 := I.hok.fresh (Nat.le_refl s.heap.objs.size)
    obtain ⟨o', es, ep, g1, g2, g3, g4, _, g5⟩ := hd'
    have kt := KT.putAll (H := H) rel (acc := []) (av := []) .nil
    refine ⟨.ref s.heap.objs.size, upd H s.heap.objs.size (.dT (mergeT [] (kvs.map fun x => (x.1, x.2.2)))), I.laid (t' := tk) (fun b o e => k b o (fun z => nomatch z) e) (Nat.le_refl _)
      (show ObjOk X.prog X.w _ _ _ (.dT _) from ⟨hlen, hm, _, kt.keeps fun c ys ec => ?_, o', es, ep, g1, g2, g3, g4, g5⟩), rfl, q _ h0⟩
    rw [upd_ne (ne_of_none ec h0)]
    exact ec
end
section
variable {X : Cx}
theorem n_dict (hu : X.A.units + 65 < cLine) (hc : X.calm = true) : CallR X (.type "dict") (RN X.K gDictL) := fun pins s σ H xs us Q I r ⟨hp, μ, ds, vs, p, d, hp', rh, ex, hn, hl, rs, e, q⟩ => by
  unfold gDictL at e
  split at e
  · rename_i ps ep
    split at e
    · rename_i hk
      cases e
      subst ex
      have fin : ∀ (p' : Addr) (o : HO), H p' = none → (Ro X.K (upd H p' o) (μ ++ [p']) (.dic (putAll [] ps)) (some o)) → Q (.ref p') (upd H p' o) := fun p' o h0 ro => by
        have x4 := Ext.laid rh (o := o) h0
        have rh4 := rh.laid (o := o) h0
        refine q (.ref p') _ (μ ++ [p']) (x4.place h0) (rh4.place (rh.notIn h0) (by rw [upd_same]; exact ro)) ?_
        rw [Rp]
        refine ⟨p', ?_, rfl⟩
        rw [List.getElem?_append_right (by rw [rh.len]; exact Nat.le_refl _), rh.len]
        simp
      rcases Bool.or_eq_true _ _ ▸ hk with hk | hk
      · obtain ⟨as, kvs, rfl, hpr, rk⟩ := pairs_leaf ep hk rs
        refine call_dictP hc pins s σ H _ us Q I r ⟨p, as, kvs, rfl, .inl (.inl hl), hpr, fun p' h0 => fin p' _ h0 ?_⟩
        obtain ⟨nd, rk2⟩ := rk.putAll (acc := []) (av := []) True.intro (by rw [RpK])
        exact ⟨nd, .inl ⟨_, rfl, (rk2.mon (Ext.laid rh h0).m).mon Mon.grow⟩⟩
      · obtain ⟨as, kvs, rfl, hpr, rk⟩ := pairs_tup ep hk rs
        refine call_dictT hc (by omega) pins s σ H _ us Q I r ⟨p, as, kvs, rfl, .inl (.inl hl), hpr, fun p' h0 => fin p' _ h0 ?_⟩
        obtain ⟨nd, rk2⟩ := rk.putAll (acc := []) (av := []) True.intro (by rw [RpT])
        exact ⟨nd, .inr ⟨_, rfl, (rk2.mon (Ext.laid rh h0).m).mon Mon.grow⟩⟩
    · cases e
  · cases e
end
end Ve
namespace Ve
open PySem PySem.Spec L2

def mDict0 : AE := fun _ hp => some (.ref hp.length, hp ++ [.dic []])
section
variable {K : PySem.W.Frag} {H H' : Hp} {μ : List Addr} {hp : Hd}
theorem Mon.looseD {D : Addr} {u o : HO} (h : H D = some u) (n1 : ∀ xs, u ≠ .tup xs) (n2 : ∀ ob xs, u ≠ .frz ob xs) : Mon μ H μ (upd H D o) :=
  ⟨⟨[], by simp⟩, fun a ys e => by rw [upd_ne (fun z => by subst z; rw [h] at e; exact n1 _ (Option.some.inj e))]; exact e, fun a ob ys e => by rw [upd_ne (fun z => by subst z; rw [h] at e; exact n2 _ _ (Option.some.inj e))]; exact e⟩
theorem RelH.looseD (r : RelH K H μ hp) {D : Addr} {u o : HO} (h : H D = some u) (n1 : ∀ xs, u ≠ .tup xs) (n2 : ∀ ob xs, u ≠ .frz ob xs) (hn : D ∉ μ) : RelH K (upd H D o) μ hp :=
  ⟨r.len, r.nd, fun n ob a e1 e2 => by
    rw [upd_ne (fun z => hn (by rw [← z]; exact List.mem_of_getElem? e2))]
    exact (r.obj n ob a e1 e2).mon (Mon.looseD h n1 n2)⟩
theorem Rp.last {p : Addr} (rh : RelH K H μ hp) : Rp K H' (μ ++ [p]) (.ref hp.length) (.ref p) := by
  rw [Rp]
  refine ⟨p, ?_, rfl⟩
  rw [List.getElem?_append_right (by rw [rh.len]; exact Nat.le_refl _), rh.len]
  simp
end
section
variable {X : Cx} {pos : Pos}
theorem de_dict0 : DE X (.Dict [] [] pos) mDict0 := PE.imp pe_dnewK fun σ H Q ⟨ls, hp, μ, d, hp', rl, rh, e, q⟩ p h0 => by
  cases e
  have x4 := Ext.laid rh (o := .dK []) h0
  exact q (.ref p) _ (μ ++ [p]) (x4.place h0) ((rh.laid h0).place (rh.notIn h0) (by rw [upd_same]; exact ⟨True.intro, .inl ⟨[], rfl, by rw [RpK]⟩⟩)) (Rp.last rh)
end

def mPairs : List (AE × AE) → Ls → Hd → Option (List (D × D) × Hd)
  | [], _, hp => some ([], hp)
  | (fk, fv) :: r, ls, hp => match fk ls hp with
    | some (k, hp1) => match fv ls hp1 with
      | some (v, hp2) => match mPairs r ls hp2 with
        | some (ps, hp3) => some ((k, v) :: ps, hp3)
        | none => none
      | none => none
    | none => none
def mDict (m : List (AE × AE)) : AE := fun ls hp => match mPairs m ls hp with
  | some (ps, hp1) => if (((ps.all fun p => (toKey p.1).isSome) || ps.all fun p => tupKey p.1) && decide (ps.length ≤ 15)) = true then some (.ref hp1.length, hp1 ++ [.dic (putAll [] ps)]) else none
  | none => none
def RpP (K : PySem.W.Frag) (H : Hp) (μ : List Addr) : List (D × D) → List (V × V) → Prop
  | [], vs => vs = []
  | p :: ps, vs => ∃ x y r, vs = (x, y) :: r ∧ Rp K H μ p.1 x ∧ Rp K H μ p.2 y ∧ RpP K H μ ps r
def trsOf (K : PySem.W.Frag) (m : List (AE × AE)) : List (TE × TE) := m.map fun p => (tD K p.1, tD K p.2)
theorem tPairs_of {K : PySem.W.Frag} {σ : L2.St} : ∀ {m : List (AE × AE)} {ls : Ls} {hp hp' : Hd} {H : Hp} {μ : List Addr} {ps : List (D × D)} {Q : List (V × V) → Hp → Prop}, Rl K H μ ls σ → RelH K H μ hp → mPairs m ls hp = some (ps, hp') →
    (∀ vs H' μ', Ext μ H μ' H' → RelH K H' μ' hp' → RpP K H' μ' ps vs → Q vs H') → tPairs (trsOf K m) σ H Q
  | [], ls, hp, hp', H, μ, ps, Q, rl, rh, e, q => by
    simp only [mPairs] at e
    cases e
    exact q [] H μ Ext.refl rh rfl
  | (fk, fv) :: m, ls, hp, hp', H, μ, ps, Q, rl, rh, e, q => by
    simp only [mPairs] at e
    split at e
    · rename_i k hp1 e1
      split at e
      · rename_i v hp2 e2
        split at e
        · rename_i ps' hp3 e3
          cases e
          refine ⟨ls, hp, μ, k, hp1, rl, rh, e1, fun x H1 μ1 x1 rh1 r1 => ⟨ls, hp1, μ1, v, hp2, rl.ext x1, rh1, e2, fun y H2 μ2 x2 rh2 r2 => ?_⟩⟩
          exact tPairs_of (m := m) ((rl.ext x1).ext x2) rh2 e3 fun vs H3 μ3 x3 rh3 r3 => q _ H3 μ3 ((x1.trans x2).trans x3) rh3 ⟨x, y, vs, rfl, (r1.ext x2).ext x3, r2.ext x3, r3⟩
        · cases e
      · cases e
    · cases e
def tDispT (trs : List (TE × TE)) : TE := fun σ H Q => ∀ p, H p = none → tPairs trs σ (upd H p (.dT [])) fun ps H2 => H2 p = some (.dT []) ∧ ∃ kvs : List (List Key × Addr × V), ps = kvs.map (fun x => (V.ref x.2.1, x.2.2)) ∧ (∀ x ∈ kvs, H2 x.2.1 = some (.tup (x.1.map kV))) ∧ kvs.length ≤ 15 ∧
  Q (.ref p) (upd H2 p (.dT (mergeT [] (kvs.map fun x => (x.1, x.2.2)))))
section
variable {X : Cx} {pins : List (Addr × Obj)} {σ : L2.St}
theorem storeAllT {A : Around} {E : Value → Shared → Prop} (hu : A.units < cLine) {p : Addr} : ∀ {kvs : List (List Key × Addr × V)} {ws : List (Value × Value)} {s : Shared} {H : Hp} {acc : List (List Key × V)} {Q : PUnit → Shared → Prop}, Inv X pins σ H s → H p = some (.dT acc) →
    VV (kvs.map fun x => (V.ref x.2.1, x.2.2)) ws → (∀ x ∈ kvs, H x.2.1 = some (.tup (x.1.map kV))) → acc.length + kvs.length ≤ sizeLine → (∀ s', Inv X pins σ (upd H p (.dT (mergeT acc (kvs.map fun x => (x.1, x.2.2))))) s' → Q PUnit.unit s') →
    wpAny (model X.prog X.w) A (storeAll p ws) Q E s
  | [], ws, s, H, acc, Q, I, hp, r, hk, hz, q => by
    cases r
    have e : upd H p (.dT (mergeT acc [])) = H := by
      funext b
      by_cases hb : b = p
      · rw [hb, upd_same, hp]
        rfl
      · rw [upd_ne hb]
    unfold storeAll
    refine wpAny_pure (q s ?_)
    rw [List.map_nil, e]
    exact I
  | x :: kvs, ws, s, H, acc, Q, I, hp, r, hk, hz, q => by
    rw [List.map_cons] at r
    cases r with
    | @cons _ b _ ws' h t =>
      obtain ⟨u1, u2⟩ := b
      obtain ⟨r1, r2⟩ := h
      obtain rfl : u1 = Value.ref x.2.1 := r1
      have eb := hk x List.mem_cons_self
      obtain ⟨z, hd, xs, rel, dd⟩ := dt_of I.hok hp
      have hz' : xs.length ≤ sizeLine := by rw [← Paired.length rel]; exact z
      have hlp := length_putK acc x.1 x.2.2
      rw [List.length_cons] at hz
      have hl : (putK acc x.1 x.2.2).length ≤ sizeLine := by omega
      unfold storeAll
      rw [List.forIn_cons]
      refine wpAny_bind (wpAny_bind (wpAny_dictSet_heap (hsz := hz') (knd := tupleKind (mixKind X.prog X.w)) hu (key_of I.hok eb) dd fun h' dd' hs => wpAny_pure ?_))
      obtain ⟨o, es, ep, ho, h2, h3, h4, _, h5⟩ := dd'
      have I2 : Inv X pins σ (upd H p (.dT (putK acc x.1 x.2.2))) { s with heap := h', toks := s.toks + (tupleKind (mixKind X.prog X.w)).draws x.1 } :=
        d_write I (by rw [hp]; exact True.intro) hs ⟨o, ho⟩ ⟨hl, hd, _, (rel.put x.1 eb r2).keeps fun c ys ec => by
          rw [upd_ne (ne_of ec hp (fun z => nomatch z))]
          exact ec, o, es, ep, ho, h2, h3, h4, h5⟩
      have ih := storeAllT (A := A) (E := E) hu (p := p) (kvs := kvs) (acc := putK acc x.1 x.2.2) (Q := Q) I2 upd_same t (fun y hy => by
        have ec := hk y (List.mem_cons_of_mem _ hy)
        rw [upd_ne (ne_of ec hp (fun z => nomatch z))]
        exact ec) (by omega) fun s' I3 => q s' (by
          have e : upd (upd H p (.dT (putK acc x.1 x.2.2))) p (.dT (mergeT (putK acc x.1 x.2.2) (kvs.map fun x => (x.1, x.2.2)))) = upd H p (.dT (mergeT acc ((x :: kvs).map fun x => (x.1, x.2.2)))) := by
            funext b
            by_cases hb : b = p
            · rw [hb, upd_same, upd_same]
              rfl
            · rw [upd_ne hb, upd_ne hb, upd_ne hb]
          rw [← e]
          exact I3)
      exact ih
theorem pe_dispT {pos : Pos} {keys : List (Option Expr)} {values : List Expr} {trs : List (TE × TE)} (h : PPs X pos keys values trs) (hu : X.A.units + 64 < cLine) (hall : keys.all (·.isSome) = true) (hl : keys.length = values.length) (h0 : keys ≠ [])
    (h15 : keys.length ≤ 15) : PE X (.Dict keys values pos) (tDispT trs) := by
  refine ⟨fun pins s σ H Q I q => ?_⟩
  have hn := I.hok.fresh (Nat.le_refl s.heap.objs.size)
  have I1 := I.laid (a := s.heap.objs.size) (o := .dT []) (h' := s.heap.push { cls := .type "dict", data := .dict #[] }) (t' := s.toks) (fun _ _ q => Heap.get?_push_of_some _ q) (Nat.le_refl _) (dt_empty s.heap I.big)
  refine wpAny_Dict_any hall hl h0 h15 (thn (h.run pins _ σ _ _ I1 (q _ hn)) fun ws s2 ⟨ps, H2, I2, rel, e, kvs, ep, hk, lk, q2⟩ => ?_)
  subst ep
  exact storeAllT (by omega) I2 e rel hk (by rw [List.length_nil, sizeLine_eq]; omega) fun s' I3 => ⟨.ref s.heap.objs.size, _, I3, rfl, q2⟩
abbrev DPs (X : Cx) (pos : Pos) (keys : List (Option Expr)) (values : List Expr) (m : List (AE × AE)) : Prop := PPs X pos keys values (trsOf X.K m)
theorem dp_nil {pos : Pos} : DPs X pos [] [] [] := pps_nil
theorem dp_cons {pos : Pos} {k v : Expr} {ks : List (Option Expr)} {vs : List Expr} {fk fv : AE} {m : List (AE × AE)} (hk : DE X k fk) (hv : DE X v fv) (hr : DPs X pos ks vs m) : DPs X pos (some k :: ks) (v :: vs) ((fk, fv) :: m) := pps_cons hk hv hr
theorem RpP.leaf {K : PySem.W.Frag} {H : Hp} {μ : List Addr} : ∀ {ps : List (D × D)} {vs : List (V × V)}, (ps.all fun p => (toKey p.1).isSome) = true → RpP K H μ ps vs → ∃ kvs : List (Key × V), vs = kvs.map (fun kv => (kV kv.1, kv.2)) ∧ RpK K H μ ps kvs
  | [], vs, _, r => by
    have r : vs = [] := r
    subst r
    exact ⟨[], rfl, by rw [RpK]⟩
  | p :: ps, vs, hk, r => by
    obtain ⟨x, y, rs, rfl, r1, r2, r3⟩ := r
    rw [List.all_cons, Bool.and_eq_true] at hk
    obtain ⟨kvs, rfl, rk⟩ := RpP.leaf hk.2 r3
    obtain ⟨k, ek⟩ := Option.isSome_iff_exists.mp hk.1
    have := r1.keyV ek
    subst this
    refine ⟨(k, y) :: kvs, rfl, ?_⟩
    rw [RpK]
    exact ⟨k, y, kvs, rfl, ek, r2, rk⟩
theorem RpP.tup {K : PySem.W.Frag} {H : Hp} {μ : List Addr} : ∀ {ps : List (D × D)} {vs : List (V × V)}, (ps.all fun p => tupKey p.1) = true → RpP K H μ ps vs →
    ∃ kvs : List (List Key × Addr × V), vs = kvs.map (fun x => (V.ref x.2.1, x.2.2)) ∧ (∀ x ∈ kvs, H x.2.1 = some (.tup (x.1.map kV))) ∧ RpT K H μ ps (kvs.map fun x => (x.1, x.2.2))
  | [], vs, _, r => by
    have r : vs = [] := r
    subst r
    exact ⟨[], rfl, (fun _ h => nomatch h), by rw [List.map_nil, RpT]⟩
  | p :: ps, vs, hk, r => by
    obtain ⟨x, y, rs, rfl, r1, r2, r3⟩ := r
    rw [List.all_cons, Bool.and_eq_true] at hk
    obtain ⟨kvs, rfl, hh, rk⟩ := RpP.tup hk.2 r3
    obtain ⟨hk1, _⟩ := hk
    obtain ⟨k, w⟩ := p
    dsimp only at hk1 r1 r2
    cases k <;> simp only [tupKey] at hk1 <;> try (cases hk1; done)
    rename_i ks
    obtain ⟨k', ek⟩ := Option.isSome_iff_exists.mp hk1
    obtain ⟨b, ws, rfl, tb, rb⟩ := r1.tupE
    have := rb.keysV ek
    subst this
    refine ⟨(k', b, y) :: kvs, rfl, fun x hx => ?_, ?_⟩
    · rcases List.mem_cons.mp hx with z | z
      · rw [z]
        exact tb
      · exact hh x z
    · rw [List.map_cons, RpT]
      exact ⟨ks, k', y, _, rfl, rfl, ek, r2, rk⟩
theorem RpP.len {K : PySem.W.Frag} {H : Hp} {μ : List Addr} : ∀ {ps : List (D × D)} {vs : List (V × V)}, RpP K H μ ps vs → vs.length = ps.length
  | [], vs, r => by
    have r : vs = [] := r
    rw [r]
    rfl
  | p :: ps, vs, r => by
    obtain ⟨x, y, rs, rfl, r1, r2, r3⟩ := r
    rw [List.length_cons, List.length_cons, RpP.len r3]
theorem de_dict {pos : Pos} {keys : List (Option Expr)} {values : List Expr} {m : List (AE × AE)} (hu : X.A.units + 64 < cLine) (h : DPs X pos keys values m) (hall : keys.all (·.isSome) = true := by rfl) (hl : keys.length = values.length := by rfl) (h0 : keys ≠ [] := by simp)
    (h15 : keys.length ≤ 15 := by decide) : DE X (.Dict keys values pos) (mDict m) :=
  PE.imp (PE.or (pe_disp h hall hl h0 h15) (pe_dispT h hu hall hl h0 h15)) fun σ H Q ⟨ls, hp, μ, d, hp', rl, rh, e, q⟩ => by
    unfold mDict at e
    split at e
    · rename_i ps hp1 e1
      split at e
      · rename_i hk
        cases e
        rw [Bool.and_eq_true] at hk
        have h15' : ps.length ≤ 15 := of_decide_eq_true hk.2
        rcases Bool.or_eq_true _ _ ▸ hk.1 with hk | hk
        · refine .inl fun p hp0 => ?_
          have x0 := Ext.laid rh (o := .dK []) hp0
          refine tPairs_of (rl.ext x0) (rh.laid hp0) e1 fun vs H2 μ2 x2 rh2 r2 => ?_
          have hH2 : H2 p = some (.dK []) := x2.keep _ _ (rh.notIn hp0) upd_same
          have hn2 : p ∉ μ2 := x2.new _ _ (rh.notIn hp0) upd_same
          obtain ⟨kvs, rfl, rk⟩ := r2.leaf hk
          refine ⟨hH2, kvs, rfl, by rw [← rk.len] at h15'; exact h15', ?_⟩
          obtain ⟨nd, rk2⟩ := rk.putAll (acc := []) (av := []) True.intro (by rw [RpK])
          have rh3 := rh2.looseD (o := .dK (mergeK [] kvs)) hH2 (fun _ z => nomatch z) (fun _ _ z => nomatch z) hn2
          exact q (.ref p) _ (μ2 ++ [p]) (((x0.trans x2).loose hp0).place hp0) (rh3.place hn2 (by rw [upd_same]; exact ⟨nd, .inl ⟨_, rfl, (rk2.mon (Mon.looseD hH2 (fun _ z => nomatch z) (fun _ _ z => nomatch z))).mon Mon.grow⟩⟩)) (Rp.last rh2)
        · refine .inr fun p hp0 => ?_
          have x0 := Ext.laid rh (o := .dT []) hp0
          refine tPairs_of (rl.ext x0) (rh.laid hp0) e1 fun vs H2 μ2 x2 rh2 r2 => ?_
          have hH2 : H2 p = some (.dT []) := x2.keep _ _ (rh.notIn hp0) upd_same
          have hn2 : p ∉ μ2 := x2.new _ _ (rh.notIn hp0) upd_same
          obtain ⟨kvs, rfl, hh, rk⟩ := r2.tup hk
          have hln := rk.len
          rw [List.length_map] at hln
          refine ⟨hH2, kvs, rfl, hh, by rw [hln]; exact h15', ?_⟩
          obtain ⟨nd, rk2⟩ := rk.putAll (acc := []) (av := []) True.intro (by rw [RpT])
          have rh3 := rh2.looseD (o := .dT (mergeT [] (kvs.map fun x => (x.1, x.2.2)))) hH2 (fun _ z => nomatch z) (fun _ _ z => nomatch z) hn2
          exact q (.ref p) _ (μ2 ++ [p]) (((x0.trans x2).loose hp0).place hp0) (rh3.place hn2 (by rw [upd_same]; exact ⟨nd, .inr ⟨_, rfl, (rk2.mon (Mon.looseD hH2 (fun _ z => nomatch z) (fun _ _ z => nomatch z))).mon Mon.grow⟩⟩)) (Rp.last rh2)
      · cases e
    · cases e
end
end Ve
namespace Ve
open PySem PySem.Spec L2

def unl (n : Nat) (hp : Hd) : Option Hd := match hp[n]? with
  | some (.dicL kvs) => some (hp.set n (.dic kvs))
  | _ => none
def mLock (fd : AE) (f : AA) : AA := fun ls hp => match fd ls hp with
  | some (.ref n, _) => match hp[n]? with
    | some (.dic kvs) => match f ls (hp.set n (.dicL kvs)) with
      | some (ds, hp1) => match unl n hp1 with
        | some hp2 => some (ds, hp2)
        | none => none
      | none => none
    | _ => none
  | _ => none
def sLock (fd : AE) (f : AS) : AS := fun ls hp => match fd ls hp with
  | some (.ref n, _) => match hp[n]? with
    | some (.dic kvs) => match f ls (hp.set n (.dicL kvs)) with
      | some (fl, ls1, hp1) => match unl n hp1 with
        | some hp2 => some (fl, ls1, hp2)
        | none => none
      | none => none
    | _ => none
  | _ => none
def mIK (f : AE) : AI := fun ls hp => match f ls hp with
  | some (.ref n, hp1) => match hp1[n]? with
    | some (.dicL kvs) => some (kvs.map (·.1), [], hp1)
    | _ => none
  | _ => none
section
variable {K : PySem.W.Frag} {H H' : Hp} {μ μ' : List Addr} {hp hp1 hp2 : Hd} {n : Nat} {a : Addr} {kvs : List (D × D)}
theorem lock_in (rh : RelH K H μ hp) (eh : hp[n]? = some (.dic kvs)) : ∃ a u, μ[n]? = some a ∧ H a = some u ∧ Mut (some u) ∧ (∀ xs, u ≠ .tup xs) ∧ (∀ ob w, u ≠ .frz ob w) ∧ ((∃ vs, u = .dK vs) ∨ ∃ vs, u = .dT vs) ∧
    ∀ od, RelH K (upd H a (.frz od u)) μ (hp.set n (.dicL kvs)) ∧ Ext μ H μ (upd H a (.frz od u)) := by
  obtain ⟨a, ea, q⟩ := rh.at_ eh
  obtain ⟨nd, ⟨vs, ev, r⟩ | ⟨vs, ev, r⟩⟩ := q
  · refine ⟨a, .dK vs, ea, ev, True.intro, (fun _ z => nomatch z), (fun _ _ z => nomatch z), .inl ⟨vs, rfl⟩, fun od => ?_⟩
    have mo : Mon μ H μ (upd H a (.frz od (.dK vs))) := Mon.looseD ev (fun _ z => nomatch z) (fun _ _ z => nomatch z)
    exact rh.put (o := .dicL kvs) ea ⟨nd, .inl ⟨_, _, rfl, r.mon mo⟩⟩
  · refine ⟨a, .dT vs, ea, ev, True.intro, (fun _ z => nomatch z), (fun _ _ z => nomatch z), .inr ⟨vs, rfl⟩, fun od => ?_⟩
    have mo : Mon μ H μ (upd H a (.frz od (.dT vs))) := Mon.looseD ev (fun _ z => nomatch z) (fun _ _ z => nomatch z)
    exact rh.put (o := .dicL kvs) ea ⟨nd, .inr ⟨_, _, rfl, r.mon mo⟩⟩
theorem lock_out {od : Obj} {u : HO} (ha : μ[n]? = some a) (e0 : H a = some u) (hn1 : ∀ xs, u ≠ .tup xs) (hn2 : ∀ ob w, u ≠ .frz ob w) (hkt : (∃ vs, u = .dK vs) ∨ ∃ vs, u = .dT vs) (x : Ext μ (upd H a (.frz od u)) μ' H') (rh : RelH K H' μ' hp1) (eu : unl n hp1 = some hp2) :
    H' a = some (.frz od u) ∧ RelH K (upd H' a u) μ' hp2 ∧ Mon μ' H' μ' (upd H' a u) ∧ Ext μ H μ' (upd H' a u) := by
  have ef : H' a = some (.frz od u) := x.scrs a od u upd_same
  have ea : μ'[n]? = some a := x.m.at_ ha
  have ham : a ∈ μ := List.mem_of_getElem? ha
  have mo : Mon μ' H' μ' (upd H' a u) := ⟨⟨[], by simp⟩, fun b ys e => by rw [upd_ne (fun z => by subst z; rw [ef] at e; cases e)]; exact e, fun b ob ys e => by
    rw [upd_ne (fun z => by
      subst z
      rw [ef] at e
      cases e
      rcases hkt with ⟨_, z⟩ | ⟨_, z⟩ <;> cases z)]
    exact e⟩
  refine ⟨ef, ?_, mo, ⟨x.pre, fun b o hb e => x.new b o hb (by rw [upd_ne (fun z => hb (by rw [z]; exact ham))]; exact e), fun b o hb e => ?_, fun b ys e => ?_, fun b ob w e => ?_⟩⟩
  · unfold unl at eu
    split at eu
    · rename_i kvs' eh
      cases eu
      refine ⟨by simp [rh.len], rh.nd, fun m ob b e1 e2 => ?_⟩
      by_cases hm : m = n
      · subst hm
        rw [ea] at e2
        cases e2
        have hl : m < hp1.length := (List.getElem?_eq_some_iff.mp eh).1
        rw [List.getElem?_set_self hl] at e1
        cases e1
        rw [upd_same]
        obtain ⟨nd, ⟨o, vs, ev, r⟩ | ⟨o, vs, ev, r⟩⟩ := rh.obj m _ a eh ea
        · rw [ef] at ev
          cases ev
          exact ⟨nd, .inl ⟨vs, rfl, r.mon mo⟩⟩
        · rw [ef] at ev
          cases ev
          exact ⟨nd, .inr ⟨vs, rfl, r.mon mo⟩⟩
      · rw [List.getElem?_set_ne (Ne.symm hm)] at e1
        have hb : b ≠ a := fun z => by
          subst z
          obtain ⟨h1, h2⟩ := List.getElem?_eq_some_iff.mp ea
          obtain ⟨h3, h4⟩ := List.getElem?_eq_some_iff.mp e2
          exact hm ((List.getElem_inj rh.nd).mp (h4.trans h2.symm))
        rw [upd_ne hb]
        exact (rh.obj m ob b e1 e2).mon mo
    · cases eu
  · have hne : b ≠ a := fun z => hb (by rw [z]; exact ham)
    rw [upd_ne hne]
    exact x.keep b o hb (by rw [upd_ne hne]; exact e)
  · have hne : b ≠ a := fun z => by
      subst z
      rw [e0] at e
      exact hn1 _ (Option.some.inj e)
    rw [upd_ne hne]
    exact x.tups b ys (by rw [upd_ne hne]; exact e)
  · have hne : b ≠ a := fun z => by
      subst z
      rw [e0] at e
      exact hn2 _ _ (Option.some.inj e)
    rw [upd_ne hne]
    exact x.scrs b ob w (by rw [upd_ne hne]; exact e)
end
section
variable {X : Cx} {e a b tg : Expr} {es : List Expr} {fa fb fd : AE} {fl fm : AA} {fr : AA} {fs : AS} {pos : Pos} {st : Stmt}
theorem le_lock (h : LE X e fl) : LE X e (mLock fd fl) := PE.imp (pe_lock h) fun σ H Q ⟨ls, hp, μ, ds, hp', rl, rh, e, q⟩ => by
  unfold mLock at e
  split at e
  · rename_i n hp0 e0
    split at e
    · rename_i kvs eh
      split at e
      · rename_i ds' hp1 e1
        split at e
        · rename_i hp2 e2
          cases e
          obtain ⟨a, u, ea, ev, mu, n1, n2, kt, lk⟩ := lock_in rh eh
          refine ⟨a, u, ev, mu, fun od => ?_⟩
          obtain ⟨rh1, x1⟩ := lk od
          refine ⟨ls, _, μ, ds, hp1, rl.ext x1, rh1, e1, fun p vs H' μ' x2 rh2 h0 hn hl r2 => ?_⟩
          obtain ⟨o1, o2, o3, o4⟩ := lock_out ea ev n1 n2 kt x2 rh2 e2
          have hne : p ≠ a := fun z => by
            subst z
            rw [upd_same] at h0
            cases h0
          refine ⟨o1, q p vs _ μ' o4 o2 (by rw [upd_ne hne] at h0; exact h0) hn (by rw [upd_ne hne]; exact hl) (r2.mon o3)⟩
        · cases e
      · cases e
    · cases e
  · cases e
theorem En.unl {K : PySem.W.Frag} {Dn : Ends} {fl : Fl} {ls' : Ls} {H1 H2 : Hp} {μ' : List Addr} {P : Prop} {H' : Hp} {a : Addr} {u : HO} {od : Obj} (h : En K Dn fl ls' (upd H' a u) μ') (ef : H' a = some (.frz od u)) (mo : Mon μ' H' μ' (upd H' a u)) :
    En K ⟨fun σ' H' => H' a = some (.frz od u) ∧ Dn.nx σ' (upd H' a u), fun v H' => H' a = some (.frz od u) ∧ Dn.rt v (upd H' a u), fun σ' H' => H' a = some (.frz od u) ∧ Dn.bk σ' (upd H' a u), fun σ' H' => H' a = some (.frz od u) ∧ Dn.ct σ' (upd H' a u)⟩ fl ls' H' μ' := by
  cases fl with
  | nx => exact fun σ' r => ⟨ef, h σ' (r.mon mo)⟩
  | rt d => exact fun v r => ⟨ef, h v (r.mon mo)⟩
  | bk => exact fun σ' r => ⟨ef, h σ' (r.mon mo)⟩
  | ct => exact fun σ' r => ⟨ef, h σ' (r.mon mo)⟩
theorem ds_lock (h : DS X st fs) : DS X st (sLock fd fs) := PS.imp (ps_lock h) fun Dn σ H ⟨ls, hp, μ, fl, ls', hp', rl, rh, e, q⟩ => by
  unfold sLock at e
  split at e
  · rename_i n hp0 e0
    split at e
    · rename_i kvs eh
      split at e
      · rename_i fl' ls1 hp1 e1
        split at e
        · rename_i hp2 e2
          cases e
          obtain ⟨a, u, ea, ev, mu, n1, n2, kt, lk⟩ := lock_in rh eh
          refine ⟨a, u, ev, mu, fun od => ?_⟩
          obtain ⟨rh1, x1⟩ := lk od
          refine ⟨ls, _, μ, fl, ls', hp1, rl.ext x1, rh1, e1, fun H' μ' x2 rh2 => ?_⟩
          obtain ⟨o1, o2, o3, o4⟩ := lock_out ea ev n1 n2 kt x2 rh2 e2
          exact En.unl (H1 := H') (H2 := H') (P := True) (q _ μ' o4 o2) o1 o3
        · cases e
      · cases e
    · cases e
  · cases e
theorem di_keys (h : DE X e fa) : DI X tg e (mIK fa) := PI.imp (pi_keys h) fun σ H R ⟨ls, hp, μ, items, gd, hp', rl, rh, e, q⟩ => by
  unfold mIK at e
  split at e
  · rename_i n hp1 e1
    split at e
    · rename_i kvs eh
      cases e
      refine ⟨ls, hp, μ, _, hp', rl, rh, e1, fun v H1 μ1 x1 rh1 r1 => ?_⟩
      obtain ⟨a, ea, rfl⟩ := r1.refE
      obtain ⟨nd, ⟨o, vs, ev, rk⟩ | ⟨o, vs, ev, rk⟩⟩ := rh1.dicL ea eh
      · refine ⟨a, o, rfl, .inl ⟨vs, ev, q _ H1 μ1 x1 rh1 ?_⟩⟩
        intro i H2 μ2 hp2 x2 rh2 _
        have ev2 : H2 a = some (.frz o (.dK vs)) := x2.scrs _ _ _ ev
        refine ⟨fun hi => ⟨ev2, by rw [rk.len]; simpa using hi⟩, fun hi => ⟨⟨ev2, by rw [rk.len]; simpa using hi⟩, fun x H3 hy => ?_⟩⟩
        obtain ⟨rfl, k, w, e4, rfl⟩ := hy
        obtain ⟨p, e5, e6, _⟩ := rk.at_ e4
        exact ⟨p.1, by rw [List.getElem?_map, e5]; rfl, Ext.refl, rh2, Rp.ofKey e6⟩
      · refine ⟨a, o, rfl, .inr ⟨vs, ev, q _ H1 μ1 x1 rh1 ?_⟩⟩
        intro i H2 μ2 hp2 x2 rh2 _
        have ev2 : H2 a = some (.frz o (.dT vs)) := x2.scrs _ _ _ ev
        refine ⟨fun hi => ⟨ev2, by rw [rk.len]; simpa using hi⟩, fun hi => ⟨⟨ev2, by rw [rk.len]; simpa using hi⟩, fun x H3 hy => ?_⟩⟩
        obtain ⟨rfl, k, w, qa, e4, rfl, e7⟩ := hy
        obtain ⟨p, dks, e5, e6, e8, _⟩ := rk.at_ e4
        refine ⟨p.1, by rw [List.getElem?_map, e5]; rfl, Ext.refl, rh2, ?_⟩
        rw [e6]
        exact Rp.tup e7 (Rps.ofKeys e8)
    · cases e
  · cases e
end
end Ve
namespace Ve
open PySem PySem.Spec L2

def tupOf : D → Option (List D)
  | .tup ds => some ds
  | .wt ds => some ds
  | _ => none
theorem tupOf_some {K : PySem.W.Frag} {H : Hp} {μ : List Addr} {d : D} {ds : List D} {v : V} (h : tupOf d = some ds) (r : Rp K H μ d v) : ∃ a vs, v = .ref a ∧ (TpAt H a vs ∨ WtAt K a vs) ∧ Rps K H μ ds vs := by
  cases d <;> simp only [tupOf] at h <;> try (cases h; done)
  · cases h
    obtain ⟨a, vs, e, t, rs⟩ := r.tupE
    exact ⟨a, vs, e, .inl t, rs⟩
  · cases h
    obtain ⟨a, vs, e, t, rs⟩ := r.wtE
    exact ⟨a, vs, e, .inr t, rs⟩
def zipD : List D → List D → List D
  | x :: xs, y :: ys => .tup [x, y] :: zipD xs ys
  | _, _ => []
theorem zipD_length : ∀ xs ys : List D, (zipD xs ys).length = min xs.length ys.length
  | [], _ => by simp [zipD]
  | _ :: _, [] => by simp [zipD]
  | x :: xs, y :: ys => by
    rw [zipD, List.length_cons, zipD_length xs ys, List.length_cons, List.length_cons]
    omega
theorem zipD_at : ∀ {xs ys : List D} {i : Nat} {x y : D}, xs[i]? = some x → ys[i]? = some y → (zipD xs ys)[i]? = some (.tup [x, y])
  | [], _, i, x, y, h, _ => by simp at h
  | _ :: _, [], i, x, y, _, h => by simp at h
  | a :: xs, b :: ys, 0, x, y, h1, h2 => by
    simp at h1 h2
    subst h1; subst h2
    rfl
  | a :: xs, b :: ys, i + 1, x, y, h1, h2 => by
    rw [zipD, List.getElem?_cons_succ]
    exact zipD_at (by simpa using h1) (by simpa using h2)
def mZip (fa fb : AE) : AI := fun ls hp => match fa ls hp with
  | some (x, hp1) => match fb ls hp1 with
    | some (y, hp2) => match tupOf x, tupOf y with
      | some xs, some ys => some (zipD xs ys, [], hp2)
      | _, _ => match x, y with
        | .ref n, .ref m => match hp2[n]?, hp2[m]? with
          | some (.lst xs), some (.lst ys) => some (zipD xs ys, [(n, xs), (m, ys)], hp2)
          | _, _ => none
        | _, _ => none
    | none => none
  | none => none
section
variable {X : Cx} {e a b tg : Expr} {es elts : List Expr} {fa fb fd : AE} {fl fm : AA} {fr : AA} {fs : AS} {pos tpos : Pos} {kk : Nat}
theorem gdOk_two {n m : Nat} {xs ys : List D} {hp : Hd} (h : gdOk [(n, xs), (m, ys)] hp = true) : hp[n]? = some (.lst xs) ∧ hp[m]? = some (.lst ys) := by
  have h1 : gdOk [(n, xs)] hp = true ∧ gdOk [(m, ys)] hp = true := by
    simp only [gdOk, Bool.and_eq_true, Bool.and_true] at h ⊢
    exact h
  exact ⟨gdOk_one h1.1, gdOk_one h1.2⟩
theorem di_zip {p : Pos} (hg : Gl X "zip") (hm : X.mg "zip" = none) (ha : DE X a fa) (hb : DE X b fb)
    (hs0 : starEach [b] X.env = (false, eval b X.env) :: starEach [] X.env := by rfl)
    (hs : starEach [a, b] X.env = (false, eval a X.env) :: starEach [b] X.env := by rfl) (hpl : (backTo pos (starEach [b] X.env)).any (·.1) = false := by rfl) :
    DI X (.Tuple elts kk tpos) (.Call (.Name "zip" p) [a, b] [] pos) (mZip fa fb) :=
  PI.imp (RZ.pi_zipA hg hm (pa_cons ha (pa_cons hb pa_nil hs0) hs) hs hpl) fun σ H R ⟨ls, hp, μ, items, gd, hp', rl, rh, e, q⟩ => by
    unfold mZip at e
    split at e
    · rename_i x hp1 e1
      split at e
      · rename_i y hp2 e2
        refine ⟨ls, hp, μ, x, hp1, rl, rh, e1, fun v1 H1 μ1 x1 rh1 r1 => ⟨ls, hp1, μ1, y, hp2, rl.ext x1, rh1, e2, fun v2 H2 μ2 x2 rh2 r2 => ?_⟩⟩
        have x12 := x1.trans x2
        split at e
        · rename_i xs ys e3 e4
          cases e
          obtain ⟨a, vs, rfl, ta, ra⟩ := tupOf_some e3 (r1.ext x2)
          obtain ⟨b, ws, rfl, tb, rb⟩ := tupOf_some e4 r2
          have qa : ∀ {H3 : Hp} {μ3 : List Addr}, Ext μ2 H2 μ3 H3 → SqT X.K H3 a vs := fun x3 => ta.elim (fun t => (t.ext x3).sq) fun t => t.sq
          have qb : ∀ {H3 : Hp} {μ3 : List Addr}, Ext μ2 H2 μ3 H3 → SqT X.K H3 b ws := fun x3 => tb.elim (fun t => (t.ext x3).sq) fun t => t.sq
          refine ⟨a, b, vs, ws, rfl, .inr ⟨qa Ext.refl, qb Ext.refl, q _ H2 μ2 x12 rh2 ?_⟩⟩
          intro i H3 μ3 hp3 x3 rh3 _
          have q3 := qa x3
          have q4 := qb x3
          have l1 := ra.len
          have l2 := rb.len
          rw [zipD_length]
          refine ⟨fun hi => ⟨vs, ws, q3, q4, by omega⟩, fun hi => ?_⟩
          obtain ⟨v, ev, rv⟩ := ra.get (List.getElem?_eq_getElem (show i < xs.length by omega))
          obtain ⟨w, ew, rw'⟩ := rb.get (List.getElem?_eq_getElem (show i < ys.length by omega))
          refine ⟨⟨vs, ws, v, w, q3, q4, ev, ew⟩, fun u H4 hy => ?_⟩
          obtain ⟨T, u1, u2, rfl, hT, rfl, h1, h2⟩ := hy
          have := h1 vs q3
          rw [ev] at this
          cases this
          have := h2 ws q4
          rw [ew] at this
          cases this
          have x4 := Ext.laid rh3 (o := .tup [v, w]) hT
          exact ⟨_, zipD_at (List.getElem?_eq_getElem (show i < xs.length by omega)) (List.getElem?_eq_getElem (show i < ys.length by omega)), x4, rh3.laid hT, Rp.tup upd_same (Rps.mk ((rv.ext x3).ext x4) (Rps.mk ((rw'.ext x3).ext x4) Rps.nil))⟩
        · split at e
          · rename_i n m
            split at e
            · rename_i xs ys e3 e4
              cases e
              obtain ⟨a, ea, rfl⟩ := (r1.ext x2).refE
              obtain ⟨b, eb, rfl⟩ := r2.refE
              obtain ⟨vs, ev, ra⟩ := rh2.lst ea e3
              obtain ⟨ws, ew, rb⟩ := rh2.lst eb e4
              refine ⟨a, b, vs, ws, rfl, .inl ⟨.inl (.inl ev), .inl (.inl ew), q _ H2 μ2 x12 rh2 ?_⟩⟩
              intro i H3 μ3 hp3 x3 rh3 hgd
              obtain ⟨g1, g2⟩ := gdOk_two hgd
              obtain ⟨vs, ev, ra⟩ := rh3.lst (x3.m.at_ ea) g1
              obtain ⟨ws, ew, rb⟩ := rh3.lst (x3.m.at_ eb) g2
              have q3 : SqL X.K H3 a vs := .inl (.inl ev)
              have q4 : SqL X.K H3 b ws := .inl (.inl ew)
              have l1 := ra.len
              have l2 := rb.len
              rw [zipD_length]
              refine ⟨fun hi => ⟨vs, ws, q3, q4, by omega⟩, fun hi => ?_⟩
              obtain ⟨v, ev', rv⟩ := ra.get (List.getElem?_eq_getElem (show i < xs.length by omega))
              obtain ⟨w, ew', rw'⟩ := rb.get (List.getElem?_eq_getElem (show i < ys.length by omega))
              refine ⟨⟨vs, ws, v, w, q3, q4, ev', ew'⟩, fun u H4 hy => ?_⟩
              obtain ⟨T, u1, u2, rfl, hT, rfl, h1, h2⟩ := hy
              have := h1 vs q3
              rw [ev'] at this
              cases this
              have := h2 ws q4
              rw [ew'] at this
              cases this
              have x4 := Ext.laid rh3 (o := .tup [v, w]) hT
              exact ⟨_, zipD_at (List.getElem?_eq_getElem (show i < xs.length by omega)) (List.getElem?_eq_getElem (show i < ys.length by omega)), x4, rh3.laid hT, Rp.tup upd_same (Rps.mk (rv.ext x4) (Rps.mk (rw'.ext x4) Rps.nil))⟩
            · cases e
          · cases e
      · cases e
    · cases e

def gRemove (x : D) (ds : List D) (hp : Hd) : Option (D × Hd) := match ds with
  | [y] => match pyF hp 16 y with
    | some d => onL x hp fun xs => match mapO (pyF hp 15) xs with
      | some ps => if (SeqAt.shaped d && SeqAt.shaped (.list ps)) = true then match SeqAt.dataPlace ps d with
        | some j => some (.non, xs.eraseIdx j)
        | none => none else none
      | none => none
    | none => none
  | _ => none
theorem t_remove (hu : X.A.units + 65 < cLine) : MtR X "list.remove" (RM X.K gRemove) := fun pins s σ H x xs v us Q I rx rxs ⟨hp, μ, dx, ds, d, hp', rh, r1, rs, e, q⟩ => by
  unfold gRemove at e
  split at e
  · rename_i y
    split at e
    · rename_i d' ed
      obtain ⟨n, ws, ys, rfl, e1, e2, rfl⟩ := onL_some e
      split at e2
      · rename_i ps ep
        split at e2
        · rename_i hs
          rw [Bool.and_eq_true] at hs
          split at e2
          · rename_i j ej
            cases e2
            obtain ⟨w, rfl, r2⟩ := rs.one
            obtain ⟨a, ea, rfl⟩ := r1.refE
            obtain ⟨vs, ev, r3⟩ := rh.lst ea e1
            have x0 : Mon μ H μ (upd H a (.lst (vs.eraseIdx j))) := Mon.loose ev
            obtain ⟨r4, x1⟩ := rh.put (o := .lst (ws.eraseIdx j)) (u := .lst (vs.eraseIdx j)) ea ⟨_, rfl, (r3.erase j).mon x0⟩
            cases rx
            obtain ⟨u, rfl, ru⟩ := rxs.one
            obtain ⟨z, its, n', rv, hl, eo⟩ := I.lstM ev
            obtain ⟨as, ra⟩ := Dp.readsAll I ps vs its (dpAll_of rh _ _ _ ep r3) rv
            obtain ⟨bs, rb⟩ := Dp.reads I d' w u (pyF_dp rh _ _ _ _ ed r2) ru
            have hroom : X.A.units + 1 + min (PyData.depthAll ps) d'.depth < cLine := PyProof.Rows.room_in_shaped hs.1 hu
            refine SeqAt.remove_list_data (vs := its.toArray) ⟨_, eo, rfl, n', rfl⟩ (by simpa using ra) rb (PyData.plainAll_of_canLay0 _ (SeqAt.canLay_of_shaped hs.2)) (PyData.plain_of_canLay0 _ (SeqAt.canLay_of_shaped hs.1)) hroom ej (by rw [List.size_toArray]; omega) ?_
            refine ⟨.non, _, I.lset (its' := its.eraseIdx j) (t' := s.toks) ev eo ?_ (rv.eraseIdx j) ?_, rfl, q _ _ μ x1 r4 Rp.non⟩
            · show its.toArray.eraseIdxIfInBounds j = (its.eraseIdx j).toArray
              rw [List.eraseIdxIfInBounds_toArray]
            · have := List.length_eraseIdx_le vs j
              omega
          · cases e2
        · cases e2
      · cases e2
    · cases e
  · cases e
def mExtO (fo fb : AE) : AE := fun ls hp => match fo ls hp with
  | some (x, hp1) => if isL x hp1 = true then match fb ls hp1 with
    | some (y, hp2) => match lstOf y hp2 with
      | some ds => onL x hp2 fun xs => if xs.length + ds.length ≤ sizeLine then some (.non, xs ++ ds) else none
      | none => none
    | none => none else none
  | none => none
theorem de_extendO {o : Expr} {fo : AE} {apos cpos : Pos} (ho : DE X o fo) (ha : DE X e fb)
    (hbase : attributeBase o "extend" X.env (eval o X.env) = eval o X.env := by rfl)
    (hfew : ((backTo cpos (starEach [e] X.env)).all (fun x => !x.1) && (backToKw cpos (keywordEach [] X.env)).all (fun x => x.1.isSome)
      && decide (([e] : List Expr).length + ([] : List Keyword).length + (if ([] : List Keyword).isEmpty then 0 else 1) < 30)) = true := by rfl)
    (hline : (apos.endLine == cpos.line) = true := by rfl) (hs : starEach [e] X.env = (false, eval e X.env) :: starEach [] X.env := by rfl) :
    DE X (.Call (.Attribute o "extend" apos) [e] [] cpos) (mExtO fo fb) :=
  PE.imp (pe_bm PySem.F.plainAttrs_list PySem.F.slot_list_extend PySem.F.type_list_extend mt_extend ho (pa_cons ha pa_nil hs) hbase hfew hline hs rfl) fun σ H Q ⟨ls, hp, μ, d, hp', rl, rh, e, q⟩ => by
    unfold mExtO at e
    split at e
    · rename_i x hp1 e1
      split at e
      · rename_i hck
        split at e
        · rename_i y hp2 e2
          split at e
          · rename_i ds e5
            obtain ⟨n, ws, ys, rfl, e3, e4, rfl⟩ := onL_some e
            split at e4
            · rename_i hl
              cases e4
              refine ⟨ls, hp, μ, _, hp1, rl, rh, e1, fun v1 H1 μ1 x1 rh1 r1 => ⟨isL_ty rh1 r1 hck, ls, hp1, μ1, y, hp2, rl.ext x1, rh1, e2, fun v2 H2 μ2 x2 rh2 r2 => ?_⟩⟩
              obtain ⟨a, ea, rfl⟩ := (r1.ext x2).refE
              obtain ⟨m, rfl, em⟩ := lstOf_some e5
              obtain ⟨b, eb, rfl⟩ := r2.refE
              obtain ⟨vs, evb, rb⟩ := rh2.lst eb em
              obtain ⟨vs2, ev, r3⟩ := rh2.lst ea e3
              have x0 : Mon μ2 H2 μ2 (upd H2 a (.lst (vs2 ++ vs))) := Mon.loose ev
              obtain ⟨r4, x4⟩ := rh2.put (o := .lst (ws ++ ds)) (u := .lst (vs2 ++ vs)) ea ⟨_, rfl, (r3.append rb).mon x0⟩ (e1 := ev)
              exact ⟨a, b, vs2, vs, rfl, rfl, ev, evb, by rw [r3.len, rb.len]; exact hl, q _ _ μ2 ((x1.trans x2).trans x4) r4 Rp.non⟩
            · cases e4
          · cases e
        · cases e
      · cases e
    · cases e
def sPar3 (i j l : Nat) (f : AA) : AS := fun ls hp => match f ls hp with
  | some ([a, b, c], hp1) => some (.nx, ((ls.set i (some a)).set j (some b)).set l (some c), hp1)
  | _ => none
theorem ds_par3 {i j l : Nat} {x y z : Str} {a b c : Expr} {px py pz pt : Pos} {kt k2 pt2} (hc : X.calm = true) (hN : X.N.Nodup) (hi : X.N[i]? = some x) (hj : X.N[j]? = some y) (hl : X.N[l]? = some z) (hij : i ≠ j) (hil : i ≠ l) (hjl : j ≠ l)
    (hx : X.env.scope.names.lookup x = some .local) (hy : X.env.scope.names.lookup y = some .local) (hz : X.env.scope.names.lookup z = some .local) (ha : DA X [a, b, c] fr)
    (hw : swappedStores [.Tuple [.Name x px, .Name y py, .Name z pz] kt pt] (.Tuple [a, b, c] k2 pt2) X.env = pure (some [x, y, z]))
    (hs : swapsWithSole [.Tuple [.Name x px, .Name y py, .Name z pz] kt pt] (.Tuple [a, b, c] k2 pt2) pos.line X.env = pure false := by rfl) : DS X (.Assign [.Tuple [.Name x px, .Name y py, .Name z pz] kt pt] (.Tuple [a, b, c] k2 pt2) pos) (sPar3 i j l fr) :=
  PS.imp (ps_par3 hc hN hi hj hl hij hil hjl hx hy hz ha hw hs) fun Dn σ H ⟨ls, hp, μ, fl', ls', hp', rl, rh, e, q⟩ => by
    unfold sPar3 at e
    split at e
    · rename_i a b c hp1 e1
      cases e
      refine ⟨ls, hp, μ, [a, b, c], hp', rl, rh, e1, fun vs H' μ' x1 rh1 r1 => ?_⟩
      rw [Rps] at r1
      obtain ⟨v, r, rfl, r1, r2⟩ := r1
      obtain ⟨w, w2, rfl, r3, r4⟩ := r2.two
      exact ⟨v, w, w2, rfl, q H' μ' x1 rh1 _ ((((rl.ext x1).set r1).set r3).set r4)⟩
    · cases e
end
end Ve
namespace Ve
open PySem PySem.Spec L2

abbrev nr (d : D) : Bool := D.all (fun _ => false) d
abbrev nrs (ds : List D) : Bool := D.alls (fun _ => false) ds
abbrev nrO (o : O) : Bool := O.all (fun _ => false) o
mutual
theorem map_nr {f : Nat → Nat} : ∀ {d : D}, nr d = true → D.map f d = d
  | .non, _ => by rw [D.map]
  | .bl _, _ => by rw [D.map]
  | .int _, _ => by rw [D.map]
  | .str _, _ => by rw [D.map]
  | .scr _, _ => by rw [D.map]
  | .ref k, h => by simp [nr, D.all] at h
  | .tup ds, h => by
    simp only [nr, D.all] at h
    rw [D.map, maps_nr h]
  | .wt ds, h => by
    simp only [nr, D.all] at h
    rw [D.map, maps_nr h]
theorem maps_nr {f : Nat → Nat} : ∀ {ds : List D}, nrs ds = true → D.maps f ds = ds
  | [], _ => by rw [D.maps]
  | d :: ds, h => by
    simp only [nrs, D.alls, Bool.and_eq_true] at h
    rw [D.maps, map_nr h.1, maps_nr h.2]
end
mutual
theorem ren_nr {ρ : List Nat} : ∀ {d : D}, nr d = true → D.ren ρ d = d
  | .non, _ => by rw [D.ren]
  | .bl _, _ => by rw [D.ren]
  | .int _, _ => by rw [D.ren]
  | .str _, _ => by rw [D.ren]
  | .scr _, _ => by rw [D.ren]
  | .ref k, h => by simp [nr, D.all] at h
  | .tup ds, h => by
    simp only [nr, D.all] at h
    rw [D.ren, rens_nr h]
  | .wt ds, h => by
    simp only [nr, D.all] at h
    rw [D.ren, rens_nr h]
theorem rens_nr {ρ : List Nat} : ∀ {ds : List D}, nrs ds = true → D.rens ρ ds = ds
  | [], _ => by rw [D.rens]
  | d :: ds, h => by
    simp only [nrs, D.alls, Bool.and_eq_true] at h
    rw [D.rens, ren_nr h.1, rens_nr h.2]
end
mutual
theorem lt_nr {n : Nat} : ∀ {d : D}, nr d = true → D.lt n d = true
  | .non, _ => rfl
  | .bl _, _ => rfl
  | .int _, _ => rfl
  | .str _, _ => rfl
  | .scr _, _ => rfl
  | .ref k, h => by simp [nr, D.all] at h
  | .tup ds, h => by
    simp only [nr, D.all] at h
    rw [D.lt, lts_nr h]
  | .wt ds, h => by
    simp only [nr, D.all] at h
    rw [D.lt, lts_nr h]
theorem lts_nr {n : Nat} : ∀ {ds : List D}, nrs ds = true → D.lts n ds = true
  | [], _ => by rw [D.lts]
  | d :: ds, h => by
    simp only [nrs, D.alls, Bool.and_eq_true] at h
    rw [D.lts, lt_nr h.1, lts_nr h.2]
    rfl
end
mutual
theorem all_nr {p : Nat → Bool} : ∀ {d : D}, nr d = true → D.all p d = true
  | .non, _ => by rw [D.all]
  | .bl _, _ => by rw [D.all]
  | .int _, _ => by rw [D.all]
  | .str _, _ => by rw [D.all]
  | .scr _, _ => by rw [D.all]
  | .ref k, h => by simp [nr, D.all] at h
  | .tup ds, h => by
    simp only [nr, D.all] at h
    rw [D.all, alls_nr h]
  | .wt ds, h => by
    simp only [nr, D.all] at h
    rw [D.all, alls_nr h]
theorem alls_nr {p : Nat → Bool} : ∀ {ds : List D}, nrs ds = true → D.alls p ds = true
  | [], _ => by rw [D.alls]
  | d :: ds, h => by
    simp only [nrs, D.alls, Bool.and_eq_true] at h
    rw [D.alls, all_nr h.1, alls_nr h.2]
    rfl
end
theorem kv_nr {kvs : List (D × D)} (h : kvAll (fun _ => false) kvs = true) : (∀ f, kvMap f kvs = kvs) ∧ (∀ ρ, kvRen ρ kvs = kvs) ∧ (∀ n, kvLt n kvs = true) ∧ ∀ p, kvAll p kvs = true := by
  induction kvs with
  | nil => exact ⟨fun _ => rfl, fun _ => rfl, fun _ => rfl, fun _ => rfl⟩
  | cons x r ih =>
    rw [kvAll, Bool.and_eq_true, Bool.and_eq_true] at h
    obtain ⟨h1, h2, h3, h4⟩ := ih h.2
    obtain ⟨a, b⟩ := x
    exact ⟨fun f => by rw [kvMap, map_nr h.1.2, h1], fun ρ => by rw [kvRen, ren_nr h.1.2, h2], fun n => by rw [kvLt, lt_nr h.1.1, lt_nr h.1.2, h3]; rfl, fun p => by rw [kvAll, all_nr h.1.1, all_nr h.1.2, h4]; rfl⟩
theorem O_nr {o : O} (h : nrO o = true) : (∀ f, O.map f o = o) ∧ (∀ ρ, O.ren ρ o = o) ∧ (∀ n, O.lt n o = true) ∧ ∀ p, O.all p o = true := by
  cases o with
  | lst xs => exact ⟨fun f => by rw [O.map, maps_nr h], fun ρ => by rw [O.ren, rens_nr h], fun n => lts_nr h, fun p => alls_nr h⟩
  | dic kvs =>
    obtain ⟨h1, h2, h3, h4⟩ := kv_nr h
    exact ⟨fun f => by rw [O.map, h1], fun ρ => by rw [O.ren, h2], fun n => h3 n, fun p => h4 p⟩
  | dicL kvs =>
    obtain ⟨h1, h2, h3, h4⟩ := kv_nr h
    exact ⟨fun f => by rw [O.map, h1], fun ρ => by rw [O.ren, h2], fun n => h3 n, fun p => h4 p⟩

def setAll (hp : Hd) : List Nat → List O → Hd
  | n :: σ, o :: os => setAll (hp.set n o) σ os
  | _, _ => hp
theorem setAll_len : ∀ (σ : List Nat) (os : List O) (hp : Hd), (setAll hp σ os).length = hp.length
  | [], _, hp => by simp [setAll]
  | _ :: _, [], hp => by simp [setAll]
  | n :: σ, o :: os, hp => by rw [setAll, setAll_len σ os, List.length_set]
theorem setAll_out : ∀ (σ : List Nat) (os : List O) (hp : Hd) (j : Nat), j ∉ σ → (setAll hp σ os)[j]? = hp[j]?
  | [], _, hp, j, _ => by simp [setAll]
  | _ :: _, [], hp, j, _ => by simp [setAll]
  | n :: σ, o :: os, hp, j, h => by
    rw [setAll, setAll_out σ os _ j (fun z => h (List.mem_cons_of_mem _ z)), List.getElem?_set_ne (fun z => h (by rw [z]; exact List.mem_cons_self))]
theorem setAll_at : ∀ (σ : List Nat) (os : List O) (hp : Hd) (i : Nat), σ.Nodup → os.length = σ.length → (∀ n ∈ σ, n < hp.length) → i < σ.length → (setAll hp σ os)[σ.getD i 0]? = os[i]?
  | [], _, hp, i, _, _, _, h => by simp at h
  | _ :: _, [], hp, i, _, h, _, _ => by simp at h
  | n :: σ, o :: os, hp, i, nd, hl, hb, hi => by
    rw [List.nodup_cons] at nd
    rw [setAll]
    cases i with
    | zero =>
      rw [show (n :: σ).getD 0 0 = n from rfl, setAll_out σ os _ n nd.1, List.getElem?_set_self (hb n List.mem_cons_self)]
      rfl
    | succ i =>
      rw [show (n :: σ).getD (i + 1) 0 = σ.getD i 0 from by simp [List.getD]]
      rw [setAll_at σ os _ i nd.2 (by simpa using hl) (fun k hk => by rw [List.length_set]; exact hb k (List.mem_cons_of_mem _ hk)) (by simpa using hi)]
      simp
def Flat (m : List D → Hd → Option (D × Hd)) (ds : List D) (hp : Hd) (d : D) (hp' : Hd) : Prop :=
  ∃ (σ : List Nat) (dsS : List D) (os os' : List O) (d2 : D) (g : Hd), m dsS os = some (d2, g) ∧ σ.Nodup ∧ os.length = σ.length ∧ os'.length = σ.length ∧ ds = D.rens σ dsS ∧ D.lts σ.length dsS = true ∧
    (∀ (i : Nat) (o : O), os[i]? = some o → nrO o = true ∧ hp[σ.getD i 0]? = some o) ∧ (∀ (i : Nat) (o : O), os'[i]? = some o → nrO o = true ∧ g[i]? = some o) ∧
    ((nr d2 = true ∧ d = d2 ∧ hp' = setAll hp σ os') ∨ ∃ k o, d2 = .ref k ∧ σ.length ≤ k ∧ g[k]? = some o ∧ nrO o = true ∧ d = .ref hp.length ∧ hp' = setAll hp σ os' ++ [o])
theorem Flat.run {m : List D → Hd → Option (D × Hd)} {ds : List D} {hp : Hd} {d : D} {hp' : Hd} (h : Flat m ds hp d hp') : ∃ σ κ dsS os d2 g f kp, Run m ds hp d hp' σ κ dsS os d2 g f kp := by
  obtain ⟨σ, dsS, os, os', d2, g, run, nd, len, len', args, argsLt, objs, objs', c⟩ := h
  have lt : ∀ i ∈ σ, i < hp.length := fun n hn => by
    obtain ⟨i, hi, e⟩ := List.mem_iff_getElem.mp hn
    obtain ⟨_, h2⟩ := objs i os[i] (List.getElem?_eq_getElem (by omega))
    have e2 : σ.getD i 0 = n := by simp [List.getD, hi, e]
    rw [e2] at h2
    exact (List.getElem?_eq_some_iff.mp h2).1
  rcases c with ⟨h1, rfl, rfl⟩ | ⟨k, o, rfl, hk, hg, ho, rfl, rfl⟩
  · refine ⟨σ, [], dsS, os, d, g, fun i => σ.getD i 0, fun _ => false, run, nd, lt, len, args, argsLt, fun i o e => ?_, List.nodup_nil, fun _ h => by simp at h, fun i _ => rfl, fun t k e => by simp at e, fun i h => by simp at h, ⟨h1, (map_nr h1).symm⟩, by simp [setAll_len], fun j _ hj => setAll_out σ os' hp j hj, fun i hi => ?_, fun t k e => by simp at e⟩
    · obtain ⟨a, b⟩ := objs i o e
      obtain ⟨_, a2, a3, _⟩ := O_nr a
      exact ⟨a3 _, by rw [a2]; exact b⟩
    · have hi' : i < os'.length := by omega
      obtain ⟨a, b⟩ := objs' i os'[i] (List.getElem?_eq_getElem hi')
      obtain ⟨a1, _, _, a4⟩ := O_nr a
      exact ⟨os'[i], b, a4 _, by rw [a1, setAll_at σ os' hp i nd len' lt hi, List.getElem?_eq_getElem hi']⟩
  · refine ⟨σ, [k], dsS, os, .ref k, g, fun i => if i < σ.length then σ.getD i 0 else hp.length, fun i => i == k, run, nd, lt, len, args, argsLt, fun i o e => ?_, by simp, fun j hj => ?_, fun i hi => by simp [hi], fun t j e => ?_, fun i hi => ?_, ⟨by simp [D.all], ?_⟩, by simp [setAll_len], fun j hj1 hj => ?_, fun i hi => ?_, fun t j e => ?_⟩
    · obtain ⟨a, b⟩ := objs i o e
      obtain ⟨_, a2, a3, _⟩ := O_nr a
      exact ⟨a3 _, by rw [a2]; exact b⟩
    · have : j = k := by simpa using hj
      subst this
      exact ⟨hk, (List.getElem?_eq_some_iff.mp hg).1⟩
    · cases t with
      | zero =>
        have : k = j := by simpa using e
        subst this
        have : ¬ k < σ.length := by omega
        simp [this]
      | succ t => simp at e
    · have : i = k := by simpa using hi
      exact .inr (by simp [this])
    · rw [D.map]
      have : ¬ k < σ.length := by omega
      simp [this]
    · rw [List.getElem?_append_left (by rw [setAll_len]; exact hj1), setAll_out σ os' hp j hj]
    · have hi' : i < os'.length := by omega
      obtain ⟨a, b⟩ := objs' i os'[i] (List.getElem?_eq_getElem hi')
      obtain ⟨a1, _, _, a4⟩ := O_nr a
      refine ⟨os'[i], b, a4 _, ?_⟩
      have hl : σ.getD i 0 < hp.length := lt _ (by simp [List.getD, hi])
      rw [a1, List.getElem?_append_left (by rw [setAll_len]; exact hl), setAll_at σ os' hp i nd len' lt hi, List.getElem?_eq_getElem hi']
    · cases t with
      | zero =>
        have : k = j := by simpa using e
        subst this
        obtain ⟨a1, _, _, a4⟩ := O_nr ho
        exact ⟨o, hg, a4 _, by rw [a1, List.getElem?_append_right (by rw [setAll_len]; omega), setAll_len]; simp⟩
      | succ t => simp at e
def cV (m : List D → Hd → Option (D × Hd)) (ds : List D) (hp : Hd) : Option (D × Hd) := if nrs ds = true then match m ds [] with
  | some (d, _) => if nr d = true then some (d, hp) else none
  | none => none else none
def cN (m : List D → Hd → Option (D × Hd)) (ds : List D) (hp : Hd) : Option (D × Hd) := if nrs ds = true then match m ds [] with
  | some (.ref k, g) => match g[k]? with
    | some o => if nrO o = true then some (.ref hp.length, hp ++ [o]) else none
    | none => none
  | _ => none else none
theorem cl_cV (m : List D → Hd → Option (D × Hd)) : Cl (cV m) m := fun ds hp d hp' h => by
  unfold cV at h
  split at h
  · rename_i hn
    split at h
    · rename_i d2 g e
      split at h
      · rename_i hd
        cases h
        exact Flat.run ⟨[], ds, [], [], d, g, e, List.nodup_nil, rfl, rfl, (rens_nr hn).symm, lts_nr hn, fun i o e => by simp at e, fun i o e => by simp at e, .inl ⟨hd, rfl, rfl⟩⟩
      · cases h
    · cases h
  · cases h
theorem cl_cN (m : List D → Hd → Option (D × Hd)) : Cl (cN m) m := fun ds hp d hp' h => by
  unfold cN at h
  split at h
  · rename_i hn
    split at h
    · rename_i k g e
      split at h
      · rename_i o eo
        split at h
        · rename_i ho
          cases h
          exact Flat.run ⟨[], ds, [], [], .ref k, g, e, List.nodup_nil, rfl, rfl, (rens_nr hn).symm, lts_nr hn, fun i o e => by simp at e, fun i o e => by simp at e, .inr ⟨k, o, rfl, Nat.zero_le _, eo, ho, rfl, rfl⟩⟩
        · cases h
      · cases h
    · cases h
  · cases h
theorem Flat.one {m : List D → Hd → Option (D × Hd)} {n : Nat} {ds : List D} {hp hp' : Hd} {d d2 : D} {o o' : O} {g : Hd} (run : m (.ref 0 :: ds) [o] = some (d2, g)) (hn : nrs ds = true) (ho : hp[n]? = some o) (fo : nrO o = true) (g0 : g[0]? = some o') (fo' : nrO o' = true)
    (c : (nr d2 = true ∧ d = d2 ∧ hp' = hp.set n o') ∨ ∃ k o2, d2 = .ref k ∧ 1 ≤ k ∧ g[k]? = some o2 ∧ nrO o2 = true ∧ d = .ref hp.length ∧ hp' = hp.set n o' ++ [o2]) : Flat m (.ref n :: ds) hp d hp' := by
  refine ⟨[n], .ref 0 :: ds, [o], [o'], d2, g, run, by simp, rfl, rfl, ?_, ?_, fun i x e => ?_, fun i x e => ?_, ?_⟩
  · rw [D.rens, D.ren, rens_nr hn]
    rfl
  · rw [D.lts, lts_nr hn]
    rfl
  · cases i with
    | zero =>
      have : o = x := by simpa using e
      subst this
      exact ⟨fo, ho⟩
    | succ i => simp at e
  · cases i with
    | zero =>
      have : o' = x := by simpa using e
      subst this
      exact ⟨fo', g0⟩
    | succ i => simp at e
  · rcases c with ⟨a, b, c⟩ | ⟨k, o2, a, b, c, e, f, g⟩
    · exact .inl ⟨a, b, by rw [c]; rfl⟩
    · exact .inr ⟨k, o2, a, b, c, e, f, by rw [g]; rfl⟩

theorem sFor_inv {t : Tg} {b : AS} (Inv : Nat → Ls → Hd → Prop) : ∀ (items : List D) (ls : Ls) (hp : Hd) (i : Nat), Inv i ls hp →
    (∀ (j : Nat) (x : D) ls hp, items[j]? = some x → Inv (i + j) ls hp → ∃ ls1 ls2 hp2, t.asg x ls = some ls1 ∧ (b ls1 hp = some (.nx, ls2, hp2) ∨ b ls1 hp = some (.ct, ls2, hp2)) ∧ Inv (i + j + 1) ls2 hp2) →
    ∃ ls' hp', sFor t [] b items ls hp = some (.nx, ls', hp') ∧ Inv (i + items.length) ls' hp'
  | [], ls, hp, i, h, _ => ⟨ls, hp, rfl, h⟩
  | x :: xs, ls, hp, i, h, step => by
    obtain ⟨ls1, ls2, hp2, e1, e2, h2⟩ := step 0 x ls hp rfl h
    obtain ⟨ls', hp', e3, h3⟩ := sFor_inv Inv xs ls2 hp2 (i + 1) h2 fun j y ls hp ej hj => by
      have := step (j + 1) y ls hp (by simpa using ej) (by rw [show i + (j + 1) = i + 1 + j by omega]; exact hj)
      rw [show i + (j + 1) + 1 = i + 1 + j + 1 by omega] at this
      exact this
    refine ⟨ls', hp', ?_, by rw [List.length_cons, show i + (xs.length + 1) = i + 1 + xs.length by omega]; exact h3⟩
    rcases e2 with e2 | e2 <;> simp only [sFor, gdOk, if_true, e1, e2, e3]
theorem lcGo_pure {t : Tg} {gd : Gd} {tt : AT} {te : AE} {ls0 : Ls} {hp : Hd} (hg : gdOk gd hp = true) (bf : D → Bool) (df : D → D) : ∀ (items : List D),
    (∀ x ∈ items, ∃ ls1, t.asg x ls0 = some ls1 ∧ tt ls1 hp = some (bf x, hp) ∧ (bf x = true → te ls1 hp = some (df x, hp))) → lcGo t gd tt te ls0 items hp = some ((items.filter bf).map df, hp)
  | [], _ => by simp [lcGo, hg]
  | x :: xs, h => by
    obtain ⟨ls1, e1, e2, e3⟩ := h x List.mem_cons_self
    have ih := lcGo_pure hg bf df xs fun y hy => h y (List.mem_cons_of_mem _ hy)
    cases hb : bf x with
    | true =>
      rw [hb] at e2
      simp only [lcGo, hg, if_true, e1, e2, e3 hb, ih, List.filter_cons, hb, List.map_cons]
    | false =>
      rw [hb] at e2
      simp only [lcGo, hg, if_true, e1, e2, ih, List.filter_cons, hb, Bool.false_eq_true, if_false]
def c1V (m : List D → Hd → Option (D × Hd)) : List D → Hd → Option (D × Hd)
  | .ref n :: ds, hp => match hp[n]? with
    | some o => if (nrs ds && nrO o) = true then match m (.ref 0 :: ds) [o] with
      | some (d, o' :: _) => if (nr d && nrO o') = true then some (d, hp.set n o') else none
      | _ => none else none
    | none => none
  | _, _ => none
def c1N (m : List D → Hd → Option (D × Hd)) : List D → Hd → Option (D × Hd)
  | .ref n :: ds, hp => match hp[n]? with
    | some o => if (nrs ds && nrO o) = true then match m (.ref 0 :: ds) [o] with
      | some (.ref (k + 1), o' :: g) => match g[k]? with
        | some o2 => if (nrO o' && nrO o2) = true then some (.ref hp.length, hp.set n o' ++ [o2]) else none
        | none => none
      | _ => none else none
    | none => none
  | _, _ => none
theorem cl_c1V (m : List D → Hd → Option (D × Hd)) : Cl (c1V m) m := fun ds hp d hp' h => by
  unfold c1V at h
  split at h
  · split at h
    · rename_i o eo
      split at h
      · rename_i hn
        rw [Bool.and_eq_true] at hn
        split at h
        · rename_i d2 o' g e
          split at h
          · rename_i hd
            rw [Bool.and_eq_true] at hd
            cases h
            exact (Flat.one e hn.1 eo hn.2 rfl hd.2 (.inl ⟨hd.1, rfl, rfl⟩)).run
          · cases h
        · cases h
      · cases h
    · cases h
  · cases h
theorem cl_c1N (m : List D → Hd → Option (D × Hd)) : Cl (c1N m) m := fun ds hp d hp' h => by
  unfold c1N at h
  split at h
  · split at h
    · rename_i o eo
      split at h
      · rename_i hn
        rw [Bool.and_eq_true] at hn
        split at h
        · rename_i k o' g e
          split at h
          · rename_i o2 e2
            split at h
            · rename_i hd
              rw [Bool.and_eq_true] at hd
              cases h
              exact (Flat.one e hn.1 eo hn.2 rfl hd.1 (.inr ⟨k + 1, o2, rfl, Nat.le_add_left 1 k, e2, hd.2, rfl, rfl⟩)).run
            · cases h
          · cases h
        · cases h
      · cases h
    · cases h
  · cases h

section
variable {ls : Ls} {hp : Hd} {fa fb fc : AE} {ft fu : AT} {fr fl : AA} {f g : AS}
@[simp] theorem mVar_s {i : Nat} : mVar i ls hp = (match ls[i]? with
  | some (some d) => some (d, hp)
  | _ => none) := rfl
@[simp] theorem mC_s {d : D} : mC d ls hp = some (d, hp) := rfl
@[simp] theorem m2_s {g : D → D → Hd → Option (D × Hd)} : m2 fa fb g ls hp = (match fa ls hp with
  | some (a, hp1) => match fb ls hp1 with
    | some (b, hp2) => g a b hp2
    | none => none
  | none => none) := rfl
@[simp] theorem m1_s {g : D → Hd → Option (D × Hd)} : m1 fa g ls hp = (match fa ls hp with
  | some (a, hp1) => g a hp1
  | none => none) := rfl
@[simp] theorem mT_s : mT fa ls hp = (match fa ls hp with
  | some (.bl b, hp1) => some (b, hp1)
  | _ => none) := rfl
@[simp] theorem mNil_s : mNil ls hp = some ([], hp) := rfl
@[simp] theorem mCons_s : mCons fa fr ls hp = (match fa ls hp with
  | some (a, hp1) => match fr ls hp1 with
    | some (r, hp2) => some (a :: r, hp2)
    | none => none
  | none => none) := rfl
@[simp] theorem mAs_s {g : List D → Hd → Option (D × Hd)} : mAs fr g ls hp = (match fr ls hp with
  | some (a, hp1) => g a hp1
  | none => none) := rfl
@[simp] theorem ar_s {n : Nat} {g : List D → Hd → Option (D × Hd)} {ds : List D} : ar n g ds hp = if ds.length = n then g ds hp else none := rfl
@[simp] theorem mNew_s : mNew fl ls hp = (match fl ls hp with
  | some (ds, hp1) => some (.ref hp1.length, hp1 ++ [.lst ds])
  | none => none) := rfl
@[simp] theorem mTup_s : mTup fr ls hp = (match fr ls hp with
  | some (ds, hp1) => if ds.length ≤ sizeLine then some (.tup ds, hp1) else none
  | none => none) := rfl
@[simp] theorem mLst_s : mLst fr ls hp = (match fr ls hp with
  | some (ds, hp1) => if ds.length ≤ sizeLine then some (ds, hp1) else none
  | none => none) := rfl
@[simp] theorem sNext_s : sNext ls hp = some (.nx, ls, hp) := rfl
@[simp] theorem sSeq_s : sSeq f g ls hp = (match f ls hp with
  | some (.nx, ls1, hp1) => g ls1 hp1
  | r => r) := rfl
@[simp] theorem sDrop_s : sDrop fa ls hp = (match fa ls hp with
  | some (_, hp1) => some (.nx, ls, hp1)
  | none => none) := rfl
@[simp] theorem sRet_s : sRet fa ls hp = (match fa ls hp with
  | some (d, hp1) => some (.rt d, ls, hp1)
  | none => none) := rfl
@[simp] theorem sIf_s : sIf ft f g ls hp = (match ft ls hp with
  | some (true, hp1) => f ls hp1
  | some (false, hp1) => g ls hp1
  | none => none) := rfl
@[simp] theorem sSet_s {i : Nat} : sSet i fa ls hp = (match fa ls hp with
  | some (d, hp1) => some (.nx, ls.set i (some d), hp1)
  | none => none) := rfl
@[simp] theorem sAsg_s {t : Tg} : sAsg t fa ls hp = (match fa ls hp with
  | some (d, hp1) => match t.asg d ls with
    | some ls1 => some (.nx, ls1, hp1)
    | none => none
  | none => none) := rfl
@[simp] theorem sPar_s {i j : Nat} : sPar i j fr ls hp = (match fr ls hp with
  | some ([a, b], hp1) => some (.nx, (ls.set i (some a)).set j (some b), hp1)
  | _ => none) := rfl
@[simp] theorem sStore_s : sStore fa fb fc ls hp = (match fa ls hp with
  | some (v, hp1) => match fb ls hp1 with
    | some (x, hp2) => match fc ls hp2 with
      | some (y, hp3) => match gSet x y v hp3 with
        | some hp4 => some (.nx, ls, hp4)
        | none => none
      | none => none
    | none => none
  | none => none) := rfl
@[simp] theorem mDef_s {n : Nat} {ds : List D} : mDef n f ds hp = (match f (stD n ds) hp with
  | some (.rt d, _, hp') => some (d, hp')
  | some (.nx, _, hp') => some (.non, hp')
  | _ => none) := rfl
@[simp] theorem gI_s {c : Int → Int → Bool} {g : Int → Int → D} {i j : Int} : gI c g (.int i) (.int j) hp = if c i j then some (g i j, hp) else none := rfl
@[simp] theorem gAdd_int {i j : Int} : gAdd (.int i) (.int j) hp = some (.int (i + j), hp) := rfl
@[simp] theorem gSub_int {i j : Int} : gSub (.int i) (.int j) hp = some (.int (i - j), hp) := rfl
theorem gMul_int {i j : Int} (h : cMul i j = true) : gMul (.int i) (.int j) hp = some (.int (i * j), hp) := by simp [gMul, h]
theorem gDiv_int {i j : Int} (h : cDiv i j = true) : gDiv (.int i) (.int j) hp = some (.int (i / j), hp) := by simp [gDiv, h]
theorem gMod_int {i j : Int} (h : 0 < j) : gMod (.int i) (.int j) hp = some (.int (i % j), hp) := by simp [gMod, h]
@[simp] theorem gLt_int {i j : Int} : gLt (.int i) (.int j) hp = some (.bl (decide (i < j)), hp) := rfl
@[simp] theorem gLe_int {i j : Int} : gLe (.int i) (.int j) hp = some (.bl (decide (i ≤ j)), hp) := rfl
@[simp] theorem gGt_int {i j : Int} : gGt (.int i) (.int j) hp = some (.bl (decide (j < i)), hp) := rfl
@[simp] theorem gGe_int {i j : Int} : gGe (.int i) (.int j) hp = some (.bl (decide (j ≤ i)), hp) := rfl
@[simp] theorem gNeg_int {i : Int} : gNeg (.int i) hp = some (.int (-i), hp) := rfl
theorem cMul_of {i j : Int} (h : (-(2 ^ 64) < i ∧ i < 2 ^ 64) ∨ (-(2 ^ 64) < j ∧ j < 2 ^ 64)) : cMul i j = true := decide_eq_true (.inl h)
theorem cDiv_of {i j : Int} (h : 0 < j ∧ j < 1073741824) : cDiv i j = true := decide_eq_true ⟨h.1, .inl h.2⟩
@[simp] theorem gEq_int {i j : Int} : gEq (.int i) (.int j) hp = some (.bl (i == j), hp) := rfl
@[simp] theorem gNe_int {i j : Int} : gNe (.int i) (.int j) hp = some (.bl (!(i == j)), hp) := rfl
end

def T (a : List Int) : D := .tup (a.map D.int)
theorem mapO_int {hp : Hd} {n : Nat} : ∀ a : List Int, mapO (pyF hp (n + 1)) (a.map D.int) = some (a.map PyData.int)
  | [] => rfl
  | x :: r => by
    rw [List.map_cons, mapO, mapO_int r]
    rfl
theorem pyF_T {hp : Hd} {n : Nat} (a : List Int) : pyF hp (n + 2) (T a) = some (.tuple (a.map PyData.int)) := by
  show (mapO (pyF hp (n + 1)) (a.map D.int)).map PyData.tuple = _
  rw [mapO_int]
  rfl
theorem mapO_T {hp : Hd} {n : Nat} : ∀ bs : List (List Int), mapO (pyF hp (n + 2)) (bs.map T) = some (bs.map fun b => .tuple (b.map PyData.int))
  | [] => rfl
  | x :: r => by
    rw [List.map_cons, mapO, mapO_T r, pyF_T]
    rfl
theorem canInts : ∀ a : List Int, PyData.canLayAll0 (a.map PyData.int) = true
  | [] => rfl
  | x :: r => by
    rw [List.map_cons, PyData.canLayAll0, canInts r]
    rfl
theorem depInts : ∀ a : List Int, PyData.depthAll (a.map PyData.int) = 0
  | [] => rfl
  | x :: r => by
    rw [List.map_cons, PyData.depthAll, depInts r]
    rfl
theorem shaped_T (a : List Int) : SeqAt.shaped (.tuple (a.map PyData.int)) = true := by
  unfold SeqAt.shaped
  rw [PyData.canLay0, canInts, PyData.depth, depInts]
  rfl
theorem canTs : ∀ bs : List (List Int), PyData.canLayAll0 (bs.map fun b => .tuple (b.map PyData.int)) = true
  | [] => rfl
  | x :: r => by
    rw [List.map_cons, PyData.canLayAll0, PyData.canLay0, canInts, canTs r]
    rfl
theorem depTs : ∀ bs : List (List Int), PyData.depthAll (bs.map fun b => .tuple (b.map PyData.int)) ≤ 1
  | [] => Nat.zero_le _
  | x :: r => by
    rw [List.map_cons, PyData.depthAll, PyData.depth, depInts]
    have := depTs r
    omega
theorem shaped_Ts (bs : List (List Int)) : SeqAt.shaped (.list (bs.map fun b => .tuple (b.map PyData.int))) = true := by
  unfold SeqAt.shaped
  rw [PyData.canLay0, canTs, PyData.depth]
  have := depTs bs
  simp
  omega
theorem shaped_tTs (bs : List (List Int)) : SeqAt.shaped (.tuple (bs.map fun b => .tuple (b.map PyData.int))) = true := by
  unfold SeqAt.shaped
  rw [PyData.canLay0, canTs, PyData.depth]
  have := depTs bs
  simp
  omega
theorem eqvInts : ∀ a b : List Int, PyData.eqvAll (a.map PyData.int) (b.map PyData.int) = (a == b)
  | [], [] => rfl
  | [], _ :: _ => rfl
  | _ :: _, [] => rfl
  | x :: r, y :: s => by
    rw [List.map_cons, List.map_cons, PyData.eqvAll, eqvInts r s]
    rfl
theorem eqv_T (a b : List Int) : PyData.eqv (.tuple (a.map PyData.int)) (.tuple (b.map PyData.int)) = (a == b) := by
  rw [PyData.eqv, eqvInts]
theorem eqvTs : ∀ a b : List (List Int), PyData.eqvAll (a.map fun b => .tuple (b.map PyData.int)) (b.map fun b => .tuple (b.map PyData.int)) = (a == b)
  | [], [] => rfl
  | [], _ :: _ => rfl
  | _ :: _, [] => rfl
  | x :: r, y :: s => by
    rw [List.map_cons, List.map_cons, PyData.eqvAll, eqvTs r s, eqv_T]
    rfl
theorem eqH_T {hp : Hd} (a b : List Int) : eqH hp (T a) (T b) = some (a == b) := by
  unfold eqH
  rw [pyF_T (n := 14), pyF_T (n := 14)]
  dsimp only
  rw [shaped_T, shaped_T, eqv_T]
  rfl
theorem gEq_T {hp : Hd} (a b : List Int) : gEq (T a) (T b) hp = some (.bl (a == b), hp) := by
  unfold gEq
  rw [eqH_T]
theorem gNe_T {hp : Hd} (a b : List Int) : gNe (T a) (T b) hp = some (.bl (!(a == b)), hp) := by
  unfold gNe
  rw [eqH_T]
theorem inL_T {hp : Hd} (a : List Int) (bs : List (List Int)) : inL hp (T a) (bs.map T) = some (bs.any fun b => b == a) := by
  unfold inL
  rw [pyF_T (n := 14), mapO_T (n := 13)]
  dsimp only
  rw [shaped_T, shaped_Ts]
  simp only [Bool.and_self, if_true, List.any_map, Option.some.injEq]
  congr 1
  funext b
  exact eqv_T b a
theorem pyF_ref {hp : Hd} {n k : Nat} {xs : List D} (h : hp[k]? = some (.lst xs)) : pyF hp (n + 1) (.ref k) = (mapO (pyF hp n) xs).map .list := by
  show (match hp[k]? with
    | some (.lst xs) => (mapO (pyF hp n) xs).map PyData.list
    | _ => none) = _
  rw [h]
theorem eqH_lists {hp : Hd} {n m : Nat} {as bs : List (List Int)} (h1 : hp[n]? = some (.lst (as.map T))) (h2 : hp[m]? = some (.lst (bs.map T))) : eqH hp (.ref n) (.ref m) = some (as == bs) := by
  unfold eqH
  have p1 : pyF hp 16 (.ref n) = some (.list (as.map fun b => .tuple (b.map PyData.int))) := by
    rw [pyF_ref (n := 15) h1, mapO_T (n := 13)]
    rfl
  have p2 : pyF hp 16 (.ref m) = some (.list (bs.map fun b => .tuple (b.map PyData.int))) := by
    rw [pyF_ref (n := 15) h2, mapO_T (n := 13)]
    rfl
  rw [p1, p2]
  dsimp only
  rw [shaped_Ts, shaped_Ts, PyData.eqv, eqvTs]
  rfl
theorem nr_T (a : List Int) : nr (T a) = true := by
  show D.alls _ (a.map D.int) = true
  induction a with
  | nil => rw [List.map_nil, D.alls]
  | cons x r ih => rw [List.map_cons, D.alls, ih]; rfl
theorem nrs_T : ∀ bs : List (List Int), nrs (bs.map T) = true
  | [] => rfl
  | x :: r => by
    show D.alls _ (T x :: r.map T) = true
    rw [D.alls, show D.all (fun _ => false) (T x) = true from nr_T x, show D.alls (fun _ => false) (r.map T) = true from nrs_T r]
    rfl
theorem lcGo_typed {α : Type} {t : Tg} {gd : Gd} {tt : AT} {te : AE} {ls0 : Ls} {hp : Hd} (φ : α → D) (hg : gdOk gd hp = true) (bf : α → Bool) (df : α → D) : ∀ (items : List α),
    (∀ x ∈ items, ∃ ls1, t.asg (φ x) ls0 = some ls1 ∧ tt ls1 hp = some (bf x, hp) ∧ (bf x = true → te ls1 hp = some (df x, hp))) → lcGo t gd tt te ls0 (items.map φ) hp = some ((items.filter bf).map df, hp)
  | [], _ => by simp [lcGo, hg]
  | x :: xs, h => by
    obtain ⟨ls1, e1, e2, e3⟩ := h x List.mem_cons_self
    have ih := lcGo_typed φ hg bf df xs fun y hy => h y (List.mem_cons_of_mem _ hy)
    cases hb : bf x with
    | true =>
      rw [hb] at e2
      simp only [List.map_cons, lcGo, hg, if_true, e1, e2, e3 hb, ih, List.filter_cons, hb, List.map_cons]
    | false =>
      rw [hb] at e2
      simp only [List.map_cons, lcGo, hg, if_true, e1, e2, ih, List.filter_cons, hb, Bool.false_eq_true, if_false]
theorem hget_new {hp : Hd} {o : O} : (hp ++ [o])[hp.length]? = some o := by simp
theorem hget_old {hp l : Hd} {n : Nat} {o : O} (h : hp[n]? = some o) : (hp ++ l)[n]? = some o := by
  rw [List.getElem?_append_left (List.getElem?_eq_some_iff.mp h).1]
  exact h
theorem hlt {hp : Hd} {n : Nat} {o : O} (h : hp[n]? = some o) : n < hp.length := (List.getElem?_eq_some_iff.mp h).1
theorem hset_same {hp : Hd} {n : Nat} {o o' : O} (h : hp[n]? = some o) : (hp.set n o')[n]? = some o' := List.getElem?_set_self (hlt h)
theorem hset_ne {hp : Hd} {n m : Nat} {o o' : O} (h : n ≠ m) (e : hp[m]? = some o) : (hp.set n o')[m]? = some o := by
  rw [List.getElem?_set_ne h]
  exact e
theorem mIS_ref {fa : AE} {ls : Ls} {hp hp' : Hd} {n : Nat} {xs : List D} (e : fa ls hp = some (.ref n, hp')) (h : hp'[n]? = some (.lst xs)) : mIS fa ls hp = some (xs, [(n, xs)], hp') := by
  unfold mIS
  rw [e]
  show (match (match hp'[n]? with
    | some (.lst xs) => some (xs, [(n, xs)])
    | _ => none) with
    | some (items, gd) => some (items, gd, hp')
    | none => none) = _
  rw [h]
theorem mIS_tup {fa : AE} {ls : Ls} {hp hp' : Hd} {xs : List D} (e : fa ls hp = some (.tup xs, hp')) : mIS fa ls hp = some (xs, [], hp') := by
  unfold mIS
  rw [e]
  rfl
theorem gdOk1 {hp : Hd} {n : Nat} {xs : List D} (h : hp[n]? = some (.lst xs)) : gdOk [(n, xs)] hp = true := by
  unfold gdOk gdOk
  rw [h]
  dsimp only
  rw [D.sames_self]
  rfl
theorem gIn_lst {hp : Hd} {n : Nat} {a : List Int} {bs : List (List Int)} (h : hp[n]? = some (.lst (bs.map T))) : gIn (T a) (.ref n) hp = some (.bl (bs.any fun b => b == a), hp) := by
  have e : inB (T a) (.ref n) hp = inL hp (T a) (bs.map T) := by
    show (match hp[n]? with
      | some (.lst ys) => inL hp (T a) ys
      | some o => match dicOf o with
        | some kvs => if dKind kvs (T a) = true then some (look kvs (T a)).isSome else none
        | none => none
      | none => none) = _
    rw [h]
  unfold gIn
  rw [e, inL_T]
theorem gNotIn_lst {hp : Hd} {n : Nat} {a : List Int} {bs : List (List Int)} (h : hp[n]? = some (.lst (bs.map T))) : gNotIn (T a) (.ref n) hp = some (.bl (!(bs.any fun b => b == a)), hp) := by
  have e : inB (T a) (.ref n) hp = inL hp (T a) (bs.map T) := by
    show (match hp[n]? with
      | some (.lst ys) => inL hp (T a) ys
      | some o => match dicOf o with
        | some kvs => if dKind kvs (T a) = true then some (look kvs (T a)).isSome else none
        | none => none
      | none => none) = _
    rw [h]
  unfold gNotIn
  rw [e, inL_T]
theorem mLc_typed {α : Type} {fi : AI} {t : Tg} {own : List Nat} {tt : AT} {te : AE} {ls : Ls} {hp hp1 : Hd} {gd : Gd} (φ : α → D) (items : List α) (bf : α → Bool) (df : α → D) (ei : fi ls hp = some (items.map φ, gd, hp1)) (hl : items.length ≤ sizeLine) (hg : gdOk gd hp1 = true)
    (h : ∀ x ∈ items, ∃ ls1, t.asg (φ x) (wipeL ls own) = some ls1 ∧ tt ls1 hp1 = some (bf x, hp1) ∧ (bf x = true → te ls1 hp1 = some (df x, hp1))) : mLc fi t own tt te ls hp = some ((items.filter bf).map df, hp1) := by
  unfold mLc
  rw [ei]
  dsimp only
  rw [if_pos (by rw [List.length_map]; exact hl), lcGo_typed φ hg bf df items h]
theorem mL_of {fl : AA} {g : List D → Hd → Option (D × Hd)} {ls : Ls} {hp hp' : Hd} {ds : List D} (e : fl ls hp = some (ds, hp')) : mL fl g ls hp = g ds hp' := by
  unfold mL
  rw [e]
theorem m2_of {fa fb : AE} {g : D → D → Hd → Option (D × Hd)} {ls : Ls} {hp hp1 hp2 : Hd} {a b : D} (e1 : fa ls hp = some (a, hp1)) (e2 : fb ls hp1 = some (b, hp2)) : m2 fa fb g ls hp = g a b hp2 := by
  rw [m2_s, e1]
  dsimp only
  rw [e2]
theorem mT_of {fa : AE} {ls : Ls} {hp hp' : Hd} {b : Bool} (e : fa ls hp = some (.bl b, hp')) : mT fa ls hp = some (b, hp') := by
  rw [mT_s, e]
theorem gTup_T {a : List Int} {hp : Hd} : gTup (a.map D.int) hp = some (T a, hp) := rfl
theorem sSeq_of {f g : AS} {ls ls1 : Ls} {hp hp1 : Hd} {r : Option (Fl × Ls × Hd)} (e : f ls hp = some (.nx, ls1, hp1)) (e2 : g ls1 hp1 = r) : sSeq f g ls hp = r := by
  rw [sSeq_s, e]
  exact e2
theorem sSet_of {i : Nat} {fa : AE} {ls : Ls} {hp hp1 : Hd} {d : D} (e : fa ls hp = some (d, hp1)) : sSet i fa ls hp = some (.nx, ls.set i (some d), hp1) := by
  rw [sSet_s, e]
theorem sIf_t {ft : AT} {f g : AS} {ls : Ls} {hp hp1 : Hd} {r : Option (Fl × Ls × Hd)} (e : ft ls hp = some (true, hp1)) (e2 : f ls hp1 = r) : sIf ft f g ls hp = r := by
  rw [sIf_s, e]
  exact e2
theorem sIf_f {ft : AT} {f g : AS} {ls : Ls} {hp hp1 : Hd} {r : Option (Fl × Ls × Hd)} (e : ft ls hp = some (false, hp1)) (e2 : g ls hp1 = r) : sIf ft f g ls hp = r := by
  rw [sIf_s, e]
  exact e2
theorem mNew_of {fl : AA} {ls : Ls} {hp hp' : Hd} {ds : List D} (e : fl ls hp = some (ds, hp')) : mNew fl ls hp = some (.ref hp'.length, hp' ++ [.lst ds]) := by
  rw [mNew_s, e]
theorem gLen_lst {hp : Hd} {n : Nat} {xs : List D} (h : hp[n]? = some (.lst xs)) : gLen [.ref n] hp = some (.int xs.length, hp) := by
  show (match hp[n]? with
    | some (.lst ds) => some (D.int ds.length, hp)
    | some (.dic ds) => some (D.int ds.length, hp)
    | _ => none) = _
  rw [h]
end Ve
namespace Ve
open PySem PySem.Spec L2

theorem ints_inj : ∀ {a b : List Int}, a.map D.int = b.map D.int → a = b
  | [], [], _ => rfl
  | [], _ :: _, h => by cases h
  | _ :: _, [], h => by cases h
  | x :: r, y :: s, h => by
    rw [List.map_cons, List.map_cons] at h
    injection h with h1 h2
    injection h1 with h1
    rw [h1, ints_inj h2]
theorem T_inj {a b : List Int} (h : T a = T b) : a = b := ints_inj (D.tup.inj h)
theorem toKeys_ints : ∀ a : List Int, toKeys (a.map D.int) = some (a.map Sum.inl)
  | [] => rfl
  | x :: r => by
    rw [List.map_cons, toKeys, toKeys_ints r]
    rfl
theorem same_T {a b : List Int} : (D.same (T a) (T b) = true) ↔ a = b := ⟨fun h => T_inj (same_iff.mp h), fun h => by rw [h]; exact D.same_self _⟩
def Cd (cs : List (List Int)) : List (D × D) := cs.map fun c => (T c, D.bl true)
def addC (cs : List (List Int)) (a : List Int) : List (List Int) := if a ∈ cs then cs else cs ++ [a]
theorem look_Cd : ∀ (cs : List (List Int)) (a : List Int), look (Cd cs) (T a) = if a ∈ cs then some (.bl true) else none
  | [], a => rfl
  | c :: cs, a => by
    show look ((T c, D.bl true) :: Cd cs) (T a) = _
    rw [look, look_Cd cs a]
    by_cases h : c = a
    · rw [if_pos (same_T.mpr h), if_pos (by rw [h]; exact List.mem_cons_self)]
    · rw [if_neg (fun z => h (same_T.mp z))]
      by_cases h2 : a ∈ cs
      · rw [if_pos h2, if_pos (List.mem_cons_of_mem _ h2)]
      · rw [if_neg h2, if_neg (fun z => by
          rcases List.mem_cons.mp z with z | z
          · exact h z.symm
          · exact h2 z)]
theorem dKind_Cd (cs : List (List Int)) (a : List Int) : dKind (Cd cs) (T a) = true := by
  show ((toKeys (a.map D.int)).isSome && _) = true
  rw [toKeys_ints]
  cases cs <;> rfl
theorem putD_Cd : ∀ (cs : List (List Int)) (a : List Int), putD (Cd cs) (T a) (.bl true) = Cd (addC cs a)
  | [], a => rfl
  | c :: cs, a => by
    show putD ((T c, D.bl true) :: Cd cs) (T a) (.bl true) = _
    rw [putD]
    by_cases h : c = a
    · rw [if_pos (same_T.mpr h)]
      subst h
      unfold addC
      rw [if_pos List.mem_cons_self]
      rfl
    · rw [if_neg (fun z => h (same_T.mp z)), putD_Cd cs a]
      unfold addC
      by_cases h2 : a ∈ cs
      · rw [if_pos h2, if_pos (List.mem_cons_of_mem _ h2)]
        rfl
      · rw [if_neg h2, if_neg (fun z => by
          rcases List.mem_cons.mp z with z | z
          · exact h z.symm
          · exact h2 z)]
        rfl
theorem inB_dic {hp : Hd} {n : Nat} {a : List Int} {cs : List (List Int)} (h : hp[n]? = some (.dic (Cd cs))) : inB (T a) (.ref n) hp = some (decide (a ∈ cs)) := by
  show (match hp[n]? with
      | some (.lst ys) => inL hp (T a) ys
      | some o => match dicOf o with
        | some kvs => if dKind kvs (T a) = true then some (look kvs (T a)).isSome else none
        | none => none
      | none => none) = _
  rw [h]
  show (if dKind (Cd cs) (T a) = true then some (look (Cd cs) (T a)).isSome else none) = _
  rw [if_pos (dKind_Cd cs a), look_Cd]
  by_cases h2 : a ∈ cs
  · rw [if_pos h2, decide_eq_true h2]
    rfl
  · rw [if_neg h2, decide_eq_false h2]
    rfl
theorem gIn_dic {hp : Hd} {n : Nat} {a : List Int} {cs : List (List Int)} (h : hp[n]? = some (.dic (Cd cs))) : gIn (T a) (.ref n) hp = some (.bl (decide (a ∈ cs)), hp) := by
  unfold gIn
  rw [inB_dic h]
theorem gNotIn_dic {hp : Hd} {n : Nat} {a : List Int} {cs : List (List Int)} (h : hp[n]? = some (.dic (Cd cs))) : gNotIn (T a) (.ref n) hp = some (.bl (!decide (a ∈ cs)), hp) := by
  unfold gNotIn
  rw [inB_dic h]
theorem inB_tup {hp : Hd} {a : List Int} {cs : List (List Int)} : inB (T a) (.tup (cs.map T)) hp = some (decide (a ∈ cs)) := by
  show (if (flatD (T a) && (cs.map T).all flatD) = true then some ((cs.map T).any fun z => eqF z (T a)) else inL hp (T a) (cs.map T)) = _
  rw [if_neg (show ¬ (flatD (T a) && (cs.map T).all flatD) = true from fun z => by rw [Bool.and_eq_true] at z; exact Bool.noConfusion (show false = true from z.1)), inL_T]
  congr 1
  rw [Bool.eq_iff_iff, List.any_eq_true, decide_eq_true_eq]
  exact ⟨fun ⟨b, hb, e⟩ => by rw [← eq_of_beq e]; exact hb, fun h => ⟨a, h, beq_self_eq_true a⟩⟩
theorem gIn_tup {hp : Hd} {a : List Int} {cs : List (List Int)} : gIn (T a) (.tup (cs.map T)) hp = some (.bl (decide (a ∈ cs)), hp) := by
  unfold gIn
  rw [inB_tup]
theorem gLen_dic {hp : Hd} {n : Nat} {cs : List (List Int)} (h : hp[n]? = some (.dic (Cd cs))) : gLen [.ref n] hp = some (.int cs.length, hp) := by
  show (match hp[n]? with
    | some (.lst ds) => some (D.int ds.length, hp)
    | some (.dic ds) => some (D.int ds.length, hp)
    | _ => none) = _
  rw [h]
  show some (D.int ((Cd cs).length : Nat), hp) = _
  unfold Cd
  rw [List.length_map]
theorem prs_Cd : ∀ cs : List (List Int), prs? (cs.map fun c => D.tup [T c, .bl true]) = some (Cd cs)
  | [] => rfl
  | c :: cs => by
    rw [List.map_cons, prs?, prs_Cd cs]
    rfl
theorem putAll_Cd : ∀ (cs acc : List (List Int)), cs.Nodup → (∀ c ∈ cs, c ∉ acc) → putAll (Cd acc) (Cd cs) = Cd (acc ++ cs)
  | [], acc, _, _ => by
    rw [List.append_nil]
    rfl
  | c :: cs, acc, nd, h => by
    rw [List.nodup_cons] at nd
    show putAll (putD (Cd acc) (T c) (.bl true)) (Cd cs) = _
    rw [putD_Cd]
    unfold addC
    rw [if_neg (h c List.mem_cons_self), putAll_Cd cs _ nd.2, List.append_assoc]
    · rfl
    · intro x hx z
      rcases List.mem_append.mp z with z | z
      · exact h x (List.mem_cons_of_mem _ hx) z
      · have : x = c := by simpa using z
        subst this
        exact nd.1 hx
theorem gDictL_Cd {hp : Hd} {cs : List (List Int)} (nd : cs.Nodup) : gDictL (cs.map fun c => D.tup [T c, .bl true]) hp = some (.ref hp.length, hp ++ [.dic (Cd cs)]) := by
  unfold gDictL
  rw [prs_Cd]
  dsimp only
  have hk : ((Cd cs).all fun p => tupKey p.1) = true := by
    unfold Cd
    rw [List.all_map, List.all_eq_true]
    intro c _
    show (toKeys (c.map D.int)).isSome = true
    rw [toKeys_ints]
    rfl
  rw [hk, Bool.or_true, if_pos rfl]
  have := putAll_Cd cs [] nd (fun _ _ h => nomatch h)
  rw [List.nil_append] at this
  show some (D.ref hp.length, hp ++ [O.dic (putAll (Cd []) (Cd cs))]) = _
  rw [this]

theorem lexLt_iff : ∀ a b : List Int, HT.lexLt a b = decide (a < b)
  | [], [] => by simp [HT.lexLt]
  | [], y :: s => by simp [HT.lexLt]
  | x :: r, [] => by simp [HT.lexLt]
  | x :: r, y :: s => by
    rw [HT.lexLt, lexLt_iff r s]
    by_cases h : x = y
    · rw [if_pos h]
      subst h
      simp [List.cons_lt_cons_iff]
    · rw [if_neg h]
      simp [List.cons_lt_cons_iff, h]
theorem ints_map (a : List Int) : ints? (a.map D.int) = some a := ints?_map a
theorem gLt_T {hp : Hd} (a b : List Int) : gLt (T a) (T b) hp = some (.bl (decide (a < b)), hp) := by
  show (match ints? (a.map D.int), ints? (b.map D.int) with
    | some ns, some ms => some (D.bl (HT.lexLt ns ms), hp)
    | _, _ => none) = _
  rw [ints_map, ints_map]
  dsimp only
  rw [lexLt_iff]
theorem encD_T {hp : Hd} (a : List Int) : encD hp (T a) = .tuple (a.map PyData.int) := by
  unfold encD
  rw [pyF_T (n := 13)]
  rfl
theorem dataLe_T {hp : Hd} (a b : List Int) : PySem.W.dataLe false (encD hp) (T a) (T b) = decide (a ≤ b) := by
  have h := congrFun (congrFun (PySem.W.dataLe_rows (fun x : List Int => x)) a) b
  rw [← h]
  rw [PySem.W.dataLe_eq, PySem.W.dataLe_eq]
  show (!PySem.W.dataLt (encD hp (T b)) (encD hp (T a))) = (!PySem.W.dataLt (.list (b.map PyData.int)) (.list (a.map PyData.int)))
  rw [encD_T, encD_T, PySem.W.dataLt_tuple, PySem.W.dataLt_list]
def sortC (cs : List (List Int)) : List (List Int) := cs.mergeSort fun a b => decide (a ≤ b)
theorem srt_T {hp : Hd} (cs : List (List Int)) : srt hp (cs.map T) = (sortC cs).map T := by
  unfold srt sortC
  rw [List.map_mergeSort]
  intro a _ b _
  exact (dataLe_T a b).symm
theorem sortC_perm (cs : List (List Int)) : (sortC cs).Perm cs := List.mergeSort_perm _ _
theorem sortC_sorted (cs : List (List Int)) : (sortC cs).Pairwise (· ≤ ·) := by
  have := List.pairwise_mergeSort (le := fun a b : List Int => decide (a ≤ b)) (fun a b c h1 h2 => by
    simp only [decide_eq_true_eq] at *
    exact List.le_trans h1 h2) (fun a b => by
    simp only [Bool.or_eq_true, decide_eq_true_eq]
    exact List.le_total a b) cs
  exact this.imp fun h => of_decide_eq_true h
theorem sortC_self {cs : List (List Int)} (h : cs.Pairwise (· ≤ ·)) : sortC cs = cs := List.mergeSort_of_pairwise (h.imp fun h => decide_eq_true h)
theorem srtOk_T {hp : Hd} {cs : List (List Int)} (h : ∀ c ∈ cs, c ≠ []) : srtOk hp (cs.map T) = true := by
  unfold srtOk
  rw [Bool.and_eq_true, Bool.and_eq_true, Bool.and_eq_true]
  refine ⟨?_, ?_, ?_, ?_⟩ <;> try rw [List.all_map, List.all_eq_true]
  · intro c _
    show (pyF hp 15 (T c)).isSome = true
    rw [pyF_T (n := 13)]
    rfl
  · intro c _
    show ((cs.map T).all fun b => PySem.W.alike (encD hp (T c)) (encD hp b)) = true
    rw [List.all_map, List.all_eq_true]
    intro b _
    show PySem.W.alike (encD hp (T c)) (encD hp (T b)) = true
    rw [encD_T, encD_T, PySem.W.alike, PySem.W.alike_ints]
  · rw [Bool.or_eq_true]
    refine .inl ?_
    rw [List.all_map, List.all_eq_true]
    intro c hc
    show isTupC (encD hp (T c)) = true
    rw [encD_T]
    cases c with
    | nil => exact absurd rfl (h _ hc)
    | cons x r => rfl
  · intro c _
    show decide ((encD hp (T c)).depth ≤ 40) = true
    rw [encD_T, PyData.depth, depInts]
    rfl
theorem gSrt_T {hp : Hd} {cs : List (List Int)} (h : ∀ c ∈ cs, c ≠ []) : gSrt (cs.map T) hp = some ((sortC cs).map T, hp) := by
  unfold gSrt
  rw [if_pos (srtOk_T h), srt_T]
theorem gSrtO_lst {hp : Hd} {n : Nat} {cs : List (List Int)} (e : hp[n]? = some (.lst (cs.map T))) (h : ∀ c ∈ cs, c ≠ []) : gSrtO (.ref n) hp = some ((sortC cs).map T, hp) := by
  have e1 : seqOfL (.ref n) hp = some (cs.map T) := by
    show (match hp[n]? with
      | some (.lst xs) => some xs
      | _ => none) = _
    rw [e]
  unfold gSrtO
  rw [e1]
  exact gSrt_T h
theorem gSrtO_dic {hp : Hd} {n : Nat} {cs : List (List Int)} (e : hp[n]? = some (.dic (Cd cs))) (h : ∀ c ∈ cs, c ≠ []) : gSrtO (.ref n) hp = some ((sortC cs).map T, hp) := by
  have e1 : seqOfL (.ref n) hp = none := by
    show (match hp[n]? with
      | some (.lst xs) => some xs
      | _ => none) = _
    rw [e]
  have e2 : keysOf (.ref n) hp = some (cs.map T) := by
    show (match hp[n]? with
      | some (.dic kvs) => some (kvs.map fun p : D × D => p.1)
      | _ => none) = _
    rw [e]
    show some (List.map (fun p : D × D => p.1) (Cd cs)) = _
    unfold Cd
    rw [List.map_map]
    rfl
  unfold gSrtO
  rw [e1]
  dsimp only
  rw [e2]
  exact gSrt_T h
theorem cV_of {m : List D → Hd → Option (D × Hd)} {ds : List D} {hp g : Hd} {d : D} (hn : nrs ds = true) (e : m ds [] = some (d, g)) (hd : nr d = true) : cV m ds hp = some (d, hp) := by
  unfold cV
  rw [if_pos hn, e]
  dsimp only
  rw [if_pos hd]
theorem cN_of {m : List D → Hd → Option (D × Hd)} {ds : List D} {hp g : Hd} {k : Nat} {o : O} (hn : nrs ds = true) (e : m ds [] = some (.ref k, g)) (eo : g[k]? = some o) (ho : nrO o = true) : cN m ds hp = some (.ref hp.length, hp ++ [o]) := by
  unfold cN
  rw [if_pos hn, e]
  dsimp only
  rw [eo]
  dsimp only
  rw [if_pos ho]
theorem nr_tup {ds : List D} (h : nrs ds = true) : nr (.tup ds) = true := h
theorem nr_tTs (bs : List (List Int)) : nr (.tup (bs.map T)) = true := nrs_T bs
theorem nrs_cons {d : D} {ds : List D} (h1 : nr d = true) (h2 : nrs ds = true) : nrs (d :: ds) = true := by
  show D.alls _ (d :: ds) = true
  rw [D.alls, show D.all (fun _ => false) d = true from h1, show D.alls (fun _ => false) ds = true from h2]
  rfl
theorem nrO_Cd (cs : List (List Int)) : nrO (.dic (Cd cs)) = true := by
  show kvAll _ (Cd cs) = true
  induction cs with
  | nil => rfl
  | cons c r ih =>
    show kvAll _ ((T c, D.bl true) :: Cd r) = true
    rw [kvAll, ih, show D.all (fun _ => false) (T c) = true from nr_T c]
    rfl
theorem call1_of {fa : AE} {g : List D → Hd → Option (D × Hd)} {ls : Ls} {hp hp1 : Hd} {a : D} (e : fa ls hp = some (a, hp1)) : mAs (mCons fa mNil) (ar 1 g) ls hp = g [a] hp1 := by
  rw [mAs_s, mCons_s, e]
  rfl
theorem call2_of {fa fb : AE} {g : List D → Hd → Option (D × Hd)} {ls : Ls} {hp hp1 hp2 : Hd} {a b : D} (e : fa ls hp = some (a, hp1)) (e2 : fb ls hp1 = some (b, hp2)) : mAs (mCons fa (mCons fb mNil)) (ar 2 g) ls hp = g [a, b] hp2 := by
  rw [mAs_s, mCons_s, e]
  dsimp only
  rw [mCons_s, e2]
  rfl
theorem arg1_of {fa : AE} {g : List D → Hd → Option (D × Hd)} {ls : Ls} {hp hp1 : Hd} {a : D} (e : fa ls hp = some (a, hp1)) : mAs (mCons fa mNil) g ls hp = g [a] hp1 := by
  rw [mAs_s, mCons_s, e]
  rfl
end Ve
namespace Ve
open PySem PySem.Spec L2 PySem.AutoSeq1
theorem tuple_mul_same (l : Addr) (items : Array Value) (n : Nat) (dd : Option Addr) (sl : Array (Option Value)) (x : Int) (u : Tok) (c0 : (decide (x < -(2 ^ 63)) || decide (x ≥ 2 ^ 63)) = false) (c1 : (items.isEmpty || x == 1) = true) :
    Meets (Builtin.«tuple.__mul__» ⟨[.ref l, .int x u], []⟩) (fun _ R s => s.heap.get? l = some { cls := .type "tuple", dict := dd, data := .seq items n, slots := sl } ∧ R (.ok (.ret (.ref l))) s) :=
  .of_wp fun prog w A R s h => by
    obtain ⟨hp, g, d, tk, os⟩ := s
    obtain ⟨hl, h⟩ := h
    have f1 := AutoSeq1.idx_int
    wp_walk using wpAny_loadPart' hl
    repeat (first
      | (refine wpAny_ite_false (decide_eq_false (by rw [c0]; exact Bool.false_ne_true)) ?_; wp_walk using wpAny_loadPart' hl)
      | (refine wpAny_ite_true (decide_eq_true c1) ?_; wp_walk using wpAny_loadPart' hl))
    all_goals exact ⟨_, rfl, h⟩
theorem tuple_mul_none (l : Addr) (items : Array Value) (n : Nat) (dd : Option Addr) (sl : Array (Option Value)) (x : Int) (u : Tok) (c0 : (decide (x < -(2 ^ 63)) || decide (x ≥ 2 ^ 63)) = false) (c1 : (items.isEmpty || x == 1) = false) (c2 : (decide (x ≤ 0) || items.isEmpty) = true) :
    Meets (Builtin.«tuple.__mul__» ⟨[.ref l, .int x u], []⟩) (fun _ R s => s.heap.get? l = some { cls := .type "tuple", dict := dd, data := .seq items n, slots := sl } ∧
      R (.ok (.ret (Value.ref s.heap.objs.size))) { s with heap := s.heap.push { cls := Value.type "tuple", data := Data.seq #[] }, toks := s.toks }) :=
  .of_wp fun prog w A R s h => by
    obtain ⟨hp, g, d, tk, os⟩ := s
    obtain ⟨hl, h⟩ := h
    have f1 := AutoSeq1.idx_int
    wp_walk using wpAny_loadPart' hl
    repeat (first
      | (refine wpAny_ite_false (decide_eq_false (by rw [c0]; exact Bool.false_ne_true)) ?_; wp_walk using wpAny_loadPart' hl)
      | (refine wpAny_ite_false (decide_eq_false (by rw [c1]; exact Bool.false_ne_true)) ?_; wp_walk using wpAny_loadPart' hl)
      | (refine wpAny_ite_true (decide_eq_true c2) ?_; wp_walk using wpAny_loadPart' hl))
    all_goals exact ⟨_, rfl, h⟩
def rRepA (K : PySem.W.Frag) : R2 := fun x y H Q => ∃ l k xs, x = .ref l ∧ y = .int k ∧ SqT K H l xs ∧ xs ≠ [] ∧ 0 ≤ k ∧ k ≤ 1000 ∧ xs.length ≤ 1000 ∧ (k = 1 → Q (.ref l) H) ∧ (k ≠ 1 → ∀ p, H p = none → Q (.ref p) (upd H p (.tup (List.replicate k.toNat xs).flatten)))
section
variable {X : Cx}
theorem op_repA : OpR X (binaryOp .Mult) (rRepA X.K) := by
  intro pins s σ H x y v u Q I rx ry h
  obtain ⟨l, k, xs, rfl, rfl, hT, hne, h1, h2, hz, q1, q2⟩ := h
  by_cases hk : 2 ≤ k
  · exact op_repT pins s σ H _ _ v u Q I rx ry ⟨l, k, xs, rfl, rfl, hT, hne, hk, h2, hz, q2 (by omega)⟩
  · cases rx
    obtain ⟨t, rfl⟩ := ry
    obtain ⟨its, r, ⟨⟨cls, dd, data, sl⟩, ho, hc, n, hd⟩, hs⟩ := I.tuple hT
    simp only at hc hd
    subst hc hd
    have hle : its.length = xs.length := r.length.symm
    have hn : its ≠ [] := fun e => hne (by
      rw [e] at hle
      exact List.eq_nil_of_length_eq_zero hle.symm)
    have hi : its.toArray.isEmpty = false := by
      cases its with
      | nil => exact absurd rfl hn
      | cons a b => rfl
    have c0 : (decide (k < -(2 ^ 63)) || decide (k ≥ 2 ^ 63)) = false := by
      rw [decide_eq_false (by omega), decide_eq_false (by omega)] <;> rfl
    by_cases hk1 : k = 1
    · subst hk1
      have c1 : (its.toArray.isEmpty || (1 : Int) == 1) = true := by rw [hi]; rfl
      refine wpAny_binaryOp_repeat_ref (T := "tuple") (U := "int") (by decide) ⟨_, ho, rfl⟩ (fun s' => typeIs_int s' 1 t) noFill_tuple_mul PySem.F.fills_int_mul PySem.F.slot_int_rmul repeat_tuple PySem.F.slot_int_index.lookup
        (call_meets PySem.F.slot_int_rmul (typeIs_int s 1 t) PySem.F.entry_int_rmul (PySem.F.args_int_rmul_2 _ _) (int_rmul_tuple 1 t l its.toArray n dd sl)
          ⟨ho, rfl, ⟨_, ho, rfl⟩, call_meets PySem.F.slot_tuple_mul ⟨_, ho, rfl⟩ PySem.F.entry_tuple_mul (PySem.F.args_tuple_mul_2 _ _) (tuple_mul_same l its.toArray n dd sl 1 t c0 c1) ⟨ho, ?_⟩⟩)
      exact ⟨.ref l, H, I, rfl, q1 rfl⟩
    · have hk0 : k = 0 := by omega
      subst hk0
      have c1 : (its.toArray.isEmpty || (0 : Int) == 1) = false := by rw [hi]; rfl
      have c2 : (decide ((0 : Int) ≤ 0) || its.toArray.isEmpty) = true := by rw [decide_eq_true (Int.le_refl 0)]; rfl
      refine wpAny_binaryOp_repeat_ref (T := "tuple") (U := "int") (by decide) ⟨_, ho, rfl⟩ (fun s' => typeIs_int s' 0 t) noFill_tuple_mul PySem.F.fills_int_mul PySem.F.slot_int_rmul repeat_tuple PySem.F.slot_int_index.lookup
        (call_meets PySem.F.slot_int_rmul (typeIs_int s 0 t) PySem.F.entry_int_rmul (PySem.F.args_int_rmul_2 _ _) (int_rmul_tuple 0 t l its.toArray n dd sl)
          ⟨ho, rfl, ⟨_, ho, rfl⟩, call_meets PySem.F.slot_tuple_mul ⟨_, ho, rfl⟩ PySem.F.entry_tuple_mul (PySem.F.args_tuple_mul_2 _ _) (tuple_mul_none l its.toArray n dd sl 0 t c0 c1 c2) ⟨ho, ?_⟩⟩)
      refine ⟨.ref s.heap.objs.size, _, I.laid (t' := s.toks) (o := .tup []) (fun b ob q => Heap.get?_push_of_some _ q) (Nat.le_refl _) ?_, rfl, q2 (by decide) _ (I.hok.fresh (Nat.le_refl _))⟩
      exact ⟨Nat.zero_le _, _, .nil, PyProof.Rows.IsTup.new _ _⟩
def gMulT (x y : D) (hp : Hd) : Option (D × Hd) := match x, y with
  | .tup ds, .int k => if (!ds.isEmpty && decide (0 ≤ k ∧ k ≤ 1000 ∧ ds.length ≤ 1000)) = true then some (.tup (List.replicate k.toNat ds).flatten, hp) else none
  | _, _ => none
theorem o_mulT : OpR X (binaryOp .Mult) (RD X.K gMulT) := fun pins s σ H x y v u Q I rx ry ⟨hp, μ, d1, d2, d, hp', rh, r1, r2, e, q⟩ => by
  unfold gMulT at e
  split at e
  · rename_i ds k
    split at e
    · rename_i hc
      cases e
      rw [Bool.and_eq_true] at hc
      obtain ⟨k0, k1, k2⟩ := of_decide_eq_true hc.2
      obtain ⟨a, vs, rfl, ta, ra⟩ := r1.tupE
      have hne : vs ≠ [] := fun z => by
        have := ra.nil_iff.mp z
        subst this
        exact absurd hc.1 (by decide)
      refine op_repA pins s σ H _ y v u Q I rx ry ⟨a, k, vs, rfl, r2.intE, ta.sq, hne, k0, k1, by rw [ra.len]; exact k2, fun hk => ?_, fun _ p h0 => ?_⟩
      · subst hk
        refine q _ H μ Ext.refl rh (Rp.tup' ta ?_)
        show Rps X.K H μ (List.replicate 1 ds).flatten vs
        simpa using ra
      · have x2 := Ext.laid rh (o := .tup (List.replicate k.toNat vs).flatten) h0
        exact q _ _ μ x2 (rh.laid h0) (Rp.tup upd_same ((ra.rep k.toNat).ext x2))
    · cases e
  · cases e
end
end Ve
namespace Ve
open PySem PySem.Spec L2
def gTupV : List D → Hd → Option (D × Hd)
  | [.tup ds], hp => some (.tup ds, hp)
  | [.wt ds], hp => some (.wt ds, hp)
  | [d], hp => match seqOfL d hp with
    | some ds => some (.tup ds, hp)
    | none => none
  | _, _ => none
section
variable {X : Cx}
theorem c_tuple : CallR X (.type "tuple") (RDs X.K gTupV) := fun pins s σ H xs us Q I r ⟨hp, μ, ds, d, hp', rh, rs, e, q⟩ => by
  unfold gTupV at e
  split at e
  · cases e
    obtain ⟨v, rfl, r1⟩ := rs.one
    obtain ⟨a, vs, rfl, t, r2⟩ := r1.tupE
    exact call_tuple_of pins s σ H _ us Q I r ⟨a, vs, rfl, .inr ⟨t.sq, q _ H μ Ext.refl rh (Rp.tup' t r2)⟩⟩
  · cases e
    obtain ⟨v, rfl, r1⟩ := rs.one
    have r1' := r1
    obtain ⟨a, vs, rfl, t, r2⟩ := r1.wtE
    exact call_tuple_of pins s σ H _ us Q I r ⟨a, vs, rfl, .inr ⟨t.sq, q _ H μ Ext.refl rh r1'⟩⟩
  · split at e
    · rename_i ds' e1
      cases e
      obtain ⟨v, rfl, r1⟩ := rs.one
      obtain ⟨a, vs, rfl, hq, r2⟩ := seqOfL_some rh r1 e1
      refine call_tuple_of pins s σ H _ us Q I r ⟨a, vs, rfl, .inl ⟨hq, fun l h0 => ?_⟩⟩
      have x2 := Ext.laid rh (o := .tup vs) h0
      exact q _ _ μ x2 (rh.laid h0) (Rp.tup upd_same (r2.ext x2))
    · cases e
  · cases e
end
end Ve
namespace Ve
open PySem PySem.Spec L2
def gListO (d : D) (hp : Hd) : Option (List D × Hd) := match tupOf d with
  | some ds => some (ds, hp)
  | none => match seqOfL d hp with
    | some ds => some (ds, hp)
    | none => match keysOf d hp with
      | some ds => some (ds, hp)
      | none => none
theorem RpT.refs {K : PySem.W.Frag} {H : Hp} {μ : List Addr} : ∀ {kvs : List (D × D)} {vs : List (List Key × V)} {bs : List Addr}, RpT K H μ kvs vs → IsKeys H vs bs → Rps K H μ (kvs.map (·.1)) (bs.map V.ref)
  | [], _, bs, h, ik => by
    rw [RpT] at h
    subst h
    cases ik
    exact Rps.nil
  | p :: r, _, bs, h, ik => by
    rw [RpT] at h
    obtain ⟨ks, k, v, r', e0, rfl, h0, h1, h2⟩ := h
    cases ik with
    | cons hd tl =>
      rw [List.map_cons, List.map_cons]
      refine Rps.mk ?_ (RpT.refs h2 tl)
      rw [e0]
      exact Rp.tup hd (Rps.ofKeys h0)
theorem RpK.refs {K : PySem.W.Frag} {H : Hp} {μ : List Addr} : ∀ {kvs : List (D × D)} {vs : List (Key × V)}, RpK K H μ kvs vs → Rps K H μ (kvs.map (·.1)) (vs.map fun kv => kV kv.1)
  | [], _, h => by
    rw [RpK] at h
    subst h
    exact Rps.nil
  | p :: r, _, h => by
    rw [RpK] at h
    obtain ⟨k, v, r', rfl, h0, h1, h2⟩ := h
    rw [List.map_cons, List.map_cons]
    exact Rps.mk (Rp.ofKey h0) (RpK.refs h2)
section
variable {X : Cx} {e a b : Expr} {fa fb : AE} {fr : AA} {pos p2 : Pos}
theorem c_list (hc : X.calm = true) : CallR X (.type "list") (RDL X.K gListO) := fun pins s σ H xs us Q I r ⟨hp, μ, d, v, ds', hp', rh, ex, rd, e, q⟩ => by
  unfold gListO at e
  split at e
  · rename_i ds e1
    cases e
    subst ex
    obtain ⟨a, vs, rfl, ta, ra⟩ := tupOf_some e1 rd
    have qa : SqT X.K H a vs := ta.elim (fun t => t.sq) fun t => t.sq
    refine call_list_of pins s σ H _ us Q I r ⟨a, vs, rfl, .inr qa, fun l h0 => ?_⟩
    have x := Ext.laid rh (o := .lst vs) h0
    exact q l vs _ μ x (rh.laid h0) h0 (rh.notIn h0) upd_same (ra.ext x)
  · split at e
    · rename_i ds e1
      cases e
      subst ex
      obtain ⟨a, vs, rfl, hq, rs⟩ := seqOfL_some rh rd e1
      refine call_list_of pins s σ H _ us Q I r ⟨a, vs, rfl, .inl hq, fun l h0 => ?_⟩
      have x := Ext.laid rh (o := .lst vs) h0
      exact q l vs _ μ x (rh.laid h0) h0 (rh.notIn h0) upd_same (rs.ext x)
    · split at e
      · rename_i ds e1
        cases e
        subst ex
        obtain ⟨n, kvs, rfl, eh, rfl⟩ := keysOf_some e1
        obtain ⟨a, ea, rfl⟩ := rd.refE
        obtain ⟨nd, ⟨vs, ev, rk⟩ | ⟨vs, ev, rk⟩⟩ := rh.dic ea eh
        · refine call_list_dK hc pins s σ H _ us Q I r ⟨a, vs, rfl, ev, fun l h0 => ?_⟩
          have x := Ext.laid rh (o := .lst (vs.map fun kv => kV kv.1)) h0
          exact q l _ _ μ x (rh.laid h0) h0 (rh.notIn h0) upd_same (rk.refs.ext x)
        · refine call_list_dT hc pins s σ H _ us Q I r ⟨a, vs, rfl, .inl ev, fun l bs h0 ik => ?_⟩
          have x := Ext.laid rh (o := .lst (bs.map V.ref)) h0
          exact q l _ _ μ x (rh.laid h0) h0 (rh.notIn h0) upd_same ((rk.refs ik).ext x)
      · cases e
def mList (fa : AE) : AA := fun ls hp => match fa ls hp with
  | some (d, hp1) => gListO d hp1
  | none => none
theorem le_list {x : Str} {p : Pos} (hc : X.calm = true) (hg : Gl X x) (hm : X.mg x = none) (hv : bootBuiltins x = some (.type "list")) (ha : DE X e fa) (hn : x ≠ "__name__" := by decide)
    (hdb : (x == ("__debug__" : Str)) = false := by decide) (he : starEach [e] X.env = (false, eval e X.env) :: starEach [] X.env := by rfl) : LE X (.Call (.Name x p) [e] [] pos) (mList fa) :=
  PE.imp (pe_callTy (c_list hc) hg hm hv (pa_cons ha pa_nil he) hn hdb he rfl) fun σ H Q ⟨ls, hp, μ, ds, hp', rl, rh, e, q⟩ => by
    unfold mList at e
    split at e
    · rename_i d hp1 e1
      exact ⟨ls, hp, μ, d, hp1, rl, rh, e1, fun v H1 μ1 x1 rh1 r1 => ⟨hp1, μ1, d, v, ds, hp', rh1, rfl, r1, e, fun a ws H2 μ2 x2 rh2 h2 n2 l2 r2 =>
        q a ws H2 μ2 (x1.trans x2) rh2 (x1.back rh1 h2) n2 l2 r2⟩⟩
    · cases e
end
end Ve
namespace Ve
open PySem PySem.Spec L2
abbrev TgM := D → Ls → Hd → Option (Ls × Hd)
def gM (K : PySem.W.Frag) (t : TgM) : TG := fun v σ H Q => ∃ ls hp μ d ls' hp', Rl K H μ ls σ ∧ RelH K H μ hp ∧ Rp K H μ d v ∧ t d ls hp = some (ls', hp') ∧ ∀ σ' H' μ', Ext μ H μ' H' → RelH K H' μ' hp' → Rl K H' μ' ls' σ' → Q σ' H'
def gMs (K : PySem.W.Frag) (t : List D → Ls → Hd → Option (Ls × Hd)) : TGs := fun vs σ H Q => ∃ ls hp μ ds ls' hp', Rl K H μ ls σ ∧ RelH K H μ hp ∧ Rps K H μ ds vs ∧ t ds ls hp = some (ls', hp') ∧ ∀ σ' H' μ', Ext μ H μ' H' → RelH K H' μ' hp' → Rl K H' μ' ls' σ' → Q σ' H'
def tNm (i : Nat) : TgM := fun d ls hp => some (ls.set i (some d), hp)
def tSub (fo fi : AE) : TgM := fun d ls hp => match fo ls hp with
  | some (x, hp1) => match fi ls hp1 with
    | some (y, hp2) => match gSet x y d hp2 with
      | some hp3 => some (ls, hp3)
      | none => none
    | none => none
  | none => none
def tTps : List TgM → List D → Ls → Hd → Option (Ls × Hd)
  | [], [], ls, hp => some (ls, hp)
  | t :: ts, d :: ds, ls, hp => match t d ls hp with
    | some (ls1, hp1) => tTps ts ds ls1 hp1
    | none => none
  | _, _, _, _ => none
def tTp (ts : List TgM) : TgM := fun d ls hp => match tupOf d with
  | some ds => tTps ts ds ls hp
  | none => none
abbrev DM (X : Cx) (e : Expr) (t : TgM) : Prop := PG X e (gM X.K t)
abbrev DMs (X : Cx) (e : List Expr) (ts : List TgM) : Prop := PGs X e (gMs X.K (tTps ts))
section
variable {X : Cx} {e a b : Expr} {es : List Expr} {fa fb fo fi : AE} {fr : AA} {pos p2 : Pos} {t : TgM} {ts : List TgM}
theorem dm_name {i : Nat} {x : Str} (hN : X.N.Nodup) (hi : X.N[i]? = some x) (hx : Loc X.env.scope x) (hf : X.fn x = true ∨ X.env.scope.names.lookup x = some .local := by first | exact .inl rfl | exact .inr rfl | assumption) :
    DM X (.Name x pos) (tNm i) :=
  PG.imp (pg_name hN hi hx hf) fun v σ H Q ⟨ls, hp, μ, d, ls', hp', rl, rh, r, e, q⟩ => by
    unfold tNm at e
    cases e
    exact q _ H μ Ext.refl rh (rl.set r)
theorem dm_sub {o i : Expr} (hu : X.A.units + 1 < cLine) (ho : DE X o fo) (hi : DE X i fi)
    (ha : ∀ v, assign (.Subscript o i pos) X.env v = (do
      let ov ← holding [v] (eval o X.env)
      let iv ← holding [v, ov] (eval i X.env)
      standAt pos
      holding [v, ov, iv] (setItem ov iv v)
      release [v, ov, iv] []) := by intro _; rfl) : DM X (.Subscript o i pos) (tSub fo fi) :=
  PG.imp (pg_sub ho hi (set_any hu) ha) fun v σ H Q ⟨ls, hp, μ, d, ls', hp', rl, rh, r, e, q⟩ => by
    unfold tSub at e
    split at e
    · rename_i x hp1 e1
      split at e
      · rename_i y hp2 e2
        split at e
        · rename_i hp3 e3
          cases e
          exact ⟨ls, hp, μ, x, hp1, rl, rh, e1, fun v1 H1 μ1 x1 rh1 r1 => ⟨ls, hp1, μ1, y, hp2, rl.ext x1, rh1, e2, fun v2 H2 μ2 x2 rh2 r2 =>
            ⟨hp2, μ2, x, y, d, hp', rh2, r1.ext x2, r2, (r.ext x1).ext x2, e3, fun H3 x3 rh3 => q σ H3 μ2 ((x1.trans x2).trans x3) rh3 (((rl.ext x1).ext x2).ext x3)⟩⟩⟩
        · cases e
      · cases e
    · cases e
theorem dms_nil : DMs X [] [] := PGs.imp pgs_nil fun v σ H Q ⟨ls, hp, μ, ds, ls', hp', rl, rh, r, e, q⟩ => by
  cases ds with
  | nil =>
    simp only [tTps] at e
    cases e
    rw [Rps] at r
    exact ⟨r, q σ H μ Ext.refl rh rl⟩
  | cons x xs => simp [tTps] at e
theorem dms_cons (h1 : DM X e t) (h2 : DMs X es ts) (hs : (assignEach (e :: es) X.env).map (·.2) = assign e X.env :: (assignEach es X.env).map (·.2) := by rfl) : DMs X (e :: es) (t :: ts) :=
  PGs.imp (pgs_cons h1 h2 hs) fun v σ H Q ⟨ls, hp, μ, ds, ls', hp', rl, rh, r, e, q⟩ => by
    cases ds with
    | nil => simp [tTps] at e
    | cons x xs =>
      simp only [tTps] at e
      split at e
      · rename_i ls1 hp1 e1
        rw [Rps] at r
        obtain ⟨v1, vs, rfl, r1, r2⟩ := r
        exact ⟨v1, vs, rfl, ls, hp, μ, x, ls1, hp1, rl, rh, r1, e1, fun σ1 H1 μ1 x1 rh1 rl1 => ⟨ls1, hp1, μ1, xs, ls', hp', rl1, rh1, r2.ext x1, e, fun σ2 H2 μ2 x2 rh2 rl2 => q σ2 H2 μ2 (x1.trans x2) rh2 rl2⟩⟩
      · cases e
theorem tTps_len : ∀ {ts : List TgM} {ds : List D} {ls ls' : Ls} {hp hp' : Hd}, tTps ts ds ls hp = some (ls', hp') → ds.length = ts.length
  | [], [], _, _, _, _, _ => rfl
  | [], _ :: _, _, _, _, _, h => by simp [tTps] at h
  | _ :: _, [], _, _, _, _, h => by simp [tTps] at h
  | t :: ts, d :: ds, ls, ls', hp, hp', h => by
    simp only [tTps] at h
    split at h
    · rw [List.length_cons, List.length_cons, tTps_len h]
    · cases h
theorem dm_tup {k : Nat} (hc : X.calm = true) (h : DMs X es ts) (hn : (assignEach es X.env).length = ts.length := by rfl) (hst : (assignEach es X.env).findIdx? (·.1) = none := by rfl) : DM X (.Tuple es k pos) (tTp ts) :=
  PG.imp (pg_tup (n := ts.length) hc h hn hst) fun v σ H Q ⟨ls, hp, μ, d, ls', hp', rl, rh, r, e, q⟩ => by
    unfold tTp at e
    split at e
    · rename_i ds e1
      obtain ⟨a, vs, rfl, ta, rs⟩ := tupOf_some e1 r
      exact ⟨a, vs, rfl, ta.elim (fun t => t.sq) fun t => t.sq, by rw [rs.len, tTps_len e], ls, hp, μ, ds, ls', hp', rl, rh, rs, e, q⟩
    · cases e
def sAsgM (t : TgM) (f : AE) : AS := fun ls hp => match f ls hp with
  | some (d, hp1) => match t d ls hp1 with
    | some (ls1, hp2) => some (.nx, ls1, hp2)
    | none => none
  | none => none
theorem ds_asgM {tg : Expr} (he : DE X e fa) (hg : DM X tg t) (hs : swapsWithSole [tg] e pos.line X.env = pure false := by rfl) (hsw : swappedStores [tg] e X.env = pure none := by rfl) (h1 : (assignEach [tg] X.env).map (·.2) = [assign tg X.env] := by rfl) : DS X (.Assign [tg] e pos) (sAsgM t fa) :=
  PS.imp (ps_asg he hg hs hsw h1) fun Dn σ H ⟨ls, hp, μ, fl, ls', hp', rl, rh, e, q⟩ => by
    unfold sAsgM at e
    split at e
    · rename_i d hp1 e1
      split at e
      · rename_i ls1 hp2 e2
        cases e
        exact ⟨ls, hp, μ, d, hp1, rl, rh, e1, fun v H' μ' x1 rh1 r1 => ⟨ls, hp1, μ', d, ls', hp', rl.ext x1, rh1, r1, e2, fun σ' H2 μ2 x2 rh2 rl2 => q H2 μ2 (x1.trans x2) rh2 σ' rl2⟩⟩
      · cases e
    · cases e
end
def notNon : PyData → Bool
  | .none => false
  | _ => true
theorem notNon_ne {p : PyData} (h : notNon p = true) : p ≠ .none := fun e => by subst e; cases h
def cmpX (f : PyData → PyData → Bool) (x y : D) (hp : Hd) : Option (D × Hd) := match pyF hp 15 x, pyF hp 15 y with
  | some p, some q => if (PySem.W.alike p q && (notNon p && decide (min p.depth q.depth ≤ 40))) = true then some (.bl (f p q), hp) else none
  | _, _ => none
theorem cmpX_some {f : PyData → PyData → Bool} {x y d : D} {hp hp' : Hd} (h : cmpX f x y hp = some (d, hp')) : ∃ p q, pyF hp 15 x = some p ∧ pyF hp 15 y = some q ∧ PySem.W.alike p q = true ∧ p ≠ .none ∧ min p.depth q.depth ≤ 40 ∧ d = .bl (f p q) ∧ hp' = hp := by
  unfold cmpX at h
  split at h
  · rename_i p q e1 e2
    split at h
    · rename_i hc
      rw [Bool.and_eq_true, Bool.and_eq_true] at hc
      cases h
      exact ⟨p, q, e1, e2, hc.1, notNon_ne hc.2.1, of_decide_eq_true hc.2.2, rfl, rfl⟩
    · cases h
  · cases h
def gLtX := cmpX fun p q => PySem.W.dataLt p q
def gGtX := cmpX fun p q => PySem.W.dataLt q p
def gLeX := cmpX fun p q => !PySem.W.dataLt q p
def gGeX := cmpX fun p q => !PySem.W.dataLt p q
section
variable {X : Cx}
theorem o_ltX (hu : X.A.units + 64 < cLine) : OpR X (compareOp .Lt) (RD X.K gLtX) := fun pins s σ H x y v u Q I rx ry ⟨hp, μ, d1, d2, d, hp', rh, r1, r2, e, q⟩ => by
  obtain ⟨p, p', e1, e2, ha, hn, hd, rfl, rfl⟩ := cmpX_some e
  obtain ⟨as, ra⟩ := Dp.reads I p _ _ (pyF_dp rh 15 _ p _ e1 r1) rx
  obtain ⟨bs, rb⟩ := Dp.reads I p' _ _ (pyF_dp rh 15 _ p' _ e2 r2) ry
  exact PySem.W.lt_data ra rb ha hn (by omega) ⟨.bl _, H, I, rfl, q _ H μ Ext.refl rh Rp.bl⟩
theorem o_gtX (hu : X.A.units + 64 < cLine) : OpR X (compareOp .Gt) (RD X.K gGtX) := fun pins s σ H x y v u Q I rx ry ⟨hp, μ, d1, d2, d, hp', rh, r1, r2, e, q⟩ => by
  obtain ⟨p, p', e1, e2, ha, hn, hd, rfl, rfl⟩ := cmpX_some e
  obtain ⟨as, ra⟩ := Dp.reads I p _ _ (pyF_dp rh 15 _ p _ e1 r1) rx
  obtain ⟨bs, rb⟩ := Dp.reads I p' _ _ (pyF_dp rh 15 _ p' _ e2 r2) ry
  exact PySem.W.gt_data ra rb ha hn (by omega) ⟨.bl _, H, I, rfl, q _ H μ Ext.refl rh Rp.bl⟩
theorem o_leX (hu : X.A.units + 64 < cLine) : OpR X (compareOp .LtE) (RD X.K gLeX) := fun pins s σ H x y v u Q I rx ry ⟨hp, μ, d1, d2, d, hp', rh, r1, r2, e, q⟩ => by
  obtain ⟨p, p', e1, e2, ha, hn, hd, rfl, rfl⟩ := cmpX_some e
  obtain ⟨as, ra⟩ := Dp.reads I p _ _ (pyF_dp rh 15 _ p _ e1 r1) rx
  obtain ⟨bs, rb⟩ := Dp.reads I p' _ _ (pyF_dp rh 15 _ p' _ e2 r2) ry
  exact PySem.W.le_data ra rb ha hn (by omega) ⟨.bl _, H, I, rfl, q _ H μ Ext.refl rh Rp.bl⟩
theorem o_geX (hu : X.A.units + 64 < cLine) : OpR X (compareOp .GtE) (RD X.K gGeX) := fun pins s σ H x y v u Q I rx ry ⟨hp, μ, d1, d2, d, hp', rh, r1, r2, e, q⟩ => by
  obtain ⟨p, p', e1, e2, ha, hn, hd, rfl, rfl⟩ := cmpX_some e
  obtain ⟨as, ra⟩ := Dp.reads I p _ _ (pyF_dp rh 15 _ p _ e1 r1) rx
  obtain ⟨bs, rb⟩ := Dp.reads I p' _ _ (pyF_dp rh 15 _ p' _ e2 r2) ry
  exact PySem.W.ge_data ra rb ha hn (by omega) ⟨.bl _, H, I, rfl, q _ H μ Ext.refl rh Rp.bl⟩
end
end Ve
open PySem in
theorem Ve.meets_enumerate_newT (l : Addr) (items : Array Value) (n : Nat) (dct : Option Addr) (sl : Array (Option Value)) :
    Meets (Builtin.«enumerate.__new__» ⟨[.type "enumerate", .ref l], []⟩) (fun _ R s => s.heap.get? l = some { cls := .type "tuple", dict := dct, data := .seq items n, slots := sl } ∧
      R (.ok (.ret (.ref (s.heap.push { cls := .type "tuple_iterator", data := .fields #[.ref l, .int 0 0] }).objs.size)))
        { s with heap := (s.heap.push { cls := .type "tuple_iterator", data := .fields #[.ref l, .int 0 0] }).push { cls := .type "enumerate", data := .fields #[.none, .bool false, .ref s.heap.objs.size, rawInt 0, .none, .none] } }) :=
  .of_wp fun prog w A R s h => by
    obtain ⟨hp, g, d, tk, os⟩ := s; obtain ⟨hl, h⟩ := h
    have hsub := sub_enumerate
    have hL : Heap.IsTuple (Shared.heap ⟨hp, g, d, tk, os⟩) l items := ⟨_, hl, rfl, n, rfl⟩
    wp_walk using AutoSeq1.wpAny_loadPart' hl
    refine wpAny_stack_any fun st => wpAny_pure ?_
    split
    · rename_i c _ _ _ _ _
      cases (c == Value.type "enumerate")
      · wp_walk using AutoSeq1.wpAny_loadPart' hl, wpAny_pyIter_tuple hL
        exact ⟨_, rfl, h⟩
      · wp_walk using AutoSeq1.wpAny_loadPart' hl, wpAny_pyIter_tuple hL
        exact ⟨_, rfl, h⟩
    · wp_walk using AutoSeq1.wpAny_loadPart' hl, wpAny_pyIter_tuple hL
      exact ⟨_, rfl, h⟩
open PySem in
theorem Ve.call_enumerate_tuple {prog : Program} {w : World} {A : Around} {E : Value → Shared → Prop} {s : Shared} {l : Addr} {items : Array Value} {Q : Value → Shared → Prop} (hL : s.heap.IsTuple l items)
    (h : ∀ h', IsEnum h' (s.heap.objs.size + 1) s.heap.objs.size 0 .none → h'.IsTupleIter s.heap.objs.size l 0 → h'.objs.size = s.heap.objs.size + 2 →
      (∀ b o, s.heap.get? b = some o → h'.get? b = some o) → Q (.ref (s.heap.objs.size + 1)) { s with heap := h' }) :
    wpAny (model prog w) A (call (.type "enumerate") [.ref l]) Q E s := by
  obtain ⟨⟨c, dct, dt, sl⟩, hl, hc, n, hd⟩ := hL
  replace hc : c = .type "tuple" := hc
  replace hd : dt = .seq items n := hd
  subst hc hd
  refine callType_new F.called_enumerate (by decide) (F.typeCall_enumerate_1 _) (F.newCall_enumerate_1 _) (fun obj => F.args_object_init_2 obj _) F.entry_enumerate_new
    (Ve.meets_enumerate_newT l items n dct sl) ⟨hl, ?_⟩
  have hz : (s.heap.push { cls := .type "tuple_iterator", data := .fields #[.ref l, .int 0 0] }).objs.size = s.heap.objs.size + 1 := Heap.size_push ..
  show _ ∧ _
  rw [hz]
  have he : IsEnum ((s.heap.push { cls := .type "tuple_iterator", data := .fields #[.ref l, .int 0 0] }).push { cls := .type "enumerate", data := .fields #[.none, .bool false, .ref s.heap.objs.size, rawInt 0, .none, .none] }) (s.heap.objs.size + 1) s.heap.objs.size 0 .none := by
    have := Heap.get?_push_size (s.heap.push { cls := .type "tuple_iterator", data := .fields #[.ref l, .int 0 0] }) (o := { cls := .type "enumerate", data := .fields #[.none, .bool false, .ref s.heap.objs.size, rawInt 0, .none, .none] }) rfl
    rw [hz] at this
    exact this
  exact ⟨⟨_, he, rfl⟩, h _ he ⟨_, Heap.get?_push_of_some _ (Heap.get?_push_size _ rfl), rfl, rfl⟩ (by rw [Heap.size_push, hz]) fun b o x => Heap.get?_push_of_some _ (Heap.get?_push_of_some _ x)⟩
open PySem in
theorem Ve.enum_endT {prog : Program} {w : World} {A : Around} {E : Value → Shared → Prop} {s : Shared} {e it t : Addr} {items : Array Value} {j : Nat} {i : Int} {old : Value} {Q : Option Value → Shared → Prop} (hh : A.handled = none) (he : IsEnum s.heap e it i old) (hit : s.heap.IsTupleIter it t j) (ht : s.heap.IsTuple t items) (hj : items.size ≤ j)
    (hQ : ∀ h', Heap.ExtBut it s.heap h' → Q none { s with heap := h' }) : wpAny (model prog w) A (pyNext (.ref e)) Q E s := by
  have hT : s.TypeIs (.ref e) "enumerate" := ⟨_, he, rfl⟩
  unfold pyNext
  refine wpAny_bind (wpAny_attempt (wpAny_callSpecial?_slot (name := Str.ofString "__next__") hT F.slot_enumerate_next
    (wpAny_call_entry F.slot_enumerate_next hT F.entry_enumerate_next ?_ (F.args_enumerate_next_1 _))))
  show wpAny _ _ (field (.ref e) 2 >>= _) _ _ _
  refine wpAny_bind (wpAny_field he rfl (x := .ref it) rfl ?_)
  refine wpAny_bind (wpAny_nextOf_tuple_end (A := A.in1) hh hit ht (by simpa using hj) fun h' x he' hx' => ?_)
  obtain ⟨o, ho, hc⟩ := hx'
  refine wpAny_bind (wpAny_isInstance (T := "StopIteration") (b := true) ⟨o, ho, hc⟩ isSubtype_stop ?_)
  exact wpAny_pure (hQ _ he')
namespace Ve
open PySem PySem.Spec L2
def IteT (K : PySem.W.Frag) (a : Addr) : It :=
  ⟨fun i H => ∃ (xs : List V) (x : V), SqT K H a xs ∧ xs[i]? = some x, fun i H v H' => ∃ T x, v = .ref T ∧ H T = none ∧ H' = upd H T (.tup [.int (i : Nat), x]) ∧ ∀ xs, SqT K H a xs → xs[i]? = some x, fun i H => ∃ xs : List V, SqT K H a xs ∧ xs.length ≤ i⟩
theorem turn_enumT {P : Program} {w : World} {K : PySem.W.Frag} {elts : List Expr} {kk : Nat} {tpos : Pos} (a e it : Addr) (hat : a ≠ it) (hae : a ≠ e) :
    Turn P w K (.Tuple elts kk tpos) (IteT K a) [e, it] e (fun i h => (∃ old, IsEnum h e it ((i : Nat) : Int) old) ∧ h.IsTupleIter it a i ∧ e ≠ it) where
  mem := by simp
  obj := fun i h st b hb => by
    obtain ⟨⟨old, he⟩, ⟨o, ho, hc, hd⟩, _⟩ := st
    have e' : b = e ∨ b = it := by simpa using hb
    rcases e' with z | z
    · rw [z]; exact ⟨_, he, fun v q => nomatch q⟩
    · rw [z]; exact ⟨o, ho, fun v q => by rw [hd] at q; cases q⟩
  keep := fun i h h' st k => let ⟨⟨old, he⟩, hi, hne⟩ := st; ⟨⟨old, k e (by simp) _ he⟩, hi.at fun o q => k it (by simp) o q, hne⟩
  item := by
    intro X hP hw hK hc i pins s σ H E I hf st hg
    subst hP hw hK
    obtain ⟨⟨old, he⟩, hit, hne⟩ := st
    obtain ⟨xs, x, hq, hx⟩ := hg
    obtain ⟨its, rv, p, hz⟩ := I.tuple hq
    obtain ⟨u, hu, ru⟩ := rv.get hx
    have hel : e < s.heap.objs.size := Heap.lt_size he
    have hil : it < s.heap.objs.size := by obtain ⟨_, q, _⟩ := hit; exact Heap.lt_size q
    have hlt : i < its.toArray.size := by simpa using (List.getElem?_eq_some_iff.mp hu).1
    refine wpAny_pyNext_enum_itemD (Draws.tuple (prog := X.prog) (w := X.w) (A := X.A.in1) (I.ok.hd hc) it a hat its.toArray) he ⟨hit, p⟩ hlt hne (by simp; exact ⟨hne, Ne.symm hae⟩) fun x' h' tk hpx ho hit' hT hsz hk => ?_
    have hx' : x' = u := by
      have : its[i]? = some x' := by simpa using hpx
      rw [hu] at this
      exact (Option.some.inj this).symm
    subst hx'
    refine ⟨_, rfl, wpAny_letOwnedTupleGo_enum (s := { s with heap := h', toks := tk + 1 }) ho fun h'' he' sb => ?_⟩
    have hT2 : h''.get? s.heap.objs.size = some { cls := .type "tuple", data := .seq #[.int i tk, x'] } := (sb.2 _ (Nat.ne_of_gt hel)).trans hT
    have new : ObjOk X.prog X.w (upd H s.heap.objs.size (.tup [.int (i : Nat), x])) h'' s.heap.objs.size (.tup [.int (i : Nat), x]) :=
      ⟨by show 2 ≤ sizeLine; decide, [.int i tk, x'], .cons ⟨_, rfl⟩ (.cons ru .nil), ⟨_, hT2, rfl, _, rfl⟩⟩
    have I1 : Inv X pins σ (upd H s.heap.objs.size (.tup [.int (i : Nat), x])) { s with heap := h'', toks := tk + 1 } :=
      I.turnedNew (ch := [e, it]) (fun b ob hb q => (sb.2 b (fun z => hb (by simp [z]))).trans (hk b ob (fun z => hb (by simp [z])) (fun z => hb (by simp [z])) q)) hf (Nat.le_refl _) new
    refine ⟨.ref s.heap.objs.size, _, I1, rfl, ⟨_, x, rfl, I.hok.fresh (Nat.le_refl _), rfl, fun ys hy => by rw [I.tuple_inj hy hq]; exact hx⟩, ⟨⟨x', ?_⟩, hit'.1.at fun o q => (sb.2 it (Ne.symm hne)).trans q, hne⟩, fun b hb => ?_⟩
    · have e1 : ((i + 1 : Nat) : Int) = (i : Int) + 1 := by omega
      rw [e1]; exact he'
    · have hb' : b < s.heap.objs.size := by
        have e' : b = e ∨ b = it := by simpa using hb
        rcases e' with z | z
        · rw [z]; exact hel
        · rw [z]; exact hil
      rw [upd_ne (Nat.ne_of_lt hb')]
      exact (hf b hb).1
  done := by
    intro X hP hw hK hc i pins s σ H E I hf st hg
    subst hP hw hK
    obtain ⟨⟨old, he⟩, hit, hne⟩ := st
    obtain ⟨xs, hq, hx⟩ := hg
    obtain ⟨its, rv, p, hz⟩ := I.tuple hq
    obtain ⟨f0, f1, f2, f3, f4, f5⟩ := hf it (by simp)
    have hl := rv.length
    exact Ve.enum_endT (I.ok.hd hc) he hit p (by simp; omega) fun h' eb => ⟨rfl, I.turned (t' := s.toks) (fun b o hb q => eb b o hb q) f0 f1 f3 f4 f5⟩
  self := fun A i s Q E st h => let ⟨⟨_, he⟩, _⟩ := st; wpAny_pyIter_enum he h
def iEnumT (K : PySem.W.Frag) (ta : TA) : TI := fun σ H R => ta σ H fun vs H1 => ∃ a xs, vs = [.ref a] ∧ SqT K H1 a xs ∧ R (IteT K a) H1
open PyProof.Rows in
theorem pi_enumT {X : Cx} {e : Expr} {ta : TA} {p pos tpos : Pos} {elts : List Expr} {kk : Nat} (hg : Gl X "enumerate") (hm : X.mg "enumerate" = none) (ha : PA X [e] ta) (hs : starEach [e] X.env = [(false, eval e X.env)] := by rfl) :
    PI X (.Tuple elts kk tpos) (.Call (.Name "enumerate" p) [e] [] pos) (iEnumT X.K ta) := by
  refine ⟨fun pins s σ H R I h => ?_⟩
  refine PyProof.Rows.Call_ (ld_blt I hg hm boot_enumerate (PyProof.Rows.callWith_type1 (thn (ha.run pos pins s σ H _ I h) fun us s1 ⟨vs, H1, I1, r1, q1⟩ => ?_) hs rfl))
  obtain ⟨a, xs, ex, hq, q⟩ := q1
  subst ex
  cases r1 with
  | cons r rr =>
    cases rr
    cases r
    obtain ⟨its, rv, p', hz⟩ := I1.tuple hq
    have hal : a < s1.heap.objs.size := by obtain ⟨_, q, _⟩ := p'; exact Heap.lt_size q
    refine Ve.call_enumerate_tuple p' fun h' he hit hsz hk => wpAny_pyIter_enum he ?_
    have I2 : Inv X pins σ H1 { s1 with heap := h' } := I1.kept (t' := s1.toks) hk
    refine ⟨s1.heap.objs.size + 1, [s1.heap.objs.size + 1, s1.heap.objs.size], _, _, H1, rfl, I2, turn_enumT a (s1.heap.objs.size + 1) s1.heap.objs.size (Nat.ne_of_lt hal) (Nat.ne_of_lt (Nat.lt_succ_of_lt hal)), ⟨⟨.none, he⟩, hit, Nat.succ_ne_self _⟩, fun b hb => ?_, q⟩
    have e' : b = s1.heap.objs.size + 1 ∨ b = s1.heap.objs.size := by simpa using hb
    have hle : s1.heap.objs.size ≤ b := by
      rcases e' with z | z
      · rw [z]; exact Nat.le_add_right _ _
      · rw [z]; exact Nat.le_refl _
    exact I1.fpOk hle (I1.hok.fresh hle)
def enumD (xs : List D) : List D := xs.zipIdx.map fun p => D.tup [.int (p.2 : Nat), p.1]
theorem enumD_length (xs : List D) : (enumD xs).length = xs.length := by simp [enumD]
theorem enumD_at {xs : List D} {i : Nat} {x : D} (h : xs[i]? = some x) : (enumD xs)[i]? = some (.tup [.int (i : Nat), x]) := by
  simp [enumD, h]
def mEnum (f : AE) : AI := fun ls hp => match f ls hp with
  | some (d, hp1) => match tupOf d with
    | some ds => some (enumD ds, [], hp1)
    | none => match d with
      | .ref n => match hp1[n]? with
        | some (.lst xs) => some (enumD xs, [(n, xs)], hp1)
        | _ => none
      | _ => none
  | none => none
section
variable {X : Cx} {e : Expr} {fa : AE} {elts : List Expr} {kk : Nat} {pos tpos : Pos}
theorem di_enum {p : Pos} (hg : Gl X "enumerate") (hm : X.mg "enumerate" = none) (ha : DE X e fa)
    (hs0 : starEach [e] X.env = (false, eval e X.env) :: starEach [] X.env := by rfl) (hs : starEach [e] X.env = [(false, eval e X.env)] := by rfl) :
    DI X (.Tuple elts kk tpos) (.Call (.Name "enumerate" p) [e] [] pos) (mEnum fa) :=
  PI.imp (PI.or (pi_enum hg hm (pa_cons ha pa_nil hs0) hs) (pi_enumT hg hm (pa_cons ha pa_nil hs0) hs)) fun σ H R ⟨ls, hp, μ, items, gd, hp', rl, rh, e, q⟩ => by
    unfold mEnum at e
    split at e
    · rename_i d hp1 e1
      split at e
      · rename_i ds e2
        cases e
        refine .inr ⟨ls, hp, μ, d, hp', rl, rh, e1, fun v H1 μ1 x1 rh1 r1 => ?_⟩
        obtain ⟨a, vs, rfl, ta, ra⟩ := tupOf_some e2 r1
        have qa : ∀ {H3 : Hp} {μ3 : List Addr}, Ext μ1 H1 μ3 H3 → SqT X.K H3 a vs := fun x3 => ta.elim (fun t => (t.ext x3).sq) fun t => t.sq
        refine ⟨a, vs, rfl, qa Ext.refl, q _ H1 μ1 x1 rh1 ?_⟩
        intro i H2 μ2 hp2 x2 rh2 _
        have h2 := qa x2
        have hlen := ra.len
        rw [enumD_length]
        refine ⟨fun hi => ⟨vs, h2, by omega⟩, fun hi => ?_⟩
        obtain ⟨v, ev, rv⟩ := ra.get (List.getElem?_eq_getElem hi)
        refine ⟨⟨vs, v, h2, ev⟩, fun x H3 hy => ?_⟩
        obtain ⟨T, x0, rfl, hT, rfl, hx⟩ := hy
        have := hx vs h2
        rw [ev] at this
        cases this
        have x4 := Ext.laid rh2 (o := .tup [.int (i : Nat), v]) hT
        exact ⟨_, enumD_at (List.getElem?_eq_getElem hi), x4, rh2.laid hT, Rp.tup upd_same (Rps.mk Rp.int (Rps.mk ((rv.ext x2).ext x4) Rps.nil))⟩
      · split at e
        · rename_i n
          split at e
          · rename_i xs e3
            cases e
            refine .inl ⟨ls, hp, μ, _, hp', rl, rh, e1, fun v H1 μ1 x1 rh1 r1 => ?_⟩
            obtain ⟨a, ea, rfl⟩ := r1.refE
            obtain ⟨vs, ev, ra⟩ := rh1.lst ea e3
            refine ⟨a, vs, rfl, .inl (.inl ev), q _ H1 μ1 x1 rh1 ?_⟩
            intro i H2 μ2 hp2 x2 rh2 hgd
            obtain ⟨vs, ev, ra⟩ := rh2.lst (x2.m.at_ ea) (gdOk_one hgd)
            have h2 : SqL X.K H2 a vs := .inl (.inl ev)
            have hlen := ra.len
            rw [enumD_length]
            refine ⟨fun hi => ⟨vs, h2, by omega⟩, fun hi => ?_⟩
            obtain ⟨v, ev', rv⟩ := ra.get (List.getElem?_eq_getElem hi)
            refine ⟨⟨vs, v, h2, ev'⟩, fun x H3 hy => ?_⟩
            obtain ⟨T, x0, rfl, hT, rfl, hx⟩ := hy
            have := hx vs h2
            rw [ev'] at this
            cases this
            have x4 := Ext.laid rh2 (o := .tup [.int (i : Nat), v]) hT
            exact ⟨_, enumD_at (List.getElem?_eq_getElem hi), x4, rh2.laid hT, Rp.tup upd_same (Rps.mk Rp.int (Rps.mk (rv.ext x4) Rps.nil))⟩
          · cases e
        · cases e
    · cases e
end
end Ve
namespace Ve
open PySem PySem.Spec L2
mutual
def plainD : D → Bool
  | .non => true
  | .bl _ => true
  | .int _ => true
  | .str _ => true
  | .tup ds => plainDs ds
  | _ => false
def plainDs : List D → Bool
  | [] => true
  | d :: ds => plainD d && plainDs ds
end
mutual
def decD : PyData → Option D
  | .none => some .non
  | .bool b => some (.bl b)
  | .int i => some (.int i)
  | .str x => some (.str x)
  | .tuple xs => (decDs xs).map .tup
  | _ => none
def decDs : List PyData → Option (List D)
  | [] => some []
  | x :: xs => match decD x, decDs xs with
    | some d, some ds => some (d :: ds)
    | _, _ => none
end
theorem dec_mapO {hp : Hd} {n : Nat} (ih : ∀ d p, plainD d = true → pyF hp n d = some p → decD p = some d) : ∀ (ds : List D) (ps : List PyData), plainDs ds = true → mapO (pyF hp n) ds = some ps → decDs ps = some ds
  | [], ps, _, e => by
    rw [mapO] at e
    cases e
    rw [decDs]
  | d :: ds, ps, h, e => by
    rw [plainDs, Bool.and_eq_true] at h
    rw [mapO] at e
    split at e
    · rename_i y ys e1 e2
      cases e
      rw [decDs, ih d y h.1 e1, dec_mapO ih ds ys h.2 e2]
    · cases e
theorem dec_enc {hp : Hd} : ∀ (n : Nat) (d : D) (p : PyData), plainD d = true → pyF hp n d = some p → decD p = some d
  | 0, _, _, _, e => by simp [pyF] at e
  | n + 1, d, p, h, e => by
    cases d <;> simp only [pyF] at e <;> try (simp [plainD] at h; done)
    · cases e; rw [decD]
    · cases e; rw [decD]
    · cases e; rw [decD]
    · cases e; rw [decD]
    · rename_i ds
      rw [plainD] at h
      cases e1 : mapO (pyF hp n) ds with
      | none => rw [e1] at e; cases e
      | some ps =>
        rw [e1] at e
        cases e
        rw [decD, dec_mapO (fun d p => dec_enc n d p) ds ps h e1]
        rfl
def alikeB (ps : List PyData) : Bool := (ps.all fun x => ps.all fun y => PySem.W.alike x y) && ps.all notNon
theorem alikeB_all {ps : List PyData} (h : alikeB ps = true) : PySem.W.AlikeAll ps := by
  unfold alikeB at h
  rw [Bool.and_eq_true, List.all_eq_true, List.all_eq_true] at h
  exact ⟨fun x hx y hy => List.all_eq_true.mp (h.1 x hx) y hy, fun x hx => notNon_ne (h.2 x hx)⟩
def bestD (mx : Bool) (ds : List D) (hp : Hd) : Option D := match mapO (pyF hp 15) ds with
  | some (p :: ps) => if (plainDs ds && (alikeB (p :: ps) && decide (PyData.depthAll (p :: ps) ≤ 40))) = true then decD (if mx = true then PySem.W.maxD p ps else PySem.W.minD p ps) else none
  | _ => none
theorem bestD_some {mx : Bool} {ds : List D} {hp : Hd} {d : D} (h : bestD mx ds hp = some d) : ∃ p ps, mapO (pyF hp 15) ds = some (p :: ps) ∧ plainDs ds = true ∧ PySem.W.AlikeAll (p :: ps) ∧ PyData.depthAll (p :: ps) ≤ 40 ∧ decD (if mx = true then PySem.W.maxD p ps else PySem.W.minD p ps) = some d := by
  unfold bestD at h
  split at h
  · rename_i p ps e
    split at h
    · rename_i hc
      rw [Bool.and_eq_true, Bool.and_eq_true] at hc
      exact ⟨p, ps, e, hc.1, alikeB_all hc.2.1, of_decide_eq_true hc.2.2, h⟩
    · cases h
  · cases h
theorem plainDs_at : ∀ {ds : List D} {i : Nat} {d : D}, plainDs ds = true → ds[i]? = some d → plainD d = true
  | [], _, _, _, e => by simp at e
  | x :: xs, 0, d, h, e => by
    rw [plainDs, Bool.and_eq_true] at h
    simp at e
    rw [← e]
    exact h.1
  | x :: xs, i + 1, d, h, e => by
    rw [plainDs, Bool.and_eq_true] at h
    exact plainDs_at h.2 (by simpa using e)
theorem mapO_at {α β : Type} {f : α → Option β} : ∀ {xs : List α} {ys : List β} {i : Nat} {x : α}, mapO f xs = some ys → xs[i]? = some x → ∃ y, f x = some y
  | [], _, _, _, _, e => by simp at e
  | a :: xs, ys, i, x, h, e => by
    rw [mapO] at h
    split at h
    · rename_i y ys' e1 e2
      cases i with
      | zero =>
        simp at e
        exact ⟨y, by rw [← e]; exact e1⟩
      | succ i => exact mapO_at e2 (by simpa using e)
    · cases h
section
variable {X : Cx} {pins : List (Addr × Obj)} {σ : L2.St} {H : Hp} {s : Shared} {μ : List Addr} {hp : Hd}
theorem best_item (I : Inv X pins σ H s) (rh : RelH X.K H μ hp) {ds : List D} {vs : List V} {us : List Value} {qs : List PyData} (rs : Rps X.K H μ ds vs) (rv : Vals vs us) (em : mapO (pyF hp 15) ds = some qs) (pl : plainDs ds = true) {i : Nat} {v : Value} (hv : us[i]? = some v) {h' : Heap} {p : PyData} {bs : List Addr} (hr : Reads h' v p bs)
    (hk : ∀ b o, s.heap.get? b = some o → h'.get? b = some o) {d : D} (hd : decD p = some d) : ∃ x, RelV x v ∧ Rp X.K H μ d x := by
  have hi := (List.getElem?_eq_some_iff.mp hv).1
  have hlen := rv.length
  have hl2 := rs.len
  have ed : ds[i]? = some ds[i] := List.getElem?_eq_getElem (by omega)
  obtain ⟨x, ex, rx⟩ := rs.get ed
  obtain ⟨u, eu, ru⟩ := rv.get ex
  rw [hv] at eu
  cases eu
  obtain ⟨q, eq⟩ := mapO_at em ed
  obtain ⟨as, ra⟩ := Dp.reads I q _ _ (pyF_dp rh 15 _ q _ eq rx) ru
  have := (Reads.unique (PyProof.Rows.Reads.keeps hk ra) _ _ hr).1
  subst this
  rw [dec_enc 15 _ _ (plainDs_at pl ed) eq] at hd
  cases hd
  exact ⟨x, ru, rx⟩
theorem best_list (hc : X.calm = true) (hu : X.A.units + 64 < cLine) (mx : Bool) (I : Inv X pins σ H s) (rh : RelH X.K H μ hp) {ds : List D} {vs : List V} {a : Addr} (hq : SqL X.K H a vs) (rs : Rps X.K H μ ds vs) {d : D} (e : bestD mx ds hp = some d) {Q : VK} (q : ∀ v, Rp X.K H μ d v → Q v H) :
    wpAny (model X.prog X.w) X.A (call (.builtin (if mx = true then "max" else "min")) [.ref a]) (EP X pins σ Q) X.xe s := by
  obtain ⟨p, ps, em, pl, ha, hdp, hd⟩ := bestD_some e
  obtain ⟨its, rv, ht, hz⟩ := I.list hq
  obtain ⟨as, ra⟩ := Dp.readsAll I (p :: ps) vs its (dpAll_of rh ds (p :: ps) vs em rs) rv
  cases mx with
  | true =>
    refine PySem.W.max_list_data (I.ok.hd hc) ht.isList (by simpa using ra) ha (by omega) fun i v h' tk bs hv hr hk => ?_
    obtain ⟨x, rx, rd⟩ := best_item I rh rs rv em pl (by simpa using hv) hr hk hd
    exact ⟨x, H, I.kept hk, rx, q x rd⟩
  | false =>
    refine PySem.W.min_list_data (I.ok.hd hc) ht.isList (by simpa using ra) ha (by omega) fun i v h' tk bs hv hr hk => ?_
    obtain ⟨x, rx, rd⟩ := best_item I rh rs rv em pl (by simpa using hv) hr hk hd
    exact ⟨x, H, I.kept hk, rx, q x rd⟩
theorem best_tup (hc : X.calm = true) (hu : X.A.units + 64 < cLine) (mx : Bool) (I : Inv X pins σ H s) (rh : RelH X.K H μ hp) {ds : List D} {vs : List V} {a : Addr} (hq : SqT X.K H a vs) (rs : Rps X.K H μ ds vs) {d : D} (e : bestD mx ds hp = some d) {Q : VK} (q : ∀ v, Rp X.K H μ d v → Q v H) :
    wpAny (model X.prog X.w) X.A (call (.builtin (if mx = true then "max" else "min")) [.ref a]) (EP X pins σ Q) X.xe s := by
  obtain ⟨p, ps, em, pl, ha, hdp, hd⟩ := bestD_some e
  obtain ⟨its, rv, ht, hz⟩ := I.tuple hq
  obtain ⟨as, ra⟩ := Dp.readsAll I (p :: ps) vs its (dpAll_of rh ds (p :: ps) vs em rs) rv
  cases mx with
  | true =>
    refine PySem.W.max_tuple_data (I.ok.hd hc) ht (by simpa using ra) ha (by omega) fun i v h' tk bs hv hr hk => ?_
    obtain ⟨x, rx, rd⟩ := best_item I rh rs rv em pl (by simpa using hv) hr hk hd
    exact ⟨x, H, I.kept hk, rx, q x rd⟩
  | false =>
    refine PySem.W.min_tuple_data (I.ok.hd hc) ht (by simpa using ra) ha (by omega) fun i v h' tk bs hv hr hk => ?_
    obtain ⟨x, rx, rd⟩ := best_item I rh rs rv em pl (by simpa using hv) hr hk hd
    exact ⟨x, H, I.kept hk, rx, q x rd⟩
end
def gBestL (mx : Bool) (ds : List D) (hp : Hd) : Option (D × Hd) := match bestD mx ds hp with
  | some d => some (d, hp)
  | none => none
def gBest1 (mx : Bool) : List D → Hd → Option (D × Hd)
  | [x], hp => match tupOf x with
    | some ds => gBestL mx ds hp
    | none => match seqOfL x hp with
      | some ds => gBestL mx ds hp
      | none => none
  | _, _ => none
theorem gBestL_some {mx : Bool} {ds : List D} {hp hp' : Hd} {d : D} (h : gBestL mx ds hp = some (d, hp')) : bestD mx ds hp = some d ∧ hp' = hp := by
  unfold gBestL at h
  split at h
  · rename_i e
    cases h
    exact ⟨e, rfl⟩
  · cases h
section
variable {X : Cx}
theorem n_best (mx : Bool) (hc : X.calm = true) (hu : X.A.units + 64 < cLine) : CallR X (.builtin (if mx = true then "max" else "min")) (RN X.K (gBestL mx)) := fun pins s σ H xs us Q I r ⟨hp, μ, ds, vs, p, d, hp', rh, ex, hn, hl, rs, e, q⟩ => by
  obtain ⟨e, rfl⟩ := gBestL_some e
  subst ex
  rw [Vals.ref1 r]
  exact best_list hc hu mx I rh (.inl (.inl hl)) rs e fun v rv => q v H μ Ext.refl rh rv
theorem c_best (mx : Bool) (hc : X.calm = true) (hu : X.A.units + 64 < cLine) : CallR X (.builtin (if mx = true then "max" else "min")) (RDs X.K (gBest1 mx)) := fun pins s σ H xs us Q I r ⟨hp, μ, ds, d, hp', rh, rs, e, q⟩ => by
  unfold gBest1 at e
  split at e
  · rename_i x
    obtain ⟨v, rfl, r1⟩ := rs.one
    split at e
    · rename_i ys e1
      obtain ⟨e, rfl⟩ := gBestL_some e
      obtain ⟨a, vs, rfl, ta, ra⟩ := tupOf_some e1 r1
      rw [Vals.ref1 r]
      exact best_tup hc hu mx I rh (ta.elim (fun t => t.sq) fun t => t.sq) ra e fun v rv => q v H μ Ext.refl rh rv
    · split at e
      · rename_i ys e1
        obtain ⟨e, rfl⟩ := gBestL_some e
        obtain ⟨a, vs, rfl, hs, r2⟩ := seqOfL_some rh r1 e1
        rw [Vals.ref1 r]
        exact best_list hc hu mx I rh hs r2 e fun v rv => q v H μ Ext.refl rh rv
      · cases e
  · cases e
end
end Ve
namespace Ve
open PySem PySem.Spec L2
def idxP (d : PyData) (ds : List PyData) : Option Nat := ds.findIdx? fun z => PyData.eqv z d
theorem idxP_some {d : PyData} {ds : List PyData} {j : Nat} (h : idxP d ds = some j) : ∃ z, ds[j]? = some z ∧ PyData.eqv z d = true ∧ ∀ (m : Nat) (z' : PyData), m < j → ds[m]? = some z' → PyData.eqv z' d = false := by
  unfold idxP at h
  obtain ⟨hj, h1, h2⟩ := List.findIdx?_eq_some_iff_getElem.mp h
  refine ⟨ds[j], List.getElem?_eq_getElem hj, h1, fun m z' hm hz => ?_⟩
  have := h2 m hm
  obtain ⟨hm', e⟩ := List.getElem?_eq_some_iff.mp hz
  rw [← e]
  simpa using this
def idxD (hp : Hd) (x : D) (ys : List D) : Option Nat := match pyF hp 16 x, mapO (pyF hp 15) ys with
  | some d, some ds => if (SeqAt.shaped d && SeqAt.shaped (.list ds)) = true then idxP d ds else none
  | _, _ => none
theorem idxD_some {hp : Hd} {x : D} {ys : List D} {j : Nat} (h : idxD hp x ys = some j) : ∃ d ds, pyF hp 16 x = some d ∧ mapO (pyF hp 15) ys = some ds ∧ SeqAt.shaped d = true ∧ SeqAt.shaped (.list ds) = true ∧ idxP d ds = some j := by
  unfold idxD at h
  split at h
  · rename_i d ds e1 e2
    split at h
    · rename_i hs
      rw [Bool.and_eq_true] at hs
      exact ⟨d, ds, e1, e2, hs.1, hs.2, h⟩
    · cases h
  · cases h
def isT (d : D) (_ : Hd) : Bool := (tupOf d).isSome
def gTIdx (x : D) (ds : List D) (hp : Hd) : Option (D × Hd) := match tupOf x, ds with
  | some ys, [d] => (idxD hp d ys).map fun j => (.int (j : Nat), hp)
  | _, _ => none
def gLIdx (x : D) (ds : List D) (hp : Hd) : Option (D × Hd) := match x, ds with
  | .ref n, [d] => match hp[n]? with
    | some (.lst ys) => (idxD hp d ys).map fun j => (.int (j : Nat), hp)
    | _ => none
  | _, _ => none
section
variable {X : Cx} {e : Expr} {es : List Expr} {fr : AA}
theorem Rps.one1 {K : PySem.W.Frag} {H : Hp} {μ : List Addr} {d : D} {xs : List V} (h : Rps K H μ [d] xs) : ∃ v, xs = [v] ∧ Rp K H μ d v := by
  rw [Rps] at h
  obtain ⟨v, w, e, r1, r2⟩ := h
  rw [Rps] at r2
  subst r2
  exact ⟨v, e, r1⟩
theorem t_lindex (hu : X.A.units + 65 < cLine) : MtR X "list.index" (RM X.K gLIdx) := fun pins s σ H x xs v us Q I rx rxs ⟨hp, μ, dx, ds, d, hp', rh, r1, rs, e, q⟩ => by
  unfold gLIdx at e
  split at e
  · rename_i n y
    split at e
    · rename_i ys e1
      rw [Option.map_eq_some_iff] at e
      obtain ⟨j, e2, e3⟩ := e
      cases e3
      obtain ⟨a, ea, rfl⟩ := r1.refE
      obtain ⟨w, rfl, rw⟩ := rs.one1
      obtain ⟨p, ps, h1, h2, s1, s2, h3⟩ := idxD_some e2
      obtain ⟨vs, ev, rv⟩ := rh.lst ea e1
      obtain ⟨z, hz, hzj, hno⟩ := idxP_some h3
      exact mt_indexD hu pins s σ H _ _ v us Q I rx rxs ⟨a, w, p, ps, j, z, rfl, rfl, .lst (.inl (.inl ev)) (dpAll_of rh _ _ _ h2 rv), pyF_dp rh _ _ _ _ h1 rw, s2, s1, hz, hzj, hno, q _ H μ Ext.refl rh Rp.int⟩
    · cases e
  · cases e
theorem t_tindex (hu : X.A.units + 65 < cLine) : MtR X "tuple.index" (RM X.K gTIdx) := fun pins s σ H x xs v us Q I rx rxs ⟨hp, μ, dx, ds, d, hp', rh, r1, rs, e, q⟩ => by
  unfold gTIdx at e
  split at e
  · rename_i ys y e1
    rw [Option.map_eq_some_iff] at e
    obtain ⟨j, e2, e3⟩ := e
    cases e3
    obtain ⟨w, rfl, rw⟩ := rs.one1
    obtain ⟨p, ps, h1, h2, s1, s2, h3⟩ := idxD_some e2
    obtain ⟨a, vs, rfl, ta, ra⟩ := tupOf_some e1 r1
    have qa : SqT X.K H a vs := ta.elim (fun t => t.sq) fun t => t.sq
    obtain ⟨z, hz, hzj, hno⟩ := idxP_some h3
    have dps := dpAll_of rh _ _ _ h2 ra
    have dpy := pyF_dp rh _ _ _ _ h1 rw
    cases rx
    cases rxs with
    | cons ry rt =>
      rename_i uy ut
      cases rt
      obtain ⟨bs, q1⟩ := Dp.reads I p w uy dpy ry
      have hxs : PyData.canLayAll0 ps = true := SeqAt.canLay_of_shaped s2
      have hroom : X.A.units + 1 + min (PyData.depthAll ps) p.depth < cLine := PyProof.Rows.room_in_shaped s1 hu
      obtain ⟨its, rv, pl, hlen⟩ := I.tuple qa
      obtain ⟨⟨cls, dd, dt, sl⟩, ho, hc, n, hd⟩ := pl
      simp only at hc hd
      subst hc
      subst hd
      obtain ⟨as, h4⟩ := Dp.readsAll I ps _ its dps rv
      have hn : its.length = ps.length := SeqAt.ReadsAll.length ps its as h4
      have hmap : its.map (SeqAt.readOf s.heap) = ps := SeqAt.readsAll_map ps its as hxs h4
      obtain ⟨hjd, _⟩ := List.getElem?_eq_some_iff.mp hz
      have hjl : j < its.length := by omega
      have hj : j < its.toArray.size := by simpa using hjl
      have at_ : ∀ (m : Nat) (hm : m < its.toArray.size) (z' : PyData), ps[m]? = some z' → SeqAt.readOf s.heap its.toArray[m] = z' := by
        intro m hm z' hz'
        have hml : m < its.length := by simpa using hm
        rw [← hmap, List.getElem?_map, List.getElem?_eq_getElem hml] at hz'
        have e1 : SeqAt.readOf s.heap its[m] = z' := Option.some.inj (show some (SeqAt.readOf s.heap its[m]) = some z' from hz')
        simpa using e1
      refine call_meets PySem.F.slot_tuple_index ⟨_, ho, rfl⟩ PySem.F.entry_tuple_index (PySem.F.args_tuple_index_2 _ _)
        (TI.tuple_indexAt a its.toArray n dd sl uy (fun u => PyData.eqv (SeqAt.readOf s.heap u) p) j hj ?_ ?_) ⟨ho, SeqAt.items_eqAt (vs := its.toArray) (show ReadsAll s.heap its.toArray.toList ps as from h4) q1 hxs (SeqAt.canLay_of_shaped s1) hroom, ?_⟩
      · show PyData.eqv (SeqAt.readOf s.heap its.toArray[j]) p = true
        rw [at_ j hj z hz]
        exact hzj
      · intro m hm hmj
        have hmd : m < ps.length := by omega
        have hz' : ps[m]? = some ps[m] := List.getElem?_eq_getElem hmd
        show PyData.eqv (SeqAt.readOf s.heap its.toArray[m]) p = false
        rw [at_ m hm _ hz']
        exact hno m _ hmj hz'
      · exact ⟨.int (j : Nat), H, I.tok _, ⟨_, rfl⟩, q _ H μ Ext.refl rh Rp.int⟩
  · cases e
def mCatOO (fa fb : AE) : AA := fun ls hp => match fa ls hp with
  | some (x, hp1) => match fb ls hp1 with
    | some (y, hp2) => match lstOf x hp2, lstOf y hp2 with
      | some xs, some ys => if xs.length + ys.length ≤ sizeLine then some (xs ++ ys, hp2) else none
      | _, _ => none
    | none => none
  | none => none
theorem le_catOO {a b : Expr} {fa fb : AE} {pos : Pos} (ha : DE X a fa) (hb : DE X b fb) : LE X (.BinOp a .Add b pos) (mCatOO fa fb) :=
  PE.imp (pe_op op_cat ha hb) fun σ H Q ⟨ls, hp, μ, ds, hp', rl, rh, e, q⟩ => by
    unfold mCatOO at e
    split at e
    · rename_i x hp1 e1
      split at e
      · rename_i y hp2 e2
        split at e
        · rename_i xs ys e3 e4
          split at e
          · rename_i hz
            cases e
            refine ⟨ls, hp, μ, x, hp1, rl, rh, e1, fun v H1 μ1 x1 rh1 r1 => ⟨ls, hp1, μ1, y, hp', rl.ext x1, rh1, e2, fun v2 H2 μ2 x2 rh2 r2 => ?_⟩⟩
            obtain ⟨n, rfl, eh⟩ := lstOf_some e3
            obtain ⟨p, ep, rfl⟩ := (r1.ext x2).refE
            obtain ⟨vs, ev, rs⟩ := rh2.lst ep eh
            obtain ⟨n2, rfl, eh2⟩ := lstOf_some e4
            obtain ⟨p2, ep2, rfl⟩ := r2.refE
            obtain ⟨ws, ew, rw⟩ := rh2.lst ep2 eh2
            refine ⟨p, p2, vs, ws, rfl, rfl, ev, ew, by rw [rs.len, rw.len]; exact hz, fun p' hp0 => ?_⟩
            have x4 := Ext.laid rh2 (o := .lst (vs ++ ws)) hp0
            exact q p' _ _ μ2 ((x1.trans x2).trans x4) (rh2.laid hp0) ((x1.trans x2).back rh2 hp0) (rh2.notIn hp0) upd_same ((rs.append rw).ext x4)
          · cases e
        · cases e
      · cases e
    · cases e
end
end Ve
namespace Ve
open PySem PySem.Spec L2
def rgOk (a b : Int) : Prop := -(2 ^ 62) ≤ a ∧ a < 2 ^ 62 ∧ -(2 ^ 62) ≤ b ∧ b < 2 ^ 62 ∧ (b - a).toNat ≤ 2 ^ 24
instance (a b : Int) : Decidable (rgOk a b) := by unfold rgOk; infer_instance
def rgD (a b : Int) : List D := (List.range (b - a).toNat).map fun k : Nat => D.int (a + (k : Nat))
def mLRg1 (fa : AE) : AA := fun ls hp => match fa ls hp with
  | some (.int j, hp1) => if rgOk 0 j then some (rgD 0 j, hp1) else none
  | _ => none
def mLRg2 (fa fb : AE) : AA := fun ls hp => match fa ls hp with
  | some (.int i, hp1) => match fb ls hp1 with
    | some (.int j, hp2) => if rgOk i j then some (rgD i j, hp2) else none
    | _ => none
  | _ => none
def mTRg1 (fa : AE) : AE := fun ls hp => match mLRg1 fa ls hp with
  | some (ds, hp1) => some (.tup ds, hp1)
  | none => none
def mTRg2 (fa fb : AE) : AE := fun ls hp => match mLRg2 fa fb ls hp with
  | some (ds, hp1) => some (.tup ds, hp1)
  | none => none
theorem rg_rps {K : PySem.W.Frag} {H : Hp} {μ : List Addr} (a b : Int) : Rps K H μ (rgD a b) (rgV a b) := by
  have := Rps.ofInts (K := K) (H := H) (μ := μ) (ns := (List.range (b - a).toNat).map fun k : Nat => a + (k : Int))
  rw [List.map_map, List.map_map] at this
  exact this
section
variable {X : Cx} {a b : Expr} {fa fb : AE} {p p2 pos pos2 : Pos}
theorem le_listRg1 (hc : X.calm = true) (hg : Gl X "list") (hm : X.mg "list" = none) (hg2 : Gl X "range") (hm2 : X.mg "range" = none) (ha : DE X a fa) (na : starEach [a] X.env = (false, eval a X.env) :: starEach [] X.env := by rfl)
    (nb : starEach [.Call (.Name "range" p2) [a] [] pos2] X.env = (false, eval (.Call (.Name "range" p2) [a] [] pos2) X.env) :: starEach [] X.env := by rfl) : LE X (.Call (.Name "list" p) [.Call (.Name "range" p2) [a] [] pos2] [] pos) (mLRg1 fa) :=
  PE.imp (pe_listRg hc hg hm (prg_1 hg2 hm2 ha na) nb) fun σ H Q ⟨ls, hp, μ, ds, hp', rl, rh, e, q⟩ => by
    unfold mLRg1 at e
    split at e
    · rename_i j hp1 e1
      split at e
      · rename_i hj
        cases e
        refine ⟨ls, hp, μ, .int j, hp', rl, rh, e1, fun v H1 μ1 x1 rh1 r1 => ⟨j, r1.intE, hj, fun l h0 => ?_⟩⟩
        have x := Ext.laid rh1 (o := .lst (rgV 0 j)) h0
        exact q l (rgV 0 j) _ μ1 (x1.trans x) (rh1.laid h0) (x1.back rh1 h0) (rh1.notIn h0) upd_same (rg_rps 0 j)
      · cases e
    · cases e
theorem le_listRg2 (hc : X.calm = true) (hg : Gl X "list") (hm : X.mg "list" = none) (hg2 : Gl X "range") (hm2 : X.mg "range" = none) (ha : DE X a fa) (hb : DE X b fb) (na : starEach [a, b] X.env = (false, eval a X.env) :: starEach [b] X.env := by rfl)
    (nb : starEach [b] X.env = (false, eval b X.env) :: starEach [] X.env := by rfl) (npl : (backTo pos2 (starEach [b] X.env)).any (·.1) = false := by rfl)
    (nc : starEach [.Call (.Name "range" p2) [a, b] [] pos2] X.env = (false, eval (.Call (.Name "range" p2) [a, b] [] pos2) X.env) :: starEach [] X.env := by rfl) : LE X (.Call (.Name "list" p) [.Call (.Name "range" p2) [a, b] [] pos2] [] pos) (mLRg2 fa fb) :=
  PE.imp (pe_listRg hc hg hm (prg_2 hg2 hm2 ha hb na nb npl) nc) fun σ H Q ⟨ls, hp, μ, ds, hp', rl, rh, e, q⟩ => by
    unfold mLRg2 at e
    split at e
    · rename_i i hp1 e1
      split at e
      · rename_i j hp2 e2
        split at e
        · rename_i hj
          cases e
          refine ⟨ls, hp, μ, .int i, hp1, rl, rh, e1, fun v H1 μ1 x1 rh1 r1 => ⟨ls, hp1, μ1, .int j, hp', rl.ext x1, rh1, e2, fun w H2 μ2 x2 rh2 r2 => ⟨i, j, r1.intE, r2.intE, hj, fun l h0 => ?_⟩⟩⟩
          have x := Ext.laid rh2 (o := .lst (rgV i j)) h0
          exact q l (rgV i j) _ μ2 ((x1.trans x2).trans x) (rh2.laid h0) ((x1.trans x2).back rh2 h0) (rh2.notIn h0) upd_same (rg_rps i j)
        · cases e
      · cases e
    · cases e
theorem de_tupRg1 (hc : X.calm = true) (hg : Gl X "tuple") (hm : X.mg "tuple" = none) (hg2 : Gl X "range") (hm2 : X.mg "range" = none) (ha : DE X a fa) (na : starEach [a] X.env = (false, eval a X.env) :: starEach [] X.env := by rfl)
    (nb : starEach [.Call (.Name "range" p2) [a] [] pos2] X.env = (false, eval (.Call (.Name "range" p2) [a] [] pos2) X.env) :: starEach [] X.env := by rfl) : DE X (.Call (.Name "tuple" p) [.Call (.Name "range" p2) [a] [] pos2] [] pos) (mTRg1 fa) :=
  PE.imp (pe_tupRg hc hg hm (prg_1 hg2 hm2 ha na) nb) fun σ H Q ⟨ls, hp, μ, d, hp', rl, rh, e, q⟩ => by
    unfold mTRg1 mLRg1 at e
    cases e1 : fa ls hp with
    | none => rw [e1] at e; cases e
    | some r =>
      obtain ⟨d1, hp1⟩ := r
      rw [e1] at e
      cases d1 <;> try (cases e; done)
      rename_i j
      dsimp only at e
      by_cases hj : rgOk 0 j
      · rw [if_pos hj] at e
        cases e
        refine ⟨ls, hp, μ, .int j, hp', rl, rh, e1, fun v H1 μ1 x1 rh1 r1 => ⟨j, r1.intE, hj, fun l h0 => ?_⟩⟩
        have x := Ext.laid rh1 (o := .tup (rgV 0 j)) h0
        exact q _ _ μ1 (x1.trans x) (rh1.laid h0) (Rp.tup upd_same (rg_rps 0 j))
      · rw [if_neg hj] at e
        cases e
theorem de_tupRg2 (hc : X.calm = true) (hg : Gl X "tuple") (hm : X.mg "tuple" = none) (hg2 : Gl X "range") (hm2 : X.mg "range" = none) (ha : DE X a fa) (hb : DE X b fb) (na : starEach [a, b] X.env = (false, eval a X.env) :: starEach [b] X.env := by rfl)
    (nb : starEach [b] X.env = (false, eval b X.env) :: starEach [] X.env := by rfl) (npl : (backTo pos2 (starEach [b] X.env)).any (·.1) = false := by rfl)
    (nc : starEach [.Call (.Name "range" p2) [a, b] [] pos2] X.env = (false, eval (.Call (.Name "range" p2) [a, b] [] pos2) X.env) :: starEach [] X.env := by rfl) : DE X (.Call (.Name "tuple" p) [.Call (.Name "range" p2) [a, b] [] pos2] [] pos) (mTRg2 fa fb) :=
  PE.imp (pe_tupRg hc hg hm (prg_2 hg2 hm2 ha hb na nb npl) nc) fun σ H Q ⟨ls, hp, μ, d, hp', rl, rh, e, q⟩ => by
    unfold mTRg2 mLRg2 at e
    cases e1 : fa ls hp with
    | none => rw [e1] at e; cases e
    | some r =>
      obtain ⟨d1, hp1⟩ := r
      rw [e1] at e
      cases d1 <;> try (cases e; done)
      rename_i i
      dsimp only at e
      cases e2 : fb ls hp1 with
      | none => rw [e2] at e; cases e
      | some r2 =>
        obtain ⟨d2, hp2⟩ := r2
        rw [e2] at e
        cases d2 <;> try (cases e; done)
        rename_i j
        dsimp only at e
        by_cases hj : rgOk i j
        · rw [if_pos hj] at e
          cases e
          refine ⟨ls, hp, μ, .int i, hp1, rl, rh, e1, fun v H1 μ1 x1 rh1 r1 => ⟨ls, hp1, μ1, .int j, hp', rl.ext x1, rh1, e2, fun w H2 μ2 x2 rh2 r2 => ⟨i, j, r1.intE, r2.intE, hj, fun l h0 => ?_⟩⟩⟩
          have x := Ext.laid rh2 (o := .tup (rgV i j)) h0
          exact q _ _ μ2 ((x1.trans x2).trans x) (rh2.laid h0) (Rp.tup upd_same (rg_rps i j))
        · rw [if_neg hj] at e
          cases e
end
end Ve
namespace Ve
open PySem PySem.Spec L2
def reprOk (p : PyData) : Bool := (p.showable && !p.hasDict) && (decide (p.depth ≤ 40) && decide (p.shown.length ≤ sizeLine))
def gRepr (ds : List D) (hp : Hd) : Option (D × Hd) := match ds with
  | [x] => match pyF hp 15 x with
    | some p => if reprOk p = true then some (.str p.shown, hp) else none
    | none => none
  | _ => none
section
variable {X : Cx}
theorem c_repr (hg : X.A.guards = some []) (hu : X.A.units + 65 < cLine) : CallR X (.builtin "repr") (RDs X.K gRepr) := fun pins s σ H xs us Q I r ⟨hp, μ, ds, d, hp', rh, rs, e, q⟩ => by
  unfold gRepr at e
  split at e
  · rename_i x
    split at e
    · rename_i p ep
      split at e
      · rename_i hc
        cases e
        have h2 := hc
        unfold reprOk at h2
        rw [Bool.and_eq_true, Bool.and_eq_true, Bool.and_eq_true] at h2
        obtain ⟨⟨h3, h4⟩, h5, h6⟩ := h2
        have h5 := of_decide_eq_true h5
        have h6 := of_decide_eq_true h6
        have h4 : p.hasDict = false := by simpa using h4
        obtain ⟨v, rfl, rv⟩ := rs.one
        have dp := pyF_dp rh _ _ _ _ ep rv
        cases r with
        | cons r1 r2 =>
          rename_i u ut
          cases r2
          obtain ⟨as, hr⟩ := Dp.reads I p v u dp r1
          have fin : ∀ a : Addr, u = .ref a → wpAny (model X.prog X.w) X.A (call (.builtin "repr") [u]) (EP X pins σ Q) X.xe s := fun a ea => by
            subst ea
            exact repr_of_reads' hr h3 (fun h' => by rw [h4] at h'; cases h') hg (by omega) (fun _ _ e => e) (fun h' tu tk hk => ⟨.str p.shown, H, I.kept (t' := tk) hk, ⟨_, rfl⟩, q _ H μ Ext.refl rh Rp.str⟩) h6
          cases dp with
          | lst hs ha => exact fin _ r1
          | tup hs ha => exact fin _ r1
          | non =>
            obtain rfl : u = Value.none := r1
            refine PySem.P.repr_of_none ⟨.str "None", H, I.tok _, ⟨_, rfl⟩, ?_⟩
            have := q (.str (PyData.shown .none)) H μ Ext.refl rh Rp.str
            rw [PyData.shown] at this
            exact this
          | int i =>
            obtain ⟨t, rfl⟩ := r1
            refine PySem.P.repr_of_int (by simpa [PyData.showable] using h3) ⟨.str (toString i), H, I.tok _, ⟨_, rfl⟩, ?_⟩
            have := q (.str (PyData.shown (.int i))) H μ Ext.refl rh Rp.str
            rw [PyData.shown] at this
            exact this
          | bl b =>
            obtain rfl : u = Value.bool b := r1
            refine PySem.P.repr_of_bool ⟨.str (if b then "True" else "False"), H, I.tok _, ⟨_, rfl⟩, ?_⟩
            have := q (.str (PyData.shown (.bool b))) H μ Ext.refl rh Rp.str
            rw [PyData.shown] at this
            exact this
          | str z =>
            obtain ⟨t, rfl⟩ := r1
            refine PySem.P.repr_of_str ⟨.str (reprText z), H, I.tok _, ⟨_, rfl⟩, ?_⟩ (by rw [PyData.shown] at h6; exact h6)
            have := q (.str (PyData.shown (.str z))) H μ Ext.refl rh Rp.str
            rw [PyData.shown] at this
            exact this
      · cases e
    · cases e
  · cases e
end
end Ve
namespace Ve
open PySem PySem.Spec L2 PyProof.Rows
def tChain3 (r r' r'' : R2) (ta tb tc td : TE) : TE := fun σ H Q => ta σ H fun x H1 => tb σ H1 fun y H2 => r x y H2 fun z H3 => ∃ k, z = .bl k ∧
  (if k = true then tc σ H3 fun w H4 => r' y w H4 fun z' H5 => ∃ k', z' = .bl k' ∧ (if k' = true then td σ H5 fun w' H6 => r'' w w' H6 Q else Q (.bl false) H5) else Q (.bl false) H3)
section
variable {X : Cx} {a b c d : Expr} {ta tb tc td : TE} {pos : Pos} {fa fb fc fd : AE}
theorem pe_chain3 {op op' op'' : CmpOp} {r r' r'' : R2} (ho : OpR X (compareOp op) r) (ho' : OpR X (compareOp op') r') (ho'' : OpR X (compareOp op'') r'') (ha : PE X a ta) (hb : PE X b tb) (hc : PE X c tc) (hd : PE X d td)
    (hm : lastMarks [op, op', op''] [b, c, d] = false := by with_unfolding_all rfl) : PE X (.Compare a [op, op', op''] [b, c, d] pos) (tChain3 r r' r'' ta tb tc td) := by
  refine ⟨fun pins s σ H Q I h => ?_⟩
  refine Compare_chain (thn (ha.run pins s σ H _ I h) fun v s1 ⟨x, H1, I1, r1, q1⟩ => chain_link (thn (hb.run pins s1 σ H1 _ I1 q1) fun u s2 ⟨y, H2, I2, r2, q2⟩ =>
    thn (ho pins s2 σ H2 x y v u _ I2 r1 r2 q2) fun d0 s3 ⟨z, H3, I3, r3, k, e, q3⟩ => ?_)) hm
  subst e
  cases r3
  refine wpAny_truthy_bool ?_
  cases k with
  | false => exact ite_ff ⟨.bl false, H3, I3, rfl, q3⟩
  | true =>
    refine ite_tt (chain_link (thn (hc.run pins s3 σ H3 _ I3 q3) fun w s4 ⟨z4, H4, I4, r4, q4⟩ => thn (ho' pins s4 σ H4 y z4 u w _ I4 r2 r4 q4) fun d1 s5 ⟨z5, H5, I5, r5, k', e', q5⟩ => ?_))
    subst e'
    cases r5
    refine wpAny_truthy_bool ?_
    cases k' with
    | false => exact ite_ff ⟨.bl false, H5, I5, rfl, q5⟩
    | true => exact ite_tt (chain_last (thn (hd.run pins s5 σ H5 _ I5 q5) fun w' s6 ⟨z6, H6, I6, r6, q6⟩ => ho'' pins s6 σ H6 z4 z6 w w' Q I6 r4 r6 q6))
def mChain3 (fa fb fc fd : AE) (g g' g'' : D → D → Hd → Option (D × Hd)) : AE := fun ls hp => match fa ls hp with
  | some (x, hp1) => match fb ls hp1 with
    | some (y, hp2) => match g x y hp2 with
      | some (.bl true, hp3) => match fc ls hp3 with
        | some (z, hp4) => match g' y z hp4 with
          | some (.bl true, hp5) => match fd ls hp5 with
            | some (w, hp6) => g'' z w hp6
            | none => none
          | some (.bl false, hp5) => some (.bl false, hp5)
          | _ => none
        | none => none
      | some (.bl false, hp3) => some (.bl false, hp3)
      | _ => none
    | none => none
  | none => none
theorem tChain3_of {K : PySem.W.Frag} {g g' g'' : D → D → Hd → Option (D × Hd)} {σ : L2.St} {H : Hp} {Q : VK} (h : tD K (mChain3 fa fb fc fd g g' g'') σ H Q) : tChain3 (RD K g) (RD K g') (RD K g'') (tD K fa) (tD K fb) (tD K fc) (tD K fd) σ H Q := by
  obtain ⟨ls, hp, μ, d, hp', rl, rh, e, q⟩ := h
  unfold mChain3 at e
  split at e
  · rename_i x hp1 e1
    split at e
    · rename_i y hp2 e2
      split at e
      · rename_i hp3 e3
        split at e
        · rename_i z hp4 e4
          split at e
          · rename_i hp5 e5
            split at e
            · rename_i w hp6 e6
              exact ⟨ls, hp, μ, x, hp1, rl, rh, e1, fun v1 H1 μ1 x1 rh1 r1 => ⟨ls, hp1, μ1, y, hp2, rl.ext x1, rh1, e2, fun v2 H2 μ2 x2 rh2 r2 => ⟨hp2, μ2, x, y, _, hp3, rh2, r1.ext x2, r2, e3, fun v3 H3 μ3 x3 rh3 r3 =>
                ⟨true, r3.blE, iteT ⟨ls, hp3, μ3, z, hp4, ((rl.ext x1).ext x2).ext x3, rh3, e4, fun v4 H4 μ4 x4 rh4 r4 => ⟨hp4, μ4, y, z, _, hp5, rh4, (r2.ext x3).ext x4, r4, e5, fun v5 H5 μ5 x5 rh5 r5 =>
                  ⟨true, r5.blE, iteT ⟨ls, hp5, μ5, w, hp6, ((((rl.ext x1).ext x2).ext x3).ext x4).ext x5, rh5, e6, fun v6 H6 μ6 x6 rh6 r6 => ⟨hp6, μ6, z, w, d, hp', rh6, (r4.ext x5).ext x6, r6, e, fun v H7 μ7 x7 rh7 r7 =>
                    q v H7 μ7 ((((((x1.trans x2).trans x3).trans x4).trans x5).trans x6).trans x7) rh7 r7⟩⟩⟩⟩⟩⟩⟩⟩⟩
            · cases e
          · rename_i hp5 e5
            cases e
            exact ⟨ls, hp, μ, x, hp1, rl, rh, e1, fun v1 H1 μ1 x1 rh1 r1 => ⟨ls, hp1, μ1, y, hp2, rl.ext x1, rh1, e2, fun v2 H2 μ2 x2 rh2 r2 => ⟨hp2, μ2, x, y, _, hp3, rh2, r1.ext x2, r2, e3, fun v3 H3 μ3 x3 rh3 r3 =>
              ⟨true, r3.blE, iteT ⟨ls, hp3, μ3, z, hp4, ((rl.ext x1).ext x2).ext x3, rh3, e4, fun v4 H4 μ4 x4 rh4 r4 => ⟨hp4, μ4, y, z, _, hp', rh4, (r2.ext x3).ext x4, r4, e5, fun v5 H5 μ5 x5 rh5 r5 =>
                ⟨false, r5.blE, iteF (q _ H5 μ5 ((((x1.trans x2).trans x3).trans x4).trans x5) rh5 Rp.bl)⟩⟩⟩⟩⟩⟩⟩
          · cases e
        · cases e
      · rename_i hp3 e3
        cases e
        exact ⟨ls, hp, μ, x, hp1, rl, rh, e1, fun v1 H1 μ1 x1 rh1 r1 => ⟨ls, hp1, μ1, y, hp2, rl.ext x1, rh1, e2, fun v2 H2 μ2 x2 rh2 r2 => ⟨hp2, μ2, x, y, _, hp', rh2, r1.ext x2, r2, e3, fun v3 H3 μ3 x3 rh3 r3 =>
            ⟨false, r3.blE, iteF (q _ H3 μ3 ((x1.trans x2).trans x3) rh3 Rp.bl)⟩⟩⟩⟩
      · cases e
    · cases e
  · cases e
theorem de_chain3 {op op' op'' : CmpOp} {g g' g'' : D → D → Hd → Option (D × Hd)} (ho : OpR X (compareOp op) (RD X.K g)) (ho' : OpR X (compareOp op') (RD X.K g')) (ho'' : OpR X (compareOp op'') (RD X.K g'')) (ha : DE X a fa) (hb : DE X b fb) (hc : DE X c fc) (hd : DE X d fd)
    (hm : lastMarks [op, op', op''] [b, c, d] = false := by with_unfolding_all rfl) : DE X (.Compare a [op, op', op''] [b, c, d] pos) (mChain3 fa fb fc fd g g' g'') :=
  PE.imp (pe_chain3 ho ho' ho'' ha hb hc hd hm) fun _ _ _ h => tChain3_of h
theorem pt_chain3 {op op' op'' : CmpOp} {r r' r'' : R2} (ho : OpR X (compareOp op) r) (ho' : OpR X (compareOp op') r') (ho'' : OpR X (compareOp op'') r'') (ha : PE X a ta) (hb : PE X b tb) (hc : PE X c tc) (hd : PE X d td)
    (hm : lastMarks [op, op', op''] [b, c, d] = false := by with_unfolding_all rfl) : PT X (.Compare a [op, op', op''] [b, c, d] pos) (tTest (tChain3 r r' r'' ta tb tc td)) := by
  refine ⟨fun pins s σ H Q I h => ?_⟩
  refine isTrue_chain (thn (ha.run pins s σ H _ I h) fun v s1 ⟨x, H1, I1, r1, q1⟩ => test_link (thn (hb.run pins s1 σ H1 _ I1 q1) fun u s2 ⟨y, H2, I2, r2, q2⟩ =>
    thn (ho pins s2 σ H2 x y v u _ I2 r1 r2 q2) fun d0 s3 ⟨z, H3, I3, r3, k, e, q3⟩ => ?_)) hm
  subst e
  cases r3
  refine wpAny_truthy_bool ?_
  cases k with
  | false =>
    obtain ⟨k', e', q'⟩ := q3
    cases e'
    exact ite_ff ⟨H3, I3, q'⟩
  | true =>
    refine ite_tt (test_link (thn (hc.run pins s3 σ H3 _ I3 q3) fun w s4 ⟨z4, H4, I4, r4, q4⟩ => thn (ho' pins s4 σ H4 y z4 u w _ I4 r2 r4 q4) fun d1 s5 ⟨z5, H5, I5, r5, k', e', q5⟩ => ?_))
    subst e'
    cases r5
    refine wpAny_truthy_bool ?_
    cases k' with
    | false =>
      obtain ⟨k2, e2, q'⟩ := q5
      cases e2
      exact ite_ff ⟨H5, I5, q'⟩
    | true =>
      refine ite_tt (test_last (thn (hd.run pins s5 σ H5 _ I5 q5) fun w' s6 ⟨z6, H6, I6, r6, q6⟩ => thn (ho'' pins s6 σ H6 z4 z6 w w' _ I6 r4 r6 q6) fun d' s7 ⟨z7, H7, I7, r7, k2, e2, q7⟩ => ?_))
      subst e2
      cases r7
      exact wpAny_truthy_bool ⟨H7, I7, q7⟩
theorem dt_chain3 {op op' op'' : CmpOp} {g g' g'' : D → D → Hd → Option (D × Hd)} (ho : OpR X (compareOp op) (RD X.K g)) (ho' : OpR X (compareOp op') (RD X.K g')) (ho'' : OpR X (compareOp op'') (RD X.K g'')) (ha : DE X a fa) (hb : DE X b fb) (hc : DE X c fc) (hd : DE X d fd)
    (hm : lastMarks [op, op', op''] [b, c, d] = false := by with_unfolding_all rfl) : DT X (.Compare a [op, op', op''] [b, c, d] pos) (mT (mChain3 fa fb fc fd g g' g'')) :=
  PT.imp (pt_chain3 ho ho' ho'' ha hb hc hd hm) fun _ _ _ h => tTest_of (fun _ _ _ h => tChain3_of h) h
end
end Ve
namespace Ve
open PySem PySem.Spec L2
section
variable {ls : Ls} {hp : Hd} {fa fb fc : AE} {ft fu : AT} {fr fl fm : AA} {f g : AS}
theorem sIf_s2 : sIf ft f g ls hp = (match ft ls hp with
  | some (b, hp1) => if b = true then f ls hp1 else g ls hp1
  | none => none) := by
  unfold sIf
  split
  · rename_i e; rw [e]; rfl
  · rename_i e; rw [e]; rfl
  · rename_i e; rw [e]
theorem mIfE_s2 : mIfE ft fa fb ls hp = (match ft ls hp with
  | some (b, hp1) => if b = true then fa ls hp1 else fb ls hp1
  | none => none) := by
  unfold mIfE
  split
  · rename_i e; rw [e]; rfl
  · rename_i e; rw [e]; rfl
  · rename_i e; rw [e]
theorem mAnd_s2 : mAnd ft fu ls hp = (match ft ls hp with
  | some (b, hp1) => if b = true then fu ls hp1 else some (false, hp1)
  | none => none) := by
  unfold mAnd
  split
  · rename_i e; rw [e]; rfl
  · rename_i h
    cases e : ft ls hp with
    | none => rfl
    | some p =>
      obtain ⟨b, hp1⟩ := p
      cases b with
      | true => exact absurd e (h _)
      | false => rfl
theorem mOr_s2 : mOr ft fu ls hp = (match ft ls hp with
  | some (b, hp1) => if b = true then some (true, hp1) else fu ls hp1
  | none => none) := by
  unfold mOr
  split
  · rename_i e; rw [e]; rfl
  · rename_i h
    cases e : ft ls hp with
    | none => rfl
    | some p =>
      obtain ⟨b, hp1⟩ := p
      cases b with
      | false => exact absurd e (h _)
      | true => rfl
theorem mNot_s : mNot ft ls hp = (match ft ls hp with
  | some (b, hp1) => some (!b, hp1)
  | none => none) := rfl
theorem mAndV_s2 : mAndV fa fb ls hp = (match fa ls hp with
  | some (.bl b, hp1) => if b = true then fb ls hp1 else some (.bl false, hp1)
  | _ => none) := by
  unfold mAndV
  cases e : fa ls hp with
  | none => rfl
  | some p =>
    obtain ⟨d, hp1⟩ := p
    cases d <;> try rfl
    rename_i b
    cases b <;> rfl
theorem mOrV_s2 : mOrV fa fb ls hp = (match fa ls hp with
  | some (.bl b, hp1) => if b = true then some (.bl true, hp1) else fb ls hp1
  | _ => none) := by
  unfold mOrV
  cases e : fa ls hp with
  | none => rfl
  | some p =>
    obtain ⟨d, hp1⟩ := p
    cases d <;> try rfl
    rename_i b
    cases b <;> rfl
theorem mNotV_s : mNotV fa ls hp = (match fa ls hp with
  | some (.bl b, hp1) => some (.bl (!b), hp1)
  | _ => none) := rfl
theorem mChain_s2 {g g' : D → D → Hd → Option (D × Hd)} : mChain fa fb fc g g' ls hp = (match fa ls hp with
  | some (x, hp1) => match fb ls hp1 with
    | some (y, hp2) => match g x y hp2 with
      | some (.bl b, hp3) => if b = true then (match fc ls hp3 with
        | some (z, hp4) => g' y z hp4
        | none => none) else some (.bl false, hp3)
      | _ => none
    | none => none
  | none => none) := by
  unfold mChain
  cases e1 : fa ls hp with
  | none => rfl
  | some p1 =>
    obtain ⟨x, hp1⟩ := p1
    dsimp only
    cases e2 : fb ls hp1 with
    | none => rfl
    | some p2 =>
      obtain ⟨y, hp2⟩ := p2
      dsimp only
      cases e3 : g x y hp2 with
      | none => rfl
      | some p3 =>
        obtain ⟨d, hp3⟩ := p3
        cases d <;> try rfl
        rename_i b
        cases b <;> rfl
theorem mChain3_s {fd : AE} {g g' g'' : D → D → Hd → Option (D × Hd)} : mChain3 fa fb fc fd g g' g'' ls hp = (match fa ls hp with
  | some (x, hp1) => match fb ls hp1 with
    | some (y, hp2) => match g x y hp2 with
      | some (.bl true, hp3) => match fc ls hp3 with
        | some (z, hp4) => match g' y z hp4 with
          | some (.bl true, hp5) => match fd ls hp5 with
            | some (w, hp6) => g'' z w hp6
            | none => none
          | some (.bl false, hp5) => some (.bl false, hp5)
          | _ => none
        | none => none
      | some (.bl false, hp3) => some (.bl false, hp3)
      | _ => none
    | none => none
  | none => none) := rfl
theorem mL_s {g : List D → Hd → Option (D × Hd)} : mL fl g ls hp = (match fl ls hp with
  | some (ds, hp1) => g ds hp1
  | none => none) := rfl
theorem m2L_s {g : D → List D → Hd → Option (D × Hd)} : m2L fa fl g ls hp = (match fa ls hp with
  | some (a, hp1) => match fl ls hp1 with
    | some (ds, hp2) => g a ds hp2
    | none => none
  | none => none) := rfl
theorem mMet_s {ck : D → Hd → Bool} {g : D → List D → Hd → Option (D × Hd)} : mMet ck fa fr g ls hp = (match fa ls hp with
  | some (x, hp1) => if ck x hp1 = true then (match fr ls hp1 with
    | some (ds, hp2) => g x ds hp2
    | none => none) else none
  | none => none) := rfl
theorem mExt_s : mExt fa fl ls hp = (match fa ls hp with
  | some (x, hp1) => if isL x hp1 = true then (match fl ls hp1 with
    | some (ds, hp2) => onL x hp2 fun xs => if xs.length + ds.length ≤ sizeLine then some (.non, xs ++ ds) else none
    | none => none) else none
  | none => none) := rfl
theorem mExtO_s : mExtO fa fb ls hp = (match fa ls hp with
  | some (x, hp1) => if isL x hp1 = true then (match fb ls hp1 with
    | some (y, hp2) => (match lstOf y hp2 with
      | some ds => onL x hp2 fun xs => if xs.length + ds.length ≤ sizeLine then some (.non, xs ++ ds) else none
      | none => none)
    | none => none) else none
  | none => none) := rfl
theorem mIsi_s {T : String} : mIsi T fa ls hp = (match fa ls hp with
  | some (x, hp1) => gIsi T [x] hp1
  | none => none) := rfl
theorem mSl_s {a b : Option AE} : mSl fa a b ls hp = (match fa ls hp with
  | some (x, hp1) => match mPo a ls hp1 with
    | some (l, hp2) => match mPo b ls hp2 with
      | some (u, hp3) => gSl x l u hp3
      | none => none
    | none => none
  | none => none) := rfl
theorem mPo_n : mPo none ls hp = some (none, hp) := rfl
theorem mPo_s : mPo (some fa) ls hp = (match fa ls hp with
  | some (.int i, hp1) => some (some i, hp1)
  | _ => none) := rfl
theorem mCat_s : mCat fl fm ls hp = (match fl ls hp with
  | some (xs, hp1) => match fm ls hp1 with
    | some (ys, hp2) => if xs.length + ys.length ≤ sizeLine then some (xs ++ ys, hp2) else none
    | none => none
  | none => none) := rfl
theorem mCatOL_s : mCatOL fa fm ls hp = (match fa ls hp with
  | some (x, hp1) => match fm ls hp1 with
    | some (ys, hp2) => match lstOf x hp2 with
      | some xs => if xs.length + ys.length ≤ sizeLine then some (xs ++ ys, hp2) else none
      | none => none
    | none => none
  | none => none) := rfl
theorem mCatLO_s : mCatLO fl fb ls hp = (match fl ls hp with
  | some (xs, hp1) => match fb ls hp1 with
    | some (y, hp2) => match lstOf y hp2 with
      | some ys => if xs.length + ys.length ≤ sizeLine then some (xs ++ ys, hp2) else none
      | none => none
    | none => none
  | none => none) := rfl
theorem mCatOO_s : mCatOO fa fb ls hp = (match fa ls hp with
  | some (x, hp1) => match fb ls hp1 with
    | some (y, hp2) => match lstOf x hp2, lstOf y hp2 with
      | some xs, some ys => if xs.length + ys.length ≤ sizeLine then some (xs ++ ys, hp2) else none
      | _, _ => none
    | none => none
  | none => none) := rfl
theorem mLRg1_s : mLRg1 fa ls hp = (match fa ls hp with
  | some (.int j, hp1) => if rgOk 0 j then some (rgD 0 j, hp1) else none
  | _ => none) := rfl
theorem mLRg2_s : mLRg2 fa fb ls hp = (match fa ls hp with
  | some (.int i, hp1) => match fb ls hp1 with
    | some (.int j, hp2) => if rgOk i j then some (rgD i j, hp2) else none
    | _ => none
  | _ => none) := rfl
theorem mTRg1_s : mTRg1 fa ls hp = (match mLRg1 fa ls hp with
  | some (ds, hp1) => some (.tup ds, hp1)
  | none => none) := rfl
theorem mTRg2_s : mTRg2 fa fb ls hp = (match mLRg2 fa fb ls hp with
  | some (ds, hp1) => some (.tup ds, hp1)
  | none => none) := rfl
theorem lstOf_ref {n : Nat} {xs : List D} (h : hp[n]? = some (.lst xs)) : lstOf (.ref n) hp = some xs := by
  unfold lstOf
  dsimp only
  rw [h]
theorem mRep_s : mRep fl fb ls hp = (match fl ls hp with
  | some (xs, hp1) => match fb ls hp1 with
    | some (.int k, hp2) => if 0 ≤ k ∧ k < 2 ^ 40 ∧ xs.length * k.toNat ≤ sizeLine then some ((List.replicate k.toNat xs).flatten, hp2) else none
    | _ => none
  | none => none) := rfl
theorem sAsgL_s {ts : List Tg} : sAsgL ts fl ls hp = (match fl ls hp with
  | some (ds, hp1) => match Tg.asgs ts ds ls with
    | some ls1 => some (.nx, ls1, hp1)
    | none => none
  | none => none) := rfl
theorem sPar3_s {i j l : Nat} : sPar3 i j l fr ls hp = (match fr ls hp with
  | some ([a, b, c], hp1) => some (.nx, ((ls.set i (some a)).set j (some b)).set l (some c), hp1)
  | _ => none) := rfl
theorem sAug_s {i : Nat} {g : D → D → Hd → Option (D × Hd)} : sAug i fa g ls hp = (match ls[i]? with
  | some (some x) => match fa ls hp with
    | some (y, hp1) => match g x y hp1 with
      | some (z, hp2) => some (.nx, ls.set i (some z), hp2)
      | none => none
    | none => none
  | _ => none) := rfl
theorem sBrk_s : sBrk ls hp = some (.bk, ls, hp) := rfl
theorem sCnt_s : sCnt ls hp = some (.ct, ls, hp) := rfl
theorem sRetN_s : sRetN ls hp = some (.rt .non, ls, hp) := rfl
theorem tYesD_s : tYesD ls hp = some (true, hp) := rfl
theorem mSorted_s : mSorted fa ls hp = (match fa ls hp with
  | some (d, hp1) => gSrtO d hp1
  | none => none) := rfl
theorem mSortedL_s : mSortedL fl ls hp = (match fl ls hp with
  | some (ds, hp1) => gSrt ds hp1
  | none => none) := rfl
theorem mIS_s : mIS fa ls hp = (match fa ls hp with
  | some (d, hp1) => match itOf d hp1 with
    | some (items, gd) => some (items, gd, hp1)
    | none => none
  | none => none) := rfl
theorem sAsgM_s {t : TgM} : sAsgM t fa ls hp = (match fa ls hp with
  | some (d, hp1) => match t d ls hp1 with
    | some (ls1, hp2) => some (.nx, ls1, hp2)
    | none => none
  | none => none) := rfl
theorem tNm_s {i : Nat} {d : D} : tNm i d ls hp = some (ls.set i (some d), hp) := rfl
theorem tSub_s {d : D} : tSub fa fb d ls hp = (match fa ls hp with
  | some (x, hp1) => match fb ls hp1 with
    | some (y, hp2) => match gSet x y d hp2 with
      | some hp3 => some (ls, hp3)
      | none => none
    | none => none
  | none => none) := rfl
theorem tTp_s {ts : List TgM} {ds : List D} : tTp ts (.tup ds) ls hp = tTps ts ds ls hp := rfl
theorem tTps_nil : tTps [] [] ls hp = some (ls, hp) := rfl
theorem tTps_cons {t : TgM} {ts : List TgM} {d : D} {ds : List D} : tTps (t :: ts) (d :: ds) ls hp = (match t d ls hp with
  | some (ls1, hp1) => tTps ts ds ls1 hp1
  | none => none) := rfl
theorem mEnum_tup {ds : List D} {hp1 : Hd} (e : fa ls hp = some (.tup ds, hp1)) : mEnum fa ls hp = some (enumD ds, [], hp1) := by
  unfold mEnum
  rw [e]
  rfl
theorem mEnum_ref {n : Nat} {xs : List D} {hp1 : Hd} (e : fa ls hp = some (.ref n, hp1)) (h : hp1[n]? = some (.lst xs)) : mEnum fa ls hp = some (enumD xs, [(n, xs)], hp1) := by
  unfold mEnum
  rw [e]
  dsimp only
  rw [show tupOf (.ref n) = none from rfl]
  dsimp only
  rw [h]
theorem mList_s : mList fa ls hp = (match fa ls hp with
  | some (d, hp1) => gListO d hp1
  | none => none) := rfl
theorem mIL_s : mIL fl ls hp = (match fl ls hp with
  | some (ds, hp1) => some (ds, [], hp1)
  | none => none) := rfl
theorem mDict0_s : mDict0 ls hp = some (.ref hp.length, hp ++ [.dic []]) := rfl
theorem asg_nm {i : Nat} {d : D} : Tg.asg (.nm i) d ls = some (ls.set i (some d)) := by rw [Tg.asg]
theorem asg_tp {ts : List Tg} {ds : List D} : Tg.asg (.tp ts) (.tup ds) ls = Tg.asgs ts ds ls := by rw [Tg.asg]
theorem asg_tpT {ts : List Tg} {a : List Int} : Tg.asg (.tp ts) (T a) ls = Tg.asgs ts (a.map D.int) ls := by rw [T, Tg.asg]
theorem asgs_nil : Tg.asgs [] [] ls = some ls := by rw [Tg.asgs]
theorem asgs_cons {t : Tg} {ts : List Tg} {d : D} {ds : List D} : Tg.asgs (t :: ts) (d :: ds) ls = (match Tg.asg t d ls with
  | some ls1 => Tg.asgs ts ds ls1
  | none => none) := by rw [Tg.asgs]; try rfl
theorem stD_s {n : Nat} {ds : List D} : stD n ds = ds.map some ++ List.replicate (n - ds.length) none := rfl
theorem sForI_s {fi : AI} {t : Tg} {b : AS} : sForI fi t b ls hp = (match fi ls hp with
  | some (items, gd, hp1) => sFor t gd b items ls hp1
  | none => none) := rfl
theorem mR1_of {j : Int} {hp1 : Hd} (e : fr ls hp = some ([.int j], hp1)) (h : -(2 ^ 62) ≤ j ∧ j < 2 ^ 62) : mR1 fr ls hp = some ((List.range j.toNat).map fun i => D.int (i : Nat), [], hp1) := by
  unfold mR1
  rw [e]
  dsimp only
  rw [if_pos h]
theorem mR1_nat {j : Nat} {hp1 : Hd} (e : fr ls hp = some ([.int (j : Nat)], hp1)) (h : j < 2 ^ 62) : mR1 fr ls hp = some ((List.range j).map fun i => D.int (i : Nat), [], hp1) := by
  rw [mR1_of e (by omega)]
  rfl
theorem mR2_nat {i j : Nat} {hp1 : Hd} (e : fr ls hp = some ([.int (i : Nat), .int (j : Nat)], hp1)) (h : i < 2 ^ 62 ∧ j < 2 ^ 62) : mR2 fr ls hp = some ((List.range (j - i)).map fun k => D.int ((i + k : Nat) : Int), [], hp1) := by
  unfold mR2
  rw [e]
  dsimp only
  rw [if_pos (by omega)]
  have : ((j : Int) - (i : Int)).toNat = j - i := by omega
  rw [this]
  simp
end

theorem sFor_pre {α : Type} {t : Tg} {b : AS} {gd : Gd} (φ : α → D) (Inv : List α → Ls → Hd → Prop) (hg : ∀ d ls hp, Inv d ls hp → gdOk gd hp = true) : ∀ (items done : List α) (ls : Ls) (hp : Hd), Inv done ls hp →
    (∀ (d : List α) (x : α) (r : List α) ls hp, done ++ items = d ++ x :: r → Inv d ls hp → ∃ ls1 ls2 hp2, t.asg (φ x) ls = some ls1 ∧ (b ls1 hp = some (.nx, ls2, hp2) ∨ b ls1 hp = some (.ct, ls2, hp2)) ∧ Inv (d ++ [x]) ls2 hp2) →
    ∃ ls' hp', sFor t gd b (items.map φ) ls hp = some (.nx, ls', hp') ∧ Inv (done ++ items) ls' hp'
  | [], done, ls, hp, h, _ => ⟨ls, hp, by simp only [List.map_nil, sFor, hg _ _ _ h, if_true], by simpa using h⟩
  | x :: xs, done, ls, hp, h, step => by
    obtain ⟨ls1, ls2, hp2, e1, e2, h2⟩ := step done x xs ls hp rfl h
    obtain ⟨ls', hp', e3, h3⟩ := sFor_pre φ Inv hg xs (done ++ [x]) ls2 hp2 h2 fun d y r ls hp e hi => step d y r ls hp (by rw [← e, List.append_assoc]; rfl) hi
    refine ⟨ls', hp', ?_, by rw [List.append_assoc] at h3; exact h3⟩
    rcases e2 with e2 | e2 <;> simp only [List.map_cons, sFor, hg _ _ _ h, if_true, e1, e2, e3]
theorem sForI_pre {α : Type} {fi : AI} {t : Tg} {b : AS} {gd : Gd} {items : List α} {ls : Ls} {hp hp1 : Hd} (φ : α → D) (Inv : List α → Ls → Hd → Prop) (ei : fi ls hp = some (items.map φ, gd, hp1)) (hg : ∀ d ls hp, Inv d ls hp → gdOk gd hp = true) (h0 : Inv [] ls hp1)
    (step : ∀ (d : List α) (x : α) (r : List α) ls hp, items = d ++ x :: r → Inv d ls hp → ∃ ls1 ls2 hp2, t.asg (φ x) ls = some ls1 ∧ (b ls1 hp = some (.nx, ls2, hp2) ∨ b ls1 hp = some (.ct, ls2, hp2)) ∧ Inv (d ++ [x]) ls2 hp2) :
    ∃ ls' hp', sForI fi t b ls hp = some (.nx, ls', hp') ∧ Inv items ls' hp' := by
  obtain ⟨ls', hp', e, h⟩ := sFor_pre φ Inv hg items [] ls hp1 h0 fun d x r ls hp e hi => step d x r ls hp (by simpa using e) hi
  refine ⟨ls', hp', ?_, by simpa using h⟩
  rw [sForI_s, ei]
  exact e
theorem sForI_rel {α S : Type} {fi : AI} {t : Tg} {b : AS} {gd : Gd} {items : List α} {ls : Ls} {hp hp1 : Hd} (φ : α → D) (Rel : S → Ls → Hd → Prop) (step : S → α → S) (ei : fi ls hp = some (items.map φ, gd, hp1)) (hg : ∀ s ls hp, Rel s ls hp → gdOk gd hp = true) (s0 : S) (h0 : Rel s0 ls hp1)
    (hs : ∀ x ∈ items, ∀ s ls hp, Rel s ls hp → ∃ ls1 ls2 hp2, t.asg (φ x) ls = some ls1 ∧ (b ls1 hp = some (.nx, ls2, hp2) ∨ b ls1 hp = some (.ct, ls2, hp2)) ∧ Rel (step s x) ls2 hp2) :
    ∃ ls' hp', sForI fi t b ls hp = some (.nx, ls', hp') ∧ Rel (items.foldl step s0) ls' hp' :=
  sForI_pre φ (fun d ls hp => Rel (d.foldl step s0) ls hp) ei (fun d ls hp h => hg _ _ _ h) h0 fun d x r ls hp e hi => by
    obtain ⟨ls1, ls2, hp2, a, b, c⟩ := hs x (by rw [e]; simp) _ ls hp hi
    exact ⟨ls1, ls2, hp2, a, b, by rw [List.foldl_append]; exact c⟩
theorem sForI_ret {α : Type} {fi : AI} {t : Tg} {b : AS} {gd : Gd} {items : List α} {ls : Ls} {hp hp1 : Hd} (φ : α → D) (Inv : List α → Ls → Hd → Prop) (d0 : D) (ei : fi ls hp = some (items.map φ, gd, hp1)) (hg : ∀ d ls hp, Inv d ls hp → gdOk gd hp = true) (h0 : Inv [] ls hp1) (bad : α → Bool)
    (step : ∀ (d : List α) (x : α) (r : List α) ls hp, items = d ++ x :: r → Inv d ls hp → ∃ ls1 ls2 hp2, t.asg (φ x) ls = some ls1 ∧ (if bad x = true then b ls1 hp = some (.rt d0, ls2, hp2) else (b ls1 hp = some (.nx, ls2, hp2) ∨ b ls1 hp = some (.ct, ls2, hp2)) ∧ Inv (d ++ [x]) ls2 hp2)) :
    ∃ ls' hp', if items.any bad = true then sForI fi t b ls hp = some (.rt d0, ls', hp') else sForI fi t b ls hp = some (.nx, ls', hp') ∧ Inv items ls' hp' := by
  have key : ∀ (its done : List α) (ls : Ls) (hp : Hd), items = done ++ its → Inv done ls hp → ∃ ls' hp', if its.any bad = true then sFor t gd b (its.map φ) ls hp = some (.rt d0, ls', hp') else sFor t gd b (its.map φ) ls hp = some (.nx, ls', hp') ∧ Inv items ls' hp' := by
    intro its
    induction its with
    | nil =>
      intro done ls hp e h
      refine ⟨ls, hp, ?_⟩
      rw [List.any_nil, if_neg (by simp)]
      refine ⟨by simp only [List.map_nil, sFor, hg _ _ _ h, if_true], ?_⟩
      rw [e, List.append_nil]
      exact h
    | cons x xs ih =>
      intro done ls hp e h
      obtain ⟨ls1, ls2, hp2, e1, e2⟩ := step done x xs ls hp e h
      by_cases hb : bad x = true
      · rw [if_pos hb] at e2
        refine ⟨ls2, hp2, ?_⟩
        rw [List.any_cons, hb, Bool.true_or, if_pos rfl]
        simp only [List.map_cons, sFor, hg _ _ _ h, if_true, e1, e2]
      · rw [if_neg hb] at e2
        obtain ⟨e2, h2⟩ := e2
        obtain ⟨ls', hp', e3⟩ := ih (done ++ [x]) ls2 hp2 (by rw [e, List.append_assoc]; rfl) h2
        refine ⟨ls', hp', ?_⟩
        have hb' : bad x = false := by simpa using hb
        rw [List.any_cons, hb', Bool.false_or]
        have eq : sFor t gd b ((x :: xs).map φ) ls hp = sFor t gd b (xs.map φ) ls2 hp2 := by
          rcases e2 with e2 | e2 <;> simp only [List.map_cons, sFor, hg _ _ _ h, if_true, e1, e2]
        rw [eq]
        exact e3
  obtain ⟨ls', hp', h⟩ := key items [] ls hp1 rfl h0
  refine ⟨ls', hp', ?_⟩
  have eq : sForI fi t b ls hp = sFor t gd b (items.map φ) ls hp1 := by rw [sForI_s, ei]
  rw [eq]
  exact h
theorem sWhile_rel {S : Type} {c : AT} {b : AS} (Rel : S → Ls → Hd → Prop) (Done : S → Prop) (μ : S → Nat)
    (h : ∀ s ls hp, Rel s ls hp → (c ls hp = some (false, hp) ∧ Done s) ∨ (c ls hp = some (true, hp) ∧ ∃ s' ls2 hp2, (b ls hp = some (.nx, ls2, hp2) ∨ b ls hp = some (.ct, ls2, hp2)) ∧ Rel s' ls2 hp2 ∧ μ s' < μ s)) :
    ∀ (n : Nat) (s : S) (ls : Ls) (hp : Hd), μ s < n → Rel s ls hp → ∃ s' ls' hp', sWhile c b n ls hp = some (.nx, ls', hp') ∧ Rel s' ls' hp' ∧ Done s'
  | 0, s, ls, hp, hn, _ => by omega
  | n + 1, s, ls, hp, hn, hr => by
    rcases h s ls hp hr with ⟨e, d⟩ | ⟨e, s', ls2, hp2, e2, hr2, hm⟩
    · exact ⟨s, ls, hp, by rw [sWhile, e], hr, d⟩
    · obtain ⟨s3, ls3, hp3, e3, hr3, d⟩ := sWhile_rel Rel Done μ h n s' ls2 hp2 (by omega) hr2
      refine ⟨s3, ls3, hp3, ?_, hr3, d⟩
      rcases e2 with e2 | e2 <;> rw [sWhile, e] <;> dsimp only <;> rw [e2] <;> exact e3
theorem mLc_pre {α : Type} {fi : AI} {t : Tg} {own : List Nat} {te : AE} {gd : Gd} {items : List α} {ls : Ls} {hp hp1 : Hd} (φ : α → D) (Inv : List α → List D → Hd → Prop) (ei : fi ls hp = some (items.map φ, gd, hp1)) (hl : items.length ≤ sizeLine) (hg : ∀ d o hp, Inv d o hp → gdOk gd hp = true) (h0 : Inv [] [] hp1)
    (step : ∀ (d : List α) (x : α) (r : List α) (o : List D) hp, items = d ++ x :: r → Inv d o hp → ∃ ls1 y hp2, t.asg (φ x) (wipeL ls own) = some ls1 ∧ te ls1 hp = some (y, hp2) ∧ Inv (d ++ [x]) (o ++ [y]) hp2) :
    ∃ out hp', mLc fi t own tYesD te ls hp = some (out, hp') ∧ Inv items out hp' := by
  have key : ∀ (its done : List α) (o : List D) (hp : Hd), items = done ++ its → Inv done o hp → ∃ out hp', lcGo t gd tYesD te (wipeL ls own) (its.map φ) hp = some (out, hp') ∧ Inv items (o ++ out) hp' := by
    intro its
    induction its with
    | nil =>
      intro done o hp e h
      refine ⟨[], hp, by simp only [List.map_nil, lcGo, hg _ _ _ h, if_true], ?_⟩
      rw [e, List.append_nil, List.append_nil]
      exact h
    | cons x xs ih =>
      intro done o hp e h
      obtain ⟨ls1, y, hp2, e1, e2, h2⟩ := step done x xs o hp e h
      obtain ⟨out, hp', e3, h3⟩ := ih (done ++ [x]) (o ++ [y]) hp2 (by rw [e, List.append_assoc]; rfl) h2
      refine ⟨y :: out, hp', ?_, by rw [List.append_assoc] at h3; exact h3⟩
      simp only [List.map_cons, lcGo, hg _ _ _ h, if_true, e1, tYesD_s, e2, e3]
  obtain ⟨out, hp', e, h⟩ := key items [] [] hp1 rfl h0
  refine ⟨out, hp', ?_, h⟩
  unfold mLc
  rw [ei]
  dsimp only
  rw [if_pos (by rw [List.length_map]; exact hl)]
  exact e

structure EqE {α : Type} (n : Nat) (e : α → D) where
  py : α → PyData
  f : ∀ hp m a, pyF hp (m + n) (e a) = some (py a)
  lay : ∀ a, PyData.canLay0 (py a) = true
  dep : ∀ a, (py a).depth < n
  pos : 0 < n
  eqv : ∀ a b : α, PyData.eqv (py a) (py b) = true ↔ a = b
namespace EqE
variable {α : Type} {n : Nat} {e : α → D}
def int : EqE 1 D.int := ⟨PyData.int, fun _ _ _ => rfl, fun _ => rfl, fun _ => Nat.zero_lt_one, Nat.zero_lt_one, fun a b => by
  show (a == b) = true ↔ a = b
  exact beq_iff_eq⟩
theorem mapO_e (E : EqE n e) {hp : Hd} {m : Nat} : ∀ xs : List α, mapO (pyF hp (m + n)) (xs.map e) = some (xs.map E.py)
  | [] => rfl
  | x :: r => by rw [List.map_cons, mapO, E.f, mapO_e E r]; rfl
theorem canAll (E : EqE n e) : ∀ xs : List α, PyData.canLayAll0 (xs.map E.py) = true
  | [] => rfl
  | x :: r => by rw [List.map_cons, PyData.canLayAll0, E.lay, canAll E r]; rfl
theorem depAll (E : EqE n e) : ∀ xs : List α, PyData.depthAll (xs.map E.py) ≤ n - 1
  | [] => Nat.zero_le _
  | x :: r => by
    have := E.dep x
    have := depAll E r
    rw [List.map_cons, PyData.depthAll]
    omega
theorem eqvAll (E : EqE n e) : ∀ xs ys : List α, PyData.eqvAll (xs.map E.py) (ys.map E.py) = true ↔ xs = ys
  | [], [] => by simp [PyData.eqvAll]
  | [], _ :: _ => by simp [PyData.eqvAll]
  | _ :: _, [] => by simp [PyData.eqvAll]
  | x :: r, y :: s => by
    rw [List.map_cons, List.map_cons, PyData.eqvAll, Bool.and_eq_true, E.eqv, eqvAll E r s]
    simp
def tup (E : EqE n e) : EqE (n + 1) (fun xs : List α => D.tup (xs.map e)) := ⟨fun xs => .tuple (xs.map E.py),
  fun hp m xs => by
    show (mapO (pyF hp (m + n)) (xs.map e)).map PyData.tuple = _
    rw [mapO_e]
    rfl,
  fun xs => by rw [PyData.canLay0]; exact E.canAll xs,
  fun xs => by
    have := E.depAll xs
    rw [PyData.depth]
    have := E.pos
    omega,
  Nat.succ_pos _,
  fun xs ys => by rw [PyData.eqv]; exact E.eqvAll xs ys⟩
theorem shaped (E : EqE n e) (hn : n ≤ 16) (a : α) : SeqAt.shaped (E.py a) = true := by
  unfold SeqAt.shaped
  have := E.dep a
  rw [E.lay, Bool.true_and, decide_eq_true_eq]
  omega
theorem f16 (E : EqE n e) (hn : n ≤ 16) (hp : Hd) (a : α) : pyF hp 16 (e a) = some (E.py a) := by
  have := E.f hp (16 - n) a
  rwa [show 16 - n + n = 16 by omega] at this
theorem eq [DecidableEq α] (E : EqE n e) (hn : n ≤ 16) (hp : Hd) (a b : α) : eqH hp (e a) (e b) = some (decide (a = b)) := by
  unfold eqH
  rw [E.f16 hn, E.f16 hn]
  dsimp only
  rw [E.shaped hn, E.shaped hn]
  simp only [Bool.and_self, if_true, Option.some.injEq]
  rw [Bool.eq_iff_iff, E.eqv, decide_eq_true_eq]
theorem gEq [DecidableEq α] (E : EqE n e) (hn : n ≤ 16) (hp : Hd) (a b : α) : gEq (e a) (e b) hp = some (.bl (decide (a = b)), hp) := by
  unfold Ve.gEq
  rw [E.eq hn]
theorem gNe [DecidableEq α] (E : EqE n e) (hn : n ≤ 16) (hp : Hd) (a b : α) : gNe (e a) (e b) hp = some (.bl (!decide (a = b)), hp) := by
  unfold Ve.gNe
  rw [E.eq hn]
theorem inL [DecidableEq α] (E : EqE n e) (hn : n ≤ 15) (hp : Hd) (a : α) (xs : List α) : inL hp (e a) (xs.map e) = some (decide (a ∈ xs)) := by
  unfold Ve.inL
  have h15 : mapO (pyF hp 15) (xs.map e) = some (xs.map E.py) := by
    have := E.mapO_e (hp := hp) (m := 15 - n) xs
    rwa [show 15 - n + n = 15 by omega] at this
  rw [E.f16 (by omega), h15]
  dsimp only
  have s1 : SeqAt.shaped (.list (xs.map E.py)) = true := by
    unfold SeqAt.shaped
    have := E.depAll xs
    rw [PyData.canLay0, E.canAll, Bool.true_and, decide_eq_true_eq, PyData.depth]
    omega
  rw [E.shaped (by omega), s1]
  simp only [Bool.and_self, if_true, Option.some.injEq, List.any_map]
  rw [Bool.eq_iff_iff, decide_eq_true_eq, List.any_eq_true]
  constructor
  · rintro ⟨x, hx, h⟩
    rw [← (E.eqv x a).mp h]
    exact hx
  · intro h
    exact ⟨a, h, (E.eqv a a).mpr rfl⟩
theorem gIn_lst [DecidableEq α] (E : EqE n e) (hn : n ≤ 15) {hp : Hd} {k : Nat} {xs : List α} (h : hp[k]? = some (.lst (xs.map e))) (a : α) : gIn (e a) (.ref k) hp = some (.bl (decide (a ∈ xs)), hp) := by
  have e1 : inB (e a) (.ref k) hp = some (decide (a ∈ xs)) := by
    rw [← E.inL hn hp a xs]
    unfold inB
    dsimp only
    rw [h]
  unfold gIn
  rw [e1]
theorem gNotIn_lst [DecidableEq α] (E : EqE n e) (hn : n ≤ 15) {hp : Hd} {k : Nat} {xs : List α} (h : hp[k]? = some (.lst (xs.map e))) (a : α) : gNotIn (e a) (.ref k) hp = some (.bl (!decide (a ∈ xs)), hp) := by
  have e1 : inB (e a) (.ref k) hp = some (decide (a ∈ xs)) := by
    rw [← E.inL hn hp a xs]
    unfold inB
    dsimp only
    rw [h]
  unfold gNotIn
  rw [e1]
theorem lists [DecidableEq α] (E : EqE n e) (hn : n ≤ 15) {hp : Hd} {i j : Nat} {xs ys : List α} (h1 : hp[i]? = some (.lst (xs.map e))) (h2 : hp[j]? = some (.lst (ys.map e))) : eqH hp (.ref i) (.ref j) = some (decide (xs = ys)) := by
  have f : ∀ {i : Nat} {xs : List α}, hp[i]? = some (.lst (xs.map e)) → pyF hp 16 (.ref i) = some (.list (xs.map E.py)) := by
    intro i xs h
    rw [pyF_ref (n := 15) h]
    have := E.mapO_e (hp := hp) (m := 15 - n) xs
    rw [show 15 - n + n = 15 by omega] at this
    rw [this]
    rfl
  have s1 : ∀ xs : List α, SeqAt.shaped (.list (xs.map E.py)) = true := by
    intro xs
    unfold SeqAt.shaped
    have := E.depAll xs
    rw [PyData.canLay0, E.canAll, Bool.true_and, decide_eq_true_eq, PyData.depth]
    omega
  unfold eqH
  rw [f h1, f h2]
  dsimp only
  rw [s1, s1]
  simp only [Bool.and_self, if_true, Option.some.injEq]
  rw [Bool.eq_iff_iff, decide_eq_true_eq, PyData.eqv, E.eqvAll]
end EqE
def eT : EqE 2 T := EqE.int.tup
def TT (bs : List (List Int)) : D := .tup (bs.map T)
def eTT : EqE 3 TT := eT.tup
def TTT (bs : List (List (List Int))) : D := .tup (bs.map TT)
def eTTT : EqE 4 TTT := eTT.tup
theorem nr_TT (bs : List (List Int)) : nr (TT bs) = true := nrs_T bs
theorem nrs_of {ds : List D} (h : ∀ d ∈ ds, nr d = true) : nrs ds = true := by
  induction ds with
  | nil => rfl
  | cons d r ih => exact nrs_cons (h d List.mem_cons_self) (ih fun x hx => h x (List.mem_cons_of_mem _ hx))
theorem nrs_map {α : Type} {e : α → D} (h : ∀ a, nr (e a) = true) (xs : List α) : nrs (xs.map e) = true := nrs_of fun d hd => by
  obtain ⟨a, _, rfl⟩ := List.mem_map.mp hd
  exact h a
theorem nr_TTT (bs : List (List (List Int))) : nr (TTT bs) = true := nrs_map nr_TT bs
theorem ixN_n {n j : Nat} (h : j < n) : ixN n (j : Int) = some j := by
  unfold ixN
  rw [if_pos (by omega), if_pos (by omega)]
  rfl
theorem ixN_i {n : Nat} {i : Int} (h : 0 ≤ i ∧ i < n) : ixN n i = some i.toNat := by
  unfold ixN
  rw [if_pos h.1, if_pos h.2]
theorem atI_n {α : Type} {xs : List α} {j : Nat} (h : j < xs.length) : atI xs (j : Int) = some xs[j] := by
  unfold atI
  rw [ixN_n h]
  exact List.getElem?_eq_getElem h
theorem atI_i {α : Type} {xs : List α} {i : Int} (h : 0 ≤ i ∧ i < xs.length) : atI xs i = some (xs[i.toNat]'(by omega)) := by
  unfold atI
  rw [ixN_i h]
  exact List.getElem?_eq_getElem (by omega)
theorem atI_neg1 {α : Type} {xs : List α} (h : xs ≠ []) : atI xs (-1) = xs.getLast? := by
  have : 0 < xs.length := List.length_pos_iff.mpr h
  unfold atI ixN
  rw [if_neg (by omega), if_pos (by omega)]
  rw [List.getLast?_eq_getElem?]
  have : (-1 + (xs.length : Int)).toNat = xs.length - 1 := by omega
  rw [this]
  rfl
theorem gIx_ref {hp : Hd} {n : Nat} {xs : List D} {i : Int} (h : hp[n]? = some (.lst xs)) : gIx (.ref n) (.int i) hp = (match atI xs i with
  | some d => some (d, hp)
  | none => none) := by
  unfold gIx
  dsimp only
  rw [h]
  try rfl
theorem gIx_tupI {hp : Hd} {xs : List D} {i : Int} : gIx (.tup xs) (.int i) hp = (match atI xs i with
  | some d => some (d, hp)
  | none => none) := rfl
theorem gIx_refN {hp : Hd} {n j : Nat} {xs : List D} {x : D} (h : hp[n]? = some (.lst xs)) (e : xs[j]? = some x) : gIx (.ref n) (.int (j : Nat)) hp = some (x, hp) := by
  rw [gIx_ref h, atI_nat e]
theorem gIx_tupN {hp : Hd} {j : Nat} {xs : List D} {x : D} (e : xs[j]? = some x) : gIx (.tup xs) (.int (j : Nat)) hp = some (x, hp) := by
  rw [gIx_tupI, atI_nat e]
theorem gSet_int {hp : Hd} {n : Nat} {xs : List D} {i : Int} {v : D} (h : hp[n]? = some (.lst xs)) (hi : 0 ≤ i ∧ i < xs.length) : gSet (.ref n) (.int i) v hp = some (hp.set n (.lst (xs.set i.toNat v))) := by
  unfold gSet
  dsimp only
  rw [h]
  dsimp only
  rw [ixN_i hi]
theorem gSet_nat {hp : Hd} {n j : Nat} {xs : List D} {v : D} (h : hp[n]? = some (.lst xs)) (hi : j < xs.length) : gSet (.ref n) (.int (j : Nat)) v hp = some (hp.set n (.lst (xs.set j v))) := by
  rw [gSet_int h (by omega)]
  rfl
theorem zipD_map {α β : Type} {f : α → D} {g : β → D} : ∀ (a : List α) (b : List β), zipD (a.map f) (b.map g) = (a.zip b).map fun p => D.tup [f p.1, g p.2]
  | [], _ => by simp [zipD]
  | _ :: _, [] => by simp [zipD]
  | x :: r, y :: s => by simp [zipD, zipD_map r s]
theorem mZip_T {fa fb : AE} {ls : Ls} {hp : Hd} {a b : List Int} (e1 : fa ls hp = some (T a, hp)) (e2 : fb ls hp = some (T b, hp)) : mZip fa fb ls hp = some ((a.zip b).map fun p => D.tup [.int p.1, .int p.2], [], hp) := by
  unfold mZip
  rw [e1]
  dsimp only
  rw [e2]
  dsimp only
  rw [show tupOf (T a) = some (a.map D.int) from rfl, show tupOf (T b) = some (b.map D.int) from rfl]
  dsimp only
  rw [zipD_map]
theorem gListO_ref {hp : Hd} {n : Nat} {xs : List D} (h : hp[n]? = some (.lst xs)) : gListO (.ref n) hp = some (xs, hp) := by
  unfold gListO
  rw [show tupOf (.ref n) = none from rfl]
  dsimp only
  rw [show seqOfL (.ref n) hp = some xs from by
    show (match hp[n]? with
      | some (.lst xs) => some xs
      | _ => none) = _
    rw [h]]
theorem gListO_tup {hp : Hd} {xs : List D} : gListO (.tup xs) hp = some (xs, hp) := rfl
theorem gPopAt_of {hp : Hd} {n i : Nat} {xs : List D} {y : D} (h : hp[n]? = some (.lst xs)) (e : xs[i]? = some y) (hi : i < 2 ^ 62) : gPopAt (.ref n) [.int (i : Nat)] hp = some (y, hp.set n (.lst (xs.eraseIdx i))) := by
  have hl := (List.getElem?_eq_some_iff.mp e).1
  unfold gPopAt
  dsimp only
  rw [if_pos (by omega)]
  unfold onL
  dsimp only
  rw [h]
  dsimp only
  rw [show seqIndex? (i : Nat) xs.length = some i from by
    unfold seqIndex?
    simp only [show ¬ ((i : Nat) : Int) < 0 by omega, if_false]
    simp; omega]
  dsimp only
  rw [e]
theorem isL_of {hp : Hd} {n : Nat} {xs : List D} (h : hp[n]? = some (.lst xs)) : isL (.ref n) hp = true := by
  unfold isL
  dsimp only
  rw [h]
theorem onL_of {hp : Hd} {n : Nat} {xs ys : List D} {d : D} {g : List D → Option (D × List D)} (h : hp[n]? = some (.lst xs)) (e : g xs = some (d, ys)) : onL (.ref n) hp g = some (d, hp.set n (.lst ys)) := by
  unfold onL
  dsimp only
  rw [h]
  dsimp only
  rw [e]
theorem gAppend_of {hp : Hd} {n : Nat} {xs : List D} {d : D} (h : hp[n]? = some (.lst xs)) (hl : xs.length < 16777216) : gAppend (.ref n) [d] hp = some (.non, hp.set n (.lst (xs ++ [d]))) := by
  unfold gAppend
  dsimp only
  exact onL_of h (by rw [sizeLine_eq, if_pos hl])
theorem gPop_of {hp : Hd} {n : Nat} {xs : List D} {d : D} (h : hp[n]? = some (.lst (xs ++ [d]))) : gPop (.ref n) [] hp = some (d, hp.set n (.lst xs)) := by
  unfold gPop
  dsimp only
  refine onL_of h ?_
  rw [List.length_append, List.length_singleton, Nat.add_sub_cancel, List.getElem?_concat_length, List.dropLast_concat]
theorem eraseIdx_map' {α β : Type} (f : α → β) : ∀ (l : List α) (k : Nat), (l.map f).eraseIdx k = (l.eraseIdx k).map f
  | [], _ => rfl
  | _ :: _, 0 => rfl
  | x :: xs, k + 1 => by rw [List.map_cons, List.eraseIdx_cons_succ, List.eraseIdx_cons_succ, List.map_cons, eraseIdx_map' f xs k]
theorem cons_eraseIdx_perm {α : Type} : ∀ (l : List α) (k : Nat) (h : k < l.length), (l[k] :: l.eraseIdx k).Perm l
  | x :: xs, 0, _ => List.Perm.refl _
  | x :: xs, k + 1, h => by
    rw [List.getElem_cons_succ, List.eraseIdx_cons_succ]
    exact (List.Perm.swap x _ _).trans ((cons_eraseIdx_perm xs k (by simpa using h)).cons x)
end Ve
namespace Ve
open PySem PySem.Spec L2

section
variable {α : Type} [DecidableEq α]
def psh (st : List α × List α) (b : α) : List α × List α := if b ∈ st.1 then st else (st.1 ++ [b], st.2 ++ [b])
structure Mt (P : α → Prop) (N : α → List α) (met wait : List α) : Prop where
  nd : met.Nodup
  pr : ∀ a ∈ met, P a
  wm : ∀ a ∈ wait, a ∈ met
  cl : ∀ a ∈ met, a ∉ wait → ∀ b ∈ N a, b ∈ met
structure Ex (P : α → Prop) (met0 wa : List α) (l : List α) (st : List α × List α) : Prop where
  nd : st.1.Nodup
  pr : ∀ a ∈ st.1, P a
  m0 : ∀ a ∈ met0, a ∈ st.1
  w0 : ∀ a ∈ wa, a ∈ st.2
  wm : ∀ a ∈ st.2, a ∈ st.1
  new : ∀ a ∈ st.1, a ∈ met0 ∨ a ∈ st.2
  cnt : st.2.length + met0.length = wa.length + st.1.length
  done : ∀ b ∈ l, b ∈ st.1
theorem Ex.fold {P : α → Prop} {met0 w0 : List α} : ∀ (l done : List α) (st : List α × List α), Ex P met0 w0 done st → (∀ b ∈ l, P b) → Ex P met0 w0 (done ++ l) (l.foldl psh st)
  | [], done, st, h, _ => by rw [List.append_nil]; exact h
  | b :: l, done, st, h, hp => by
    have hb := hp b List.mem_cons_self
    have h2 : Ex P met0 w0 (done ++ [b]) (psh st b) := by
      unfold psh
      by_cases hm : b ∈ st.1
      · rw [if_pos hm]
        exact ⟨h.nd, h.pr, h.m0, h.w0, h.wm, h.new, h.cnt, fun x hx => by
          rcases List.mem_append.mp hx with hx | hx
          · exact h.done x hx
          · rw [List.mem_singleton.mp hx]; exact hm⟩
      · rw [if_neg hm]
        refine ⟨List.nodup_append.mpr ⟨h.nd, by simp, fun x hx y hy e => ?_⟩, fun a ha => ?_, fun a ha => List.mem_append_left _ (h.m0 a ha), fun a ha => List.mem_append_left _ (h.w0 a ha), fun a ha => ?_, fun a ha => ?_, ?_, fun x hx => ?_⟩
        · rw [List.mem_singleton.mp hy] at e
          rw [e] at hx
          exact hm hx
        · rcases List.mem_append.mp ha with ha | ha
          · exact h.pr a ha
          · rw [List.mem_singleton.mp ha]; exact hb
        · rcases List.mem_append.mp ha with ha | ha
          · exact List.mem_append_left _ (h.wm a ha)
          · exact List.mem_append_right _ ha
        · rcases List.mem_append.mp ha with ha | ha
          · rcases h.new a ha with z | z
            · exact .inl z
            · exact .inr (List.mem_append_left _ z)
          · exact .inr (List.mem_append_right _ ha)
        · have := h.cnt
          simp only [List.length_append, List.length_singleton]
          omega
        · rcases List.mem_append.mp hx with hx | hx
          · exact List.mem_append_left _ (h.done x hx)
          · exact List.mem_append_right _ hx
    have := Ex.fold l (done ++ [b]) (psh st b) h2 fun x hx => hp x (List.mem_cons_of_mem _ hx)
    rw [List.append_assoc] at this
    exact this
theorem Mt.begin (P : α → Prop) (N : α → List α) (a : α) (h : P a) : Mt P N [a] [a] := ⟨by simp, fun x hx => by rw [List.mem_singleton.mp hx]; exact h, fun _ h => h, fun x hx hn => absurd hx hn⟩
theorem nodup_len {l m : List α} (nd : l.Nodup) (h : ∀ a ∈ l, a ∈ m) : l.length ≤ m.length := by
  induction l generalizing m with
  | nil => exact Nat.zero_le _
  | cons a l ih =>
    rw [List.nodup_cons] at nd
    have ha := h a List.mem_cons_self
    have := ih nd.2 (m := m.erase a) fun b hb => (List.mem_erase_of_ne (fun e => nd.1 (by rw [← e]; exact hb))).mpr (h b (List.mem_cons_of_mem _ hb))
    rw [List.length_erase_of_mem ha] at this
    have := List.length_pos_of_mem ha
    rw [List.length_cons]
    omega
theorem Mt.len {P : α → Prop} {N : α → List α} {met wait U : List α} (h : Mt P N met wait) (hU : ∀ a, P a → a ∈ U) : met.length ≤ U.length := nodup_len h.nd fun a ha => hU a (h.pr a ha)
theorem Mt.pop {P : α → Prop} {N : α → List α} {met w : List α} {here : α} (h : Mt P N met (w ++ [here])) (hN : ∀ a b, P a → b ∈ N a → P b) {U : List α} (hU : ∀ a, P a → a ∈ U) :
    Mt P N ((N here).foldl psh (met, w)).1 ((N here).foldl psh (met, w)).2 ∧ (∀ a ∈ met, a ∈ ((N here).foldl psh (met, w)).1) ∧
    (U.length - ((N here).foldl psh (met, w)).1.length) + ((N here).foldl psh (met, w)).2.length < (U.length - met.length) + (w ++ [here]).length := by
  have hh : here ∈ met := h.wm here (by simp)
  have e0 : Ex P met w [] (met, w) := ⟨h.nd, h.pr, fun _ h => h, fun _ h => h, fun a ha => h.wm a (List.mem_append_left _ ha), fun a ha => .inl ha, rfl, fun _ h => by cases h⟩
  have e := e0.fold (N here) [] (met, w) fun b hb => hN here b (h.pr here hh) hb
  rw [List.nil_append] at e
  generalize (N here).foldl psh (met, w) = st at e
  have l1 : st.1.length ≤ U.length := nodup_len e.nd fun a ha => hU a (e.pr a ha)
  have l0 : met.length ≤ st.1.length := nodup_len h.nd e.m0
  refine ⟨⟨e.nd, e.pr, e.wm, fun a ha hw b hb => ?_⟩, e.m0, ?_⟩
  · rcases e.new a ha with z | z
    · by_cases q : a = here
      · subst q
        exact e.done b hb
      · exact e.m0 _ (h.cl a z (fun y => by
          rcases List.mem_append.mp y with y | y
          · exact hw (e.w0 a y)
          · exact q (by simpa using y)) b hb)
    · exact absurd z hw
  · have := e.cnt
    rw [List.length_append, List.length_singleton]
    omega
theorem psh_filter (p : α → Bool) (l : List α) (st : List α × List α) : l.foldl (fun st b => if p b = true ∧ b ∉ st.1 then (st.1 ++ [b], st.2 ++ [b]) else st) st = (l.filter p).foldl psh st := by
  rw [List.foldl_filter]
  congr 1
  funext st b
  unfold psh
  by_cases h1 : p b = true <;> by_cases h2 : b ∈ st.1 <;> simp [h1, h2]
theorem sForI_psh {β : Type} {fi : AI} {t : Tg} {b : AS} {gd : Gd} {ls : Ls} {hp hp1 : Hd} (items : List β) (φ : β → D) (nx : β → α) (p : α → Bool) (Rel : List α × List α → Ls → Hd → Prop) (ei : fi ls hp = some (items.map φ, gd, hp1)) (hg : ∀ s ls hp, Rel s ls hp → gdOk gd hp = true) (st0 : List α × List α) (h0 : Rel st0 ls hp1)
    (hs : ∀ x ∈ items, ∀ st ls hp, Rel st ls hp → (∀ a ∈ st0.1, a ∈ st.1) → st.1.length ≤ st0.1.length + items.length → st.2.length ≤ st0.2.length + items.length → ∃ ls1 ls2 hp2, t.asg (φ x) ls = some ls1 ∧ (b ls1 hp = some (.nx, ls2, hp2) ∨ b ls1 hp = some (.ct, ls2, hp2)) ∧
      Rel (if p (nx x) = true ∧ nx x ∉ st.1 then (st.1 ++ [nx x], st.2 ++ [nx x]) else st) ls2 hp2) :
    ∃ ls' hp', sForI fi t b ls hp = some (.nx, ls', hp') ∧ Rel (((items.map nx).filter p).foldl psh st0) ls' hp' := by
  let f := fun (st : List α × List α) (x : β) => if p (nx x) = true ∧ nx x ∉ st.1 then (st.1 ++ [nx x], st.2 ++ [nx x]) else st
  obtain ⟨ls', hp', e, h, _⟩ := sForI_pre (t := t) (b := b) φ (fun d ls hp => Rel (d.foldl f st0) ls hp ∧ (∀ a ∈ st0.1, a ∈ (d.foldl f st0).1) ∧ (d.foldl f st0).1.length ≤ st0.1.length + d.length ∧ (d.foldl f st0).2.length ≤ st0.2.length + d.length) ei (fun d ls hp h => hg _ _ _ h.1) ⟨h0, fun _ h => h, Nat.le_add_right _ _, Nat.le_add_right _ _⟩ fun d x r ls hp ed ⟨h1, h2, h3, h4⟩ => by
    have hl : d.length + 1 ≤ items.length := by rw [ed, List.length_append, List.length_cons]; omega
    obtain ⟨ls1, ls2, hp2, a, b, c⟩ := hs x (by rw [ed]; simp) _ ls hp h1 h2 (by omega) (by omega)
    refine ⟨ls1, ls2, hp2, a, b, ?_⟩
    rw [List.foldl_append, List.foldl_cons, List.foldl_nil, List.length_append, List.length_singleton]
    generalize d.foldl f st0 = st at *
    refine ⟨c, ?_⟩
    show (∀ a ∈ st0.1, a ∈ (if p (nx x) = true ∧ nx x ∉ st.1 then (st.1 ++ [nx x], st.2 ++ [nx x]) else st).1) ∧ (if p (nx x) = true ∧ nx x ∉ st.1 then (st.1 ++ [nx x], st.2 ++ [nx x]) else st).1.length ≤ _ ∧ (if p (nx x) = true ∧ nx x ∉ st.1 then (st.1 ++ [nx x], st.2 ++ [nx x]) else st).2.length ≤ _
    split
    · refine ⟨fun a ha => List.mem_append_left _ (h2 a ha), ?_, ?_⟩ <;> simp only [List.length_append, List.length_singleton] <;> omega
    · exact ⟨h2, by omega, by omega⟩
  refine ⟨ls', hp', e, ?_⟩
  have : items.foldl f st0 = ((items.map nx).filter p).foldl psh st0 := by
    rw [← psh_filter, List.foldl_map]
  rw [← this]
  exact h
theorem sForI_psi {β : Type} {fi : AI} {t : Tg} {b : AS} {gd : Gd} {ls : Ls} {hp hp1 : Hd} (items : List β) (φ : β → D) (nx : β → α) (p : β → Bool) (Rel : List α × List α → Ls → Hd → Prop) (ei : fi ls hp = some (items.map φ, gd, hp1)) (hg : ∀ s ls hp, Rel s ls hp → gdOk gd hp = true) (st0 : List α × List α) (h0 : Rel st0 ls hp1)
    (hs : ∀ x ∈ items, ∀ st ls hp, Rel st ls hp → (∀ a ∈ st0.1, a ∈ st.1) → st.1.length ≤ st0.1.length + items.length → st.2.length ≤ st0.2.length + items.length → ∃ ls1 ls2 hp2, t.asg (φ x) ls = some ls1 ∧ (b ls1 hp = some (.nx, ls2, hp2) ∨ b ls1 hp = some (.ct, ls2, hp2)) ∧
      Rel (if p x = true ∧ nx x ∉ st.1 then (st.1 ++ [nx x], st.2 ++ [nx x]) else st) ls2 hp2) :
    ∃ ls' hp', sForI fi t b ls hp = some (.nx, ls', hp') ∧ Rel (((items.filter p).map nx).foldl psh st0) ls' hp' := by
  let f := fun (st : List α × List α) (x : β) => if p x = true ∧ nx x ∉ st.1 then (st.1 ++ [nx x], st.2 ++ [nx x]) else st
  obtain ⟨ls', hp', e, h, _⟩ := sForI_pre (t := t) (b := b) φ (fun d ls hp => Rel (d.foldl f st0) ls hp ∧ (∀ a ∈ st0.1, a ∈ (d.foldl f st0).1) ∧ (d.foldl f st0).1.length ≤ st0.1.length + d.length ∧ (d.foldl f st0).2.length ≤ st0.2.length + d.length) ei (fun d ls hp h => hg _ _ _ h.1) ⟨h0, fun _ h => h, Nat.le_add_right _ _, Nat.le_add_right _ _⟩ fun d x r ls hp ed ⟨h1, h2, h3, h4⟩ => by
    have hl : d.length + 1 ≤ items.length := by rw [ed, List.length_append, List.length_cons]; omega
    obtain ⟨ls1, ls2, hp2, a, b, c⟩ := hs x (by rw [ed]; simp) _ ls hp h1 h2 (by omega) (by omega)
    refine ⟨ls1, ls2, hp2, a, b, ?_⟩
    rw [List.foldl_append, List.foldl_cons, List.foldl_nil, List.length_append, List.length_singleton]
    generalize d.foldl f st0 = st at *
    refine ⟨c, ?_⟩
    show (∀ a ∈ st0.1, a ∈ (if p x = true ∧ nx x ∉ st.1 then (st.1 ++ [nx x], st.2 ++ [nx x]) else st).1) ∧ (if p x = true ∧ nx x ∉ st.1 then (st.1 ++ [nx x], st.2 ++ [nx x]) else st).1.length ≤ _ ∧ (if p x = true ∧ nx x ∉ st.1 then (st.1 ++ [nx x], st.2 ++ [nx x]) else st).2.length ≤ _
    split
    · refine ⟨fun a ha => List.mem_append_left _ (h2 a ha), ?_, ?_⟩ <;> simp only [List.length_append, List.length_singleton] <;> omega
    · exact ⟨h2, by omega, by omega⟩
  refine ⟨ls', hp', e, ?_⟩
  have : items.foldl f st0 = ((items.filter p).map nx).foldl psh st0 := by
    rw [List.foldl_map, List.foldl_filter]
    congr 1
    funext st x
    show (if p x = true ∧ nx x ∉ st.1 then _ else _) = if p x = true then psh st (nx x) else st
    unfold psh
    by_cases h1 : p x = true <;> by_cases h2 : nx x ∈ st.1 <;> simp [h1, h2]
  rw [← this]
  exact h
theorem search_while {P : α → Prop} {N : α → List α} (U : List α) (hU : ∀ a, P a → a ∈ U) (hN : ∀ a b, P a → b ∈ N a → P b) {c : AT} {b : AS} (Rel : List α → List α → Ls → Hd → Prop)
    (hc0 : ∀ met ls hp, Rel met [] ls hp → c ls hp = some (false, hp)) (hc1 : ∀ met w here ls hp, Rel met (w ++ [here]) ls hp → c ls hp = some (true, hp))
    (hb : ∀ met w here ls hp, Rel met (w ++ [here]) ls hp → here ∈ met → P here → met.length ≤ U.length → w.length ≤ U.length → (∀ a ∈ met, P a) → ∃ ls2 hp2, b ls hp = some (.nx, ls2, hp2) ∧ Rel ((N here).foldl psh (met, w)).1 ((N here).foldl psh (met, w)).2 ls2 hp2)
    (n : Nat) (a : α) (ha : P a) (ls : Ls) (hp : Hd) (h0 : Rel [a] [a] ls hp) (hn : U.length + 1 < n) : ∃ met ls' hp', sWhile c b n ls hp = some (.nx, ls', hp') ∧ Rel met [] ls' hp' ∧ Mt P N met [] ∧ a ∈ met := by
  have loop := sWhile_rel (S := List α × List α) (c := c) (b := b) (fun st ls hp => Rel st.1 st.2 ls hp ∧ Mt P N st.1 st.2 ∧ a ∈ st.1 ∧ (U.length - st.1.length) + st.2.length ≤ U.length + 1) (fun st => st.2 = []) (fun st => (U.length - st.1.length) + st.2.length) (by
    rintro ⟨met, wait⟩ ls hp ⟨hr, hm, h0, hw⟩
    have hml := hm.len hU
    rcases List.eq_nil_or_concat wait with rfl | ⟨w, here, rfl⟩
    · exact .inl ⟨hc0 met ls hp hr, rfl⟩
    · rw [List.concat_eq_append] at *
      have hh : here ∈ met := hm.wm here (by simp)
      dsimp only at hw hr hm hml
      rw [List.length_append, List.length_singleton] at hw
      obtain ⟨p1, p2, p3⟩ := hm.pop hN hU
      obtain ⟨ls2, hp2, e, hr2⟩ := hb met w here ls hp hr hh (hm.pr here hh) hml (by omega) hm.pr
      refine .inr ⟨hc1 met w here ls hp hr, ((N here).foldl psh (met, w)), ls2, hp2, .inl e, ⟨hr2, p1, p2 a h0, ?_⟩, p3⟩
      rw [List.length_append, List.length_singleton] at p3
      omega) n ([a], [a]) ls hp (by simp only [List.length_singleton]; omega) ⟨h0, Mt.begin _ _ a ha, by simp, by simp only [List.length_singleton]; omega⟩
  obtain ⟨⟨met, wait⟩, ls', hp', e, ⟨hr, hm, h0, _⟩, hd⟩ := loop
  dsimp only at hd hr hm h0
  subst hd
  exact ⟨met, ls', hp', e, hr, hm, h0⟩
theorem search_from {P : α → Prop} {N : α → List α} (hN : ∀ a b, P a → b ∈ N a → P b) (cap : Nat) (hcap : ∀ a, (N a).length ≤ 6) {c : AT} {b : AS} (Rel : List α → List α → Ls → Hd → Prop) (L : Nat)
    (hc0 : ∀ met wait ls hp, Rel met wait ls hp → (wait = [] ∨ cap < met.length) → c ls hp = some (false, hp)) (hc1 : ∀ met w here ls hp, Rel met (w ++ [here]) ls hp → met.length ≤ cap → c ls hp = some (true, hp))
    (hb : ∀ met w here ls hp, Rel met (w ++ [here]) ls hp → here ∈ met → P here → met.length ≤ cap → w.length ≤ L → (∀ a ∈ met, P a) → ∃ ls2 hp2, b ls hp = some (.nx, ls2, hp2) ∧ Rel ((N here).foldl psh (met, w)).1 ((N here).foldl psh (met, w)).2 ls2 hp2)
    (n : Nat) (met0 wait0 : List α) (hm : Mt P N met0 wait0) (hL : (cap + 6 - met0.length) + wait0.length ≤ L) (hn : L < n) (ls : Ls) (hp : Hd) (h0 : Rel met0 wait0 ls hp) :
    ∃ met wait ls' hp', sWhile c b n ls hp = some (.nx, ls', hp') ∧ Rel met wait ls' hp' ∧ Mt P N met wait ∧ (wait = [] ∨ cap < met.length) ∧ (∀ a ∈ met0, a ∈ met) := by
  have loop := sWhile_rel (S := List α × List α) (c := c) (b := b) (fun st ls hp => Rel st.1 st.2 ls hp ∧ Mt P N st.1 st.2 ∧ (∀ a ∈ met0, a ∈ st.1) ∧ (cap + 6 - st.1.length) + st.2.length ≤ L) (fun st => st.2 = [] ∨ cap < st.1.length) (fun st => (cap + 6 - st.1.length) + st.2.length) (by
    rintro ⟨met, wait⟩ ls hp ⟨hr, hm, h0, hw⟩
    rcases List.eq_nil_or_concat wait with rfl | ⟨w, here, rfl⟩
    · exact .inl ⟨hc0 met _ ls hp hr (.inl rfl), .inl rfl⟩
    · rw [List.concat_eq_append] at *
      by_cases hl : met.length ≤ cap
      · have hh : here ∈ met := hm.wm here (by simp)
        dsimp only at hw hr hm
        rw [List.length_append, List.length_singleton] at hw
        have e0 : Ex P met w [] (met, w) := ⟨hm.nd, hm.pr, fun _ h => h, fun _ h => h, fun a ha => hm.wm a (List.mem_append_left _ ha), fun a ha => .inl ha, rfl, fun _ h => by cases h⟩
        have e := e0.fold (N here) [] (met, w) fun b hb => hN here b (hm.pr here hh) hb
        rw [List.nil_append] at e
        obtain ⟨ls2, hp2, eb, hr2⟩ := hb met w here ls hp hr hh (hm.pr here hh) hl (by omega) hm.pr
        have hlen : ∀ (l : List α) (st : List α × List α), (l.foldl psh st).1.length ≤ st.1.length + l.length := by
          intro l
          induction l with
          | nil => intro st; exact Nat.le_refl _
          | cons x xs ih =>
            intro st
            have h1 := ih (psh st x)
            have h2 : (psh st x).1.length ≤ st.1.length + 1 := by
              unfold psh
              split
              · omega
              · rw [List.length_append]; exact Nat.le_refl _
            rw [List.foldl_cons, List.length_cons]
            omega
        have hl2 := hlen (N here) (met, w)
        have hc := hcap here
        dsimp only at hl2
        generalize (N here).foldl psh (met, w) = st at e hr2 hl2
        have hcnt := e.cnt
        have l0 : met.length ≤ st.1.length := nodup_len hm.nd e.m0
        have hm2 : Mt P N st.1 st.2 := ⟨e.nd, e.pr, e.wm, fun a ha hw b hb => by
          rcases e.new a ha with z | z
          · by_cases q : a = here
            · subst q
              exact e.done b hb
            · exact e.m0 _ (hm.cl a z (fun y => by
                rcases List.mem_append.mp y with y | y
                · exact hw (e.w0 a y)
                · exact q (by simpa using y)) b hb)
          · exact absurd z hw⟩
        refine .inr ⟨hc1 met w here ls hp hr hl, st, ls2, hp2, .inl eb, ⟨hr2, hm2, fun a ha => e.m0 a (h0 a ha), by omega⟩, ?_⟩
        dsimp only
        rw [List.length_append, List.length_singleton]
        omega
      · exact .inl ⟨hc0 met _ ls hp hr (.inr (by omega)), .inr (by dsimp only; omega)⟩) n (met0, wait0) ls hp (by dsimp only; omega) ⟨h0, hm, fun _ h => h, hL⟩
  obtain ⟨⟨met, wait⟩, ls', hp', e, ⟨hr, hm, h0, _⟩, hd⟩ := loop
  exact ⟨met, wait, ls', hp', e, hr, hm, hd, h0⟩
inductive Rch (N : α → List α) (a : α) : α → Prop where
  | refl : Rch N a a
  | step {b c : α} : Rch N a b → c ∈ N b → Rch N a c
theorem Rch.closed {N : α → List α} {a : α} {met : List α} (ha : a ∈ met) (cl : ∀ x ∈ met, ∀ b ∈ N x, b ∈ met) : ∀ {b}, Rch N a b → b ∈ met := by
  intro b h
  induction h with
  | refl => exact ha
  | step _ hc ih => exact cl _ ih _ hc
theorem Rch.trans {N : α → List α} {a b c : α} (h1 : Rch N a b) (h2 : Rch N b c) : Rch N a c := by
  induction h2 with
  | refl => exact h1
  | step _ hc ih => exact ih.step hc
theorem Rch.symm {N : α → List α} (hs : ∀ a b, b ∈ N a → a ∈ N b) {a b : α} (h : Rch N a b) : Rch N b a := by
  induction h with
  | refl => exact .refl
  | step _ hc ih => exact Rch.trans (.step .refl (hs _ _ hc)) ih
end

def Gd' (g : List Int → D) (cs : List (List Int)) : List (D × D) := cs.map fun c => (T c, g c)
theorem look_Gd (g : List Int → D) : ∀ (cs : List (List Int)) (a : List Int), look (Gd' g cs) (T a) = if a ∈ cs then some (g a) else none
  | [], a => rfl
  | c :: cs, a => by
    show look ((T c, g c) :: Gd' g cs) (T a) = _
    rw [look, look_Gd g cs a]
    by_cases h : c = a
    · subst h
      rw [if_pos (same_T.mpr rfl), if_pos List.mem_cons_self]
    · rw [if_neg (fun z => h (same_T.mp z))]
      by_cases h2 : a ∈ cs
      · rw [if_pos h2, if_pos (List.mem_cons_of_mem _ h2)]
      · rw [if_neg h2, if_neg (fun z => by
          rcases List.mem_cons.mp z with z | z
          · exact h z.symm
          · exact h2 z)]
theorem dKind_Gd (g : List Int → D) (cs : List (List Int)) (a : List Int) : dKind (Gd' g cs) (T a) = true := by
  show ((toKeys (a.map D.int)).isSome && _) = true
  rw [toKeys_ints]
  cases cs <;> rfl
theorem putD_Gd (g : List Int → D) : ∀ (cs : List (List Int)) (a : List Int), putD (Gd' g cs) (T a) (g a) = Gd' g (addC cs a)
  | [], a => rfl
  | c :: cs, a => by
    show putD ((T c, g c) :: Gd' g cs) (T a) (g a) = _
    rw [putD]
    by_cases h : c = a
    · rw [if_pos (same_T.mpr h)]
      subst h
      unfold addC
      rw [if_pos List.mem_cons_self]
      rfl
    · rw [if_neg (fun z => h (same_T.mp z)), putD_Gd g cs a]
      unfold addC
      by_cases h2 : a ∈ cs
      · rw [if_pos h2, if_pos (List.mem_cons_of_mem _ h2)]
        rfl
      · rw [if_neg h2, if_neg (fun z => by
          rcases List.mem_cons.mp z with z | z
          · exact h z.symm
          · exact h2 z)]
        rfl
theorem inB_Gd {hp : Hd} {n : Nat} {a : List Int} {g : List Int → D} {cs : List (List Int)} (h : hp[n]? = some (.dic (Gd' g cs))) : inB (T a) (.ref n) hp = some (decide (a ∈ cs)) := by
  show (match hp[n]? with
      | some (.lst ys) => inL hp (T a) ys
      | some o => match dicOf o with
        | some kvs => if dKind kvs (T a) = true then some (look kvs (T a)).isSome else none
        | none => none
      | none => none) = _
  rw [h]
  show (if dKind (Gd' g cs) (T a) = true then some (look (Gd' g cs) (T a)).isSome else none) = _
  rw [if_pos (dKind_Gd g cs a), look_Gd]
  by_cases h2 : a ∈ cs
  · rw [if_pos h2, decide_eq_true h2]
    rfl
  · rw [if_neg h2, decide_eq_false h2]
    rfl
theorem gIn_Gd {hp : Hd} {n : Nat} {a : List Int} {g : List Int → D} {cs : List (List Int)} (h : hp[n]? = some (.dic (Gd' g cs))) : gIn (T a) (.ref n) hp = some (.bl (decide (a ∈ cs)), hp) := by
  unfold gIn
  rw [inB_Gd h]
theorem gNotIn_Gd {hp : Hd} {n : Nat} {a : List Int} {g : List Int → D} {cs : List (List Int)} (h : hp[n]? = some (.dic (Gd' g cs))) : gNotIn (T a) (.ref n) hp = some (.bl (!decide (a ∈ cs)), hp) := by
  unfold gNotIn
  rw [inB_Gd h]
theorem gIx_Gd {hp : Hd} {n : Nat} {a : List Int} {g : List Int → D} {cs : List (List Int)} (h : hp[n]? = some (.dic (Gd' g cs))) (ha : a ∈ cs) : gIx (.ref n) (T a) hp = some (g a, hp) := by
  unfold gIx
  dsimp only
  rw [h]
  show (if dKind (Gd' g cs) (T a) = true then (match look (Gd' g cs) (T a) with
    | some d => some (d, hp)
    | none => none) else none) = _
  rw [if_pos (dKind_Gd g cs a), look_Gd, if_pos ha]
theorem gSet_Gd {hp : Hd} {n : Nat} {a : List Int} {g : List Int → D} {cs : List (List Int)} (h : hp[n]? = some (.dic (Gd' g cs))) (hn : a ∉ cs) (hl : cs.length < sizeLine) : gSet (.ref n) (T a) (g a) hp = some (hp.set n (.dic (Gd' g (cs ++ [a])))) := by
  unfold gSet
  dsimp only
  rw [h]
  dsimp only
  have hz : (Gd' g cs).length < sizeLine := by
    unfold Gd'
    rw [List.length_map]
    exact hl
  rw [dKind_Gd, decide_eq_true hz, Bool.and_self, if_pos rfl, putD_Gd]
  unfold addC
  rw [if_neg hn]
theorem gLen_Gd {hp : Hd} {n : Nat} {g : List Int → D} {cs : List (List Int)} (h : hp[n]? = some (.dic (Gd' g cs))) : gLen [.ref n] hp = some (.int cs.length, hp) := by
  show (match hp[n]? with
    | some (.lst ds) => some (D.int ds.length, hp)
    | some (.dic ds) => some (D.int ds.length, hp)
    | _ => none) = _
  rw [h]
  show some (D.int ((Gd' g cs).length : Nat), hp) = _
  unfold Gd'
  rw [List.length_map]
theorem Cd_Gd (cs : List (List Int)) : Cd cs = Gd' (fun _ => .bl true) cs := rfl
theorem EqE.gEqL_nil {α : Type} {n : Nat} {e : α → D} (E : EqE n e) (hn : n ≤ 15) {hp : Hd} {k : Nat} {xs : List α} (h : hp[k]? = some (.lst (xs.map e))) (neg : Bool) : gEqL neg (.ref k) [] hp = some (.bl (if neg then !xs.isEmpty else xs.isEmpty), hp) := by
  have f : pyF hp 16 (.ref k) = some (.list (xs.map E.py)) := by
    rw [pyF_ref (n := 15) h]
    have := E.mapO_e (hp := hp) (m := 15 - n) xs
    rw [show 15 - n + n = 15 by omega] at this
    rw [this]
    rfl
  have s1 : ∀ xs : List α, SeqAt.shaped (.list (xs.map E.py)) = true := by
    intro xs
    unfold SeqAt.shaped
    have := E.depAll xs
    rw [PyData.canLay0, E.canAll, Bool.true_and, decide_eq_true_eq, PyData.depth]
    omega
  unfold gEqL
  rw [f]
  show (if (SeqAt.shaped (.list (xs.map E.py)) && SeqAt.shaped (.list [])) = true then _ else none) = _
  rw [s1, show SeqAt.shaped (.list []) = true from s1 []]
  have e2 : PyData.eqv (.list (xs.map E.py)) (.list []) = xs.isEmpty := by
    rw [PyData.eqv]
    cases xs <;> simp [PyData.eqvAll]
  rw [e2]
  rfl
theorem head_ok (lo hi : Nat) (hlo : lo ≤ 63) (hhi : hi ≤ 63) {ls : Ls} {ns : List Int} (h0 : ls[0]? = some (some (.scr ns))) (hp : Hd) :
    ∃ N : Nat, N ≤ 63 ∧ mR1 (mCons (mAs (mCons (mC (.int (lo : Nat))) (mCons (mAs (mCons (mC (.int (hi : Nat))) (mCons (mAs (mCons (mVar 0) mNil) gLen) mNil)) gMin2) mNil)) gMax2) mNil) ls hp = some ((List.range N).map fun i => D.int (i : Nat), [], hp) := by
  let j : Int := if (if (ns.length : Int) < (hi : Nat) then (ns.length : Int) else (hi : Nat)) > (lo : Nat) then (if (ns.length : Int) < (hi : Nat) then (ns.length : Int) else (hi : Nat)) else (lo : Nat)
  have hj : 0 ≤ j ∧ j ≤ 63 := by
    simp only [j]
    split <;> split <;> omega
  refine ⟨j.toNat, by omega, ?_⟩
  rw [mR1_of (j := j) ?_ (by omega)]
  simp only [mCons_s, mAs_s, mC_s, mVar_s, h0, mNil_s, gLen, gMin2, gMax2]
  rfl
def ddp (cs : List (List Int)) : List (List Int) := cs.foldl addC []
theorem addC_mem {cs : List (List Int)} {a b : List Int} : b ∈ addC cs a ↔ b ∈ cs ∨ b = a := by
  unfold addC
  split
  · rename_i h
    exact ⟨fun z => .inl z, fun z => z.elim id fun e => by rw [e]; exact h⟩
  · rw [List.mem_append, List.mem_singleton]
theorem foldl_addC_mem {b : List Int} : ∀ (cs acc : List (List Int)), b ∈ cs.foldl addC acc ↔ b ∈ acc ∨ b ∈ cs
  | [], acc => by simp
  | c :: cs, acc => by
    rw [List.foldl_cons, foldl_addC_mem cs, addC_mem, List.mem_cons]
    exact ⟨fun h => by rcases h with (h | h) | h <;> simp [h], fun h => by rcases h with h | h | h <;> simp [h]⟩
theorem ddp_mem {b : List Int} {cs : List (List Int)} : b ∈ ddp cs ↔ b ∈ cs := by
  unfold ddp
  rw [foldl_addC_mem]
  simp
theorem addC_nodup {cs : List (List Int)} {a : List Int} (h : cs.Nodup) : (addC cs a).Nodup := by
  unfold addC
  split
  · exact h
  · rename_i hn
    exact List.nodup_append.mpr ⟨h, by simp, fun x hx y hy e => hn (by rw [← List.mem_singleton.mp hy, ← e]; exact hx)⟩
theorem foldl_addC_nodup : ∀ (cs acc : List (List Int)), acc.Nodup → (cs.foldl addC acc).Nodup
  | [], acc, h => h
  | c :: cs, acc, h => foldl_addC_nodup cs _ (addC_nodup h)
theorem ddp_nodup (cs : List (List Int)) : (ddp cs).Nodup := foldl_addC_nodup cs [] List.nodup_nil
theorem foldl_addC_len : ∀ (cs acc : List (List Int)), (cs.foldl addC acc).length ≤ acc.length + cs.length
  | [], acc => Nat.le_refl _
  | c :: cs, acc => by
    have h1 := foldl_addC_len cs (addC acc c)
    have h2 : (addC acc c).length ≤ acc.length + 1 := by
      unfold addC
      split
      · omega
      · rw [List.length_append]; exact Nat.le_refl _
    rw [List.foldl_cons, List.length_cons]
    omega
theorem ddp_len (cs : List (List Int)) : (ddp cs).length ≤ cs.length := by
  have := foldl_addC_len cs []
  simpa [ddp] using this
theorem foldl_addC_of_nodup : ∀ (cs acc : List (List Int)), cs.Nodup → (∀ c ∈ cs, c ∉ acc) → cs.foldl addC acc = acc ++ cs
  | [], acc, _, _ => by simp
  | c :: cs, acc, nd, h => by
    rw [List.nodup_cons] at nd
    rw [List.foldl_cons, show addC acc c = acc ++ [c] by unfold addC; rw [if_neg (h c List.mem_cons_self)], foldl_addC_of_nodup cs _ nd.2, List.append_assoc]
    · rfl
    · intro x hx z
      rcases List.mem_append.mp z with z | z
      · exact h x (List.mem_cons_of_mem _ hx) z
      · rw [List.mem_singleton.mp z] at hx
        exact nd.1 hx
theorem ddp_self {cs : List (List Int)} (nd : cs.Nodup) : ddp cs = cs := by
  unfold ddp
  rw [foldl_addC_of_nodup cs [] nd (fun _ _ h => by cases h), List.nil_append]
theorem putAll_ddp : ∀ (cs acc : List (List Int)), putAll (Cd acc) (Cd cs) = Cd (cs.foldl addC acc)
  | [], acc => rfl
  | c :: cs, acc => by
    show putAll (putD (Cd acc) (T c) (.bl true)) (Cd cs) = _
    rw [putD_Cd, putAll_ddp cs]
    rfl
theorem gDictL_ddp {hp : Hd} (cs : List (List Int)) : gDictL (cs.map fun c => D.tup [T c, .bl true]) hp = some (.ref hp.length, hp ++ [.dic (Cd (ddp cs))]) := by
  unfold gDictL
  rw [prs_Cd]
  dsimp only
  have hk : ((Cd cs).all fun p => tupKey p.1) = true := by
    unfold Cd
    rw [List.all_map, List.all_eq_true]
    intro c _
    show (toKeys (c.map D.int)).isSome = true
    rw [toKeys_ints]
    rfl
  rw [hk, Bool.or_true, if_pos rfl]
  show some (D.ref hp.length, hp ++ [O.dic (putAll (Cd []) (Cd cs))]) = _
  rw [putAll_ddp]
  rfl
end Ve
namespace Ve
open PySem PySem.Spec L2
def BG : List (List (List Int)) := [[[0, 0, 0]], [[0, 0, 0], [0, 1, 0], [0, 2, 0], [1, 0, 0], [1, 2, 0], [2, 0, 0], [2, 1, 0], [2, 2, 0]],
  [[0, 0, 0], [0, 0, 1], [0, 0, 2], [0, 1, 0], [0, 1, 1], [0, 1, 2], [0, 2, 0], [0, 2, 1], [0, 2, 2], [1, 0, 0], [1, 0, 1], [1, 0, 2], [1, 1, 0], [1, 1, 2], [1, 2, 0], [1, 2, 1], [1, 2, 2], [2, 0, 0], [2, 0, 1], [2, 0, 2], [2, 1, 0], [2, 1, 1], [2, 1, 2], [2, 2, 0], [2, 2, 1], [2, 2, 2]],
  [[0, 0, 1], [0, 1, 0], [0, 1, 1], [0, 1, 2], [0, 2, 1], [1, 0, 0], [1, 0, 1], [1, 0, 2], [1, 1, 0], [1, 1, 2], [1, 2, 0], [1, 2, 1], [1, 2, 2], [2, 0, 1], [2, 1, 0], [2, 1, 1], [2, 1, 2], [2, 2, 1]]]
theorem nrO_Ts (bs : List (List Int)) : nrO (.lst (bs.map T)) = true := nrs_T bs
def nb (c : List Int) (d : Int) : List Int := match c with
  | [x, y, z] => if d = 0 then [x + 1, y, z] else if d = 1 then [x + -1, y, z] else if d = 2 then [x, y + 1, z] else if d = 3 then [x, y + -1, z] else if d = 4 then [x, y, z + 1] else [x, y, z + -1]
  | _ => c
def opp (d : Int) : Int := if d = 0 then 1 else if d = 1 then 0 else if d = 2 then 3 else if d = 3 then 2 else if d = 4 then 5 else 4
theorem six {d : Int} (h : 0 ≤ d ∧ d < 6) : d = 0 ∨ d = 1 ∨ d = 2 ∨ d = 3 ∨ d = 4 ∨ d = 5 := by omega
theorem opp_in {d : Int} (h : 0 ≤ d ∧ d < 6) : 0 ≤ opp d ∧ opp d < 6 := by
  rcases six h with rfl | rfl | rfl | rfl | rfl | rfl <;> decide
theorem nb_opp {x y z d : Int} (h : 0 ≤ d ∧ d < 6) : nb (nb [x, y, z] d) (opp d) = [x, y, z] := by
  rcases six h with rfl | rfl | rfl | rfl | rfl | rfl <;> simp [nb, opp] <;> omega
theorem nrs_Ti (c : List Int) (d : Int) : nrs [T c, .int d] = true := nrs_cons (nr_T c) rfl
def Cb (B : Int) (c : List Int) : Prop := ∃ x y z : Int, c = [x, y, z] ∧ (-B ≤ x ∧ x ≤ B) ∧ (-B ≤ y ∧ y ≤ B) ∧ (-B ≤ z ∧ z ≤ B)
theorem Cb.mono {B B' : Int} {c : List Int} (h : Cb B c) (hb : B ≤ B') : Cb B' c := by
  obtain ⟨x, y, z, e, h1, h2, h3⟩ := h
  exact ⟨x, y, z, e, by omega, by omega, by omega⟩
theorem Cb.nb {B : Int} {c : List Int} {d : Int} (h : Cb B c) (hd : 0 ≤ d ∧ d < 6) : Cb (B + 1) (nb c d) := by
  obtain ⟨x, y, z, rfl, h1, h2, h3⟩ := h
  rcases six hd with rfl | rfl | rfl | rfl | rfl | rfl
  · exact ⟨x + 1, y, z, rfl, by omega, by omega, by omega⟩
  · exact ⟨x + -1, y, z, rfl, by omega, by omega, by omega⟩
  · exact ⟨x, y + 1, z, rfl, by omega, by omega, by omega⟩
  · exact ⟨x, y + -1, z, rfl, by omega, by omega, by omega⟩
  · exact ⟨x, y, z + 1, rfl, by omega, by omega, by omega⟩
  · exact ⟨x, y, z + -1, rfl, by omega, by omega, by omega⟩
theorem Cb.ne {B : Int} {c : List Int} (h : Cb B c) : c ≠ [] := by
  obtain ⟨x, y, z, rfl, _⟩ := h
  exact fun z => by cases z
def Conn (cs : List (List Int)) : Prop := ∀ S : List Int → Prop, (∃ c ∈ cs, S c) → (∀ a ∈ cs, ∀ d, (0 ≤ d ∧ d < 6) → S a → nb a d ∈ cs → S (nb a d)) → ∀ c ∈ cs, S c
theorem conn_one (c : List Int) : Conn [c] := fun S ⟨a, ha, sa⟩ _ b hb => by
  have e1 : a = c := by simpa using ha
  have e2 : b = c := by simpa using hb
  rw [e2, ← e1]
  exact sa
theorem conn_add {cs : List (List Int)} {B : Int} (h : Conn cs) {a : List Int} (ha : a ∈ cs) (hB : Cb B a) {d : Int} (hd : 0 ≤ d ∧ d < 6) : Conn (cs ++ [nb a d]) := by
  intro S hs cl
  have cl' : ∀ a ∈ cs, ∀ d, (0 ≤ d ∧ d < 6) → S a → nb a d ∈ cs → S (nb a d) := fun a ha d hd sa hn => cl a (List.mem_append_left _ ha) d hd sa (List.mem_append_left _ hn)
  have all : ∃ c ∈ cs, S c := by
    obtain ⟨c, hc, sc⟩ := hs
    rcases List.mem_append.mp hc with hc | hc
    · exact ⟨c, hc, sc⟩
    · have e : c = nb a d := by simpa using hc
      subst e
      obtain ⟨x, y, z, rfl, _⟩ := hB
      have q := nb_opp (x := x) (y := y) (z := z) hd
      have := cl _ (List.mem_append_right _ hc) (opp d) (opp_in hd) sc (by rw [q]; exact List.mem_append_left _ ha)
      rw [q] at this
      exact ⟨_, ha, this⟩
  have all2 := h S all cl'
  intro c hc
  rcases List.mem_append.mp hc with hc | hc
  · exact all2 c hc
  · have e : c = nb a d := by simpa using hc
    subst e
    exact cl a (List.mem_append_left _ ha) d hd (all2 a ha) (List.mem_append_right _ hc)
theorem conn_congr {cs ds : List (List Int)} (h : Conn cs) (e : ∀ c, c ∈ cs ↔ c ∈ ds) : Conn ds := fun S ⟨a, ha, sa⟩ cl c hc =>
  h S ⟨a, (e a).mpr ha, sa⟩ (fun a ha d hd sa hn => cl a ((e a).mp ha) d hd sa ((e _).mp hn)) c ((e c).mpr hc)
def grB : List (List Int) → List (List Int) → Bool
  | _, [] => true
  | acc, c :: r => (acc.any fun a => [0, 1, 2, 3, 4, 5].any fun d => nb a d == c) && grB (acc ++ [c]) r
theorem conn_grB {B : Int} : ∀ (r acc : List (List Int)), Conn acc → (∀ c ∈ acc, Cb B c) → (∀ c ∈ r, Cb B c) → grB acc r = true → Conn (acc ++ r)
  | [], acc, h, _, _, _ => by rw [List.append_nil]; exact h
  | c :: r, acc, h, ha, hr, g => by
    unfold grB at g
    rw [Bool.and_eq_true, List.any_eq_true] at g
    obtain ⟨⟨a, ha2, g1⟩, g2⟩ := g
    rw [List.any_eq_true] at g1
    obtain ⟨d, hd, g1⟩ := g1
    have e := eq_of_beq g1
    have hd6 : 0 ≤ d ∧ d < 6 := by
      simp at hd
      omega
    subst e
    have := conn_grB r (acc ++ [nb a d]) (conn_add h ha2 (ha a ha2) hd6) (fun c hc => by
      rcases List.mem_append.mp hc with hc | hc
      · exact ha c hc
      · have e : c = nb a d := by simpa using hc
        rw [e]
        exact hr _ List.mem_cons_self) (fun c hc => hr c (List.mem_cons_of_mem _ hc)) g2
    rw [List.append_assoc] at this
    exact this
def cbB (B : Int) (c : List Int) : Bool := match c with
  | [x, y, z] => decide ((-B ≤ x ∧ x ≤ B) ∧ (-B ≤ y ∧ y ≤ B) ∧ (-B ≤ z ∧ z ≤ B))
  | _ => false
theorem cb_of {B : Int} {c : List Int} (h : cbB B c = true) : Cb B c := by
  unfold cbB at h
  split at h
  · exact ⟨_, _, _, rfl, of_decide_eq_true h⟩
  · cases h
structure BodyS (B : Int) (cs : List (List Int)) : Prop where
  nd : cs.Nodup
  cb : ∀ c ∈ cs, Cb B c
  conn : Conn cs
  ne : cs ≠ []
  few : cs.length ≤ 30
def P18 : List (List Int) := [[0, 0, 1], [0, 1, 1], [0, 1, 0], [0, 1, 2], [0, 2, 1], [1, 0, 1], [1, 0, 0], [1, 0, 2], [1, 1, 0], [1, 1, 2], [1, 2, 0], [1, 2, 1], [1, 2, 2], [2, 0, 1], [2, 1, 0], [2, 1, 1], [2, 1, 2], [2, 2, 1]]
theorem bgs_cb : (BG.all fun bs => bs.all (cbB 2) && decide (bs.length ≤ 30) && decide bs.Nodup && decide (bs ≠ [])) = true := by decide +kernel
theorem bgs_conn : ((BG.take 3).all fun bs => grB (bs.take 1) (bs.drop 1)) = true := by decide +kernel
theorem p18 : (grB (P18.take 1) (P18.drop 1) && P18.all (fun c => (BG.getD 3 []).contains c) && (BG.getD 3 []).all (fun c => P18.contains c) && P18.all (cbB 2)) = true := by decide +kernel
theorem begun_bodyS {bs : List (List Int)} (h : bs ∈ BG) : BodyS 2 bs := by
  have h1 := List.all_eq_true.mp bgs_cb bs h
  rw [Bool.and_eq_true, Bool.and_eq_true, Bool.and_eq_true] at h1
  obtain ⟨⟨⟨h1, h2⟩, h3⟩, h4⟩ := h1
  have cb : ∀ c ∈ bs, Cb 2 c := fun c hc => cb_of (List.all_eq_true.mp h1 c hc)
  refine ⟨of_decide_eq_true h3, cb, ?_, of_decide_eq_true h4, of_decide_eq_true h2⟩
  have first : ∀ {cs : List (List Int)}, cs ≠ [] → (∀ c ∈ cs, Cb 2 c) → grB (cs.take 1) (cs.drop 1) = true → Conn cs := by
    intro cs hne hc g
    cases cs with
    | nil => exact absurd rfl hne
    | cons c r => exact conn_grB r [c] (conn_one c) (fun x hx => hc x (by rw [show x = c by simpa using hx]; exact List.mem_cons_self)) (fun x hx => hc x (List.mem_cons_of_mem _ hx)) g
  have hm : bs ∈ BG.take 3 ∨ bs = BG.getD 3 [] := by
    have h : bs ∈ BG.take 3 ++ [BG.getD 3 []] := h
    rcases List.mem_append.mp h with h | h
    · exact .inl h
    · exact .inr (by simpa using h)
  rcases hm with hm | hm
  · exact first (of_decide_eq_true h4) cb (List.all_eq_true.mp bgs_conn bs hm)
  · have p := p18
    rw [Bool.and_eq_true, Bool.and_eq_true, Bool.and_eq_true] at p
    obtain ⟨⟨⟨p1, p2⟩, p3⟩, p4⟩ := p
    have c18 := first (cs := P18) (by decide) (fun c hc => cb_of (List.all_eq_true.mp p4 c hc)) p1
    subst hm
    exact conn_congr c18 fun c => ⟨fun hc => by simpa using List.all_eq_true.mp p2 c hc, fun hc => by simpa using List.all_eq_true.mp p3 c hc⟩

theorem BodyS.mono {B B' : Int} {cs : List (List Int)} (h : BodyS B cs) (hb : B ≤ B') : BodyS B' cs := ⟨h.nd, fun c hc => (h.cb c hc).mono hb, h.conn, h.ne, h.few⟩
theorem BodyS.nes {B : Int} {cs : List (List Int)} (h : BodyS B cs) : ∀ c ∈ cs, c ≠ [] := fun c hc => (h.cb c hc).ne
theorem BodyS.add {B : Int} {cs : List (List Int)} (h : BodyS B cs) {a : List Int} (ha : a ∈ cs) {d : Int} (hd : 0 ≤ d ∧ d < 6) (hl : cs.length < 30) : BodyS (B + 1) (addC cs (nb a d)) := by
  unfold addC
  split
  · exact h.mono (by omega)
  · rename_i hn
    refine ⟨List.nodup_append.mpr ⟨h.nd, by simp, fun x hx y hy => ?_⟩, fun c hc => ?_, conn_add h.conn ha (h.cb a ha) hd, by simp, by rw [List.length_append]; simp; omega⟩
    · have : y = nb a d := by simpa using hy
      subst this
      intro e
      subst e
      exact hn hx
    · rcases List.mem_append.mp hc with hc | hc
      · exact (h.cb c hc).mono (by omega)
      · have : c = nb a d := by simpa using hc
        subst this
        exact (h.cb a ha).nb hd
theorem mem_addC {cs : List (List Int)} {a : List Int} : a ∈ addC cs a := by
  unfold addC
  split
  · assumption
  · simp
theorem mVar_of {ls : Ls} {hp : Hd} {i : Nat} {d : D} (h : ls[i]? = some (some d)) : mVar i ls hp = some (d, hp) := by
  rw [mVar_s, h]
theorem mSorted_dic {fa : AE} {ls : Ls} {hp hp1 : Hd} {n : Nat} {cs : List (List Int)} (e : fa ls hp = some (.ref n, hp1)) (h : hp1[n]? = some (.dic (Cd cs))) (hn : ∀ c ∈ cs, c ≠ []) : mSorted fa ls hp = some ((sortC cs).map T, hp1) := by
  unfold mSorted
  rw [e]
  exact gSrtO_dic h hn
theorem atI_at {α : Type} {xs : List α} {j : Nat} (h : j < xs.length) : atI xs (j : Nat) = some xs[j] := atI_nat (List.getElem?_eq_getElem h)
theorem gIx_lst0 {hp : Hd} {n : Nat} {xs : List D} {x : D} (h : hp[n]? = some (.lst xs)) (e : xs[0]? = some x) : gIx (.ref n) (.int 0) hp = some (x, hp) := by
  have : atI xs ((0 : Nat) : Int) = some x := atI_nat e
  show (match hp[n]? with
    | some (.lst ds) => match atI ds 0 with
      | some d => some (d, hp)
      | none => none
    | some o => match dicOf o with
      | some kvs => if dKind kvs (.int 0) = true then match look kvs (.int 0) with
        | some d => some (d, hp)
        | none => none else none
      | none => none
    | none => none) = _
  rw [h]
  dsimp only
  rw [show atI xs 0 = some x from this]
def mv (a b c : Int) (l : List Int) : List Int := match l with
  | [x, y, z] => [x + a, y + b, z + c]
  | l => l
theorem mv_nb (a b c x y z d : Int) : nb (mv a b c [x, y, z]) d = mv a b c (nb [x, y, z] d) := by
  unfold nb
  by_cases h0 : d = 0
  · simp [h0, mv]; omega
  · by_cases h1 : d = 1
    · simp [h1, mv]; omega
    · by_cases h2 : d = 2
      · simp [h2, mv]; omega
      · by_cases h3 : d = 3
        · simp [h3, mv]; omega
        · by_cases h4 : d = 4
          · simp [h4, mv]; omega
          · simp [h0, h1, h2, h3, h4, mv]; omega
theorem mv_inj {a b c B : Int} {l m : List Int} (hl : Cb B l) (hm : Cb B m) (h : mv a b c l = mv a b c m) : l = m := by
  obtain ⟨x, y, z, rfl, _⟩ := hl
  obtain ⟨x', y', z', rfl, _⟩ := hm
  simp [mv] at h
  simp
  omega
theorem conn_map {cs : List (List Int)} {a b c B : Int} (h : Conn cs) (hb : ∀ l ∈ cs, Cb B l) : Conn (cs.map (mv a b c)) := by
  intro S ⟨l, hl, sl⟩ cl m hm
  obtain ⟨l0, hl0, rfl⟩ := List.mem_map.mp hl
  obtain ⟨m0, hm0, rfl⟩ := List.mem_map.mp hm
  refine h (fun l => S (mv a b c l)) ⟨l0, hl0, sl⟩ (fun l hl d hd sl hn => ?_) m0 hm0
  obtain ⟨x, y, z, rfl, _⟩ := hb l hl
  have := cl (mv a b c [x, y, z]) (List.mem_map.mpr ⟨_, hl, rfl⟩) d hd sl (by rw [mv_nb]; exact List.mem_map.mpr ⟨_, hn, rfl⟩)
  rw [mv_nb] at this
  exact this
structure Bod (B : Int) (bs : List (List Int)) : Prop where
  srt : bs.Pairwise (· < ·)
  cb : ∀ c ∈ bs, Cb B c
  conn : Conn bs
  ne : bs ≠ []
  few : bs.length ≤ 30
theorem lt_of {a b : List Int} (h : a ≤ b) (hne : a ≠ b) : a < b := by
  rcases Decidable.em (a < b) with h2 | h2
  · exact h2
  · exact absurd (List.le_antisymm h (List.not_lt.mp h2)) hne
theorem nodup_of_lt {bs : List (List Int)} (h : bs.Pairwise (· < ·)) : bs.Nodup := h.imp fun {a b} h e => by
  subst e
  exact List.lt_irrefl a h
theorem BodyS.told {B : Int} {cs : List (List Int)} (h : BodyS B cs) {a b c M : Int} (ha : -M ≤ a ∧ a ≤ M) (hb : -M ≤ b ∧ b ≤ M) (hc : -M ≤ c ∧ c ≤ M) : Bod (B + M) (sortC (cs.map (mv a b c))) := by
  have pm := sortC_perm (cs.map (mv a b c))
  have nd : (cs.map (mv a b c)).Nodup := by
    refine List.pairwise_map.mpr (List.Pairwise.imp_of_mem (fun {x y} hx hy hne e => hne (mv_inj (h.cb x hx) (h.cb y hy) e)) h.nd)
  refine ⟨?_, fun l hl => ?_, conn_congr (conn_map h.conn h.cb) fun l => pm.mem_iff.symm, fun e => ?_, by rw [pm.length_eq, List.length_map]; exact h.few⟩
  · have nd2 : (sortC (cs.map (mv a b c))).Nodup := pm.nodup_iff.mpr nd
    exact (List.Pairwise.and (sortC_sorted _) nd2).imp fun ⟨h1, h2⟩ => lt_of h1 h2
  · obtain ⟨m, hm, rfl⟩ := List.mem_map.mp (pm.mem_iff.mp hl)
    obtain ⟨x, y, z, rfl, h1, h2, h3⟩ := h.cb m hm
    exact ⟨x + a, y + b, z + c, rfl, by omega, by omega, by omega⟩
  · have := pm.length_eq
    rw [e, List.length_map] at this
    exact h.ne (List.eq_nil_of_length_eq_zero this.symm)
def D4 : List Int := [0, 3, -7, 60]
theorem d4_in {v : Int} (h : v ∈ D4) : -60 ≤ v ∧ v ≤ 60 := by
  simp [D4] at h
  omega
def Spr (W : Int) (bs : List (List Int)) : Prop := ∀ l ∈ bs, ∀ m ∈ bs, ∀ i : Nat, l.getD i 0 - m.getD i 0 ≤ W
theorem spr_told {B : Int} {cs : List (List Int)} (h : ∀ c ∈ cs, Cb B c) (hB : 0 ≤ B) (a b c : Int) : Spr (2 * B) (sortC (cs.map (mv a b c))) := fun l hl m hm i => by
  obtain ⟨l0, h1, rfl⟩ := List.mem_map.mp ((sortC_perm _).mem_iff.mp hl)
  obtain ⟨m0, h2, rfl⟩ := List.mem_map.mp ((sortC_perm _).mem_iff.mp hm)
  obtain ⟨x, y, z, rfl, p1, p2, p3⟩ := h l0 h1
  obtain ⟨x', y', z', rfl, q1, q2, q3⟩ := h m0 h2
  rcases i with _ | _ | _ | i <;> simp [mv] <;> omega
theorem gAll_true {hp : Hd} : ∀ (n : Nat), gAll (List.replicate n (.bl true)) hp = some (.bl true, hp) := fun n => by
  have e : ∀ n, bls? (List.replicate n (.bl true)) = some (List.replicate n true) := by
    intro n
    induction n with
    | zero => rfl
    | succ n ih => rw [List.replicate_succ, bls?, ih]; rfl
  unfold gAll
  rw [e]
  dsimp only
  congr 3
  rw [List.all_eq_true]
  intro x hx
  exact (List.mem_replicate.mp hx).2

theorem nodup_le : ∀ (l m : List (List Int)), l.Nodup → (∀ a ∈ l, a ∈ m) → l.length ≤ m.length
  | [], m, _, _ => Nat.zero_le _
  | a :: l, m, nd, h => by
    rw [List.nodup_cons] at nd
    have ha := h a List.mem_cons_self
    have ih := nodup_le l (m.erase a) nd.2 fun b hb => (List.mem_erase_of_ne (fun e => nd.1 (by rw [← e]; exact hb))).mpr (h b (List.mem_cons_of_mem _ hb))
    rw [List.length_erase_of_mem ha] at ih
    have := List.length_pos_of_mem ha
    rw [List.length_cons]
    omega
theorem gIx_tup {hp : Hd} {ds : List D} {d : D} {j : Nat} (e : ds[j]? = some d) : gIx (.tup ds) (.int (j : Nat)) hp = some (d, hp) := by
  have : atI ds (j : Int) = some d := atI_nat e
  show (match atI ds (j : Int) with
    | some d => some (d, hp)
    | none => none) = _
  rw [this]
theorem zip_lt : ∀ {l : List (List Int)}, l.Pairwise (· < ·) → ∀ p ∈ l.zip (l.drop 1), p.1 < p.2
  | [], _, p, h => by simp at h
  | [a], _, p, h => by simp at h
  | a :: b :: r, hp, p, h => by
    rw [List.pairwise_cons] at hp
    have h : p ∈ (a, b) :: (b :: r).zip r := h
    rcases List.mem_cons.mp h with z | z
    · rw [z]
      exact hp.1 b List.mem_cons_self
    · exact zip_lt hp.2 p z
theorem zipD_T : ∀ as bs : List (List Int), zipD (as.map T) (bs.map T) = (as.zip bs).map fun p => D.tup [T p.1, T p.2]
  | [], _ => by simp [zipD]
  | _ :: _, [] => by simp [zipD]
  | a :: as, b :: bs => by
    rw [List.map_cons, List.map_cons, zipD, zipD_T as bs, List.zip_cons_cons, List.map_cons]
theorem cutD_one {l : List (List Int)} (h : l ≠ []) : cutD (l.map T) (some 1) none = (l.drop 1).map T := by
  unfold cutD
  have hp : 0 < l.length := List.length_pos_iff.mpr h
  have e : HT.sIx (l.map T).length 0 (some 1) = 1 := by
    have := HT.sIx_nat (l.map T).length 0 1
    rw [List.length_map] at this ⊢
    rw [show ((1 : Nat) : Int) = 1 from rfl] at this
    rw [this]
    omega
  rw [e, HT.sIx_none, ← List.map_drop, List.take_of_length_le (by rw [List.length_map, List.length_drop, List.length_map]; omega)]
theorem sDrop_of {fa : AE} {ls : Ls} {hp hp1 : Hd} {d : D} (e : fa ls hp = some (d, hp1)) : sDrop fa ls hp = some (.nx, ls, hp1) := by
  rw [sDrop_s, e]
def Three (bs : List (List Int)) : Prop := ∀ c ∈ bs, ∃ x y z, c = [x, y, z]
theorem three_of {B : Int} {bs : List (List Int)} (h : ∀ c ∈ bs, Cb B c) : Three bs := fun c hc => by
  obtain ⟨x, y, z, e, _⟩ := h c hc
  exact ⟨x, y, z, e⟩
theorem nrs_tTs (bs : List (List Int)) : nrs [.tup (bs.map T)] = true := nrs_cons (nr_tTs bs) rfl
def fF (bs : List (List Int)) (c : List Int) : List (List Int) := ((List.range 6).filter fun d : Nat => !decide (nb c (d : Int) ∈ bs)).map fun d : Nat => c ++ [(d : Int)]
def FC (bs cs : List (List Int)) : List (List Int) := cs.flatMap (fF bs)
theorem FC_take {bs cs : List (List Int)} {i : Nat} (h : i < cs.length) : FC bs (cs.take (i + 1)) = FC bs (cs.take i) ++ fF bs cs[i] := by
  unfold FC
  rw [List.take_add_one, List.getElem?_eq_getElem h, List.flatMap_append]
  simp
theorem fF_len (bs : List (List Int)) (c : List Int) : (fF bs c).length ≤ 6 := by
  unfold fF
  rw [List.length_map]
  exact Nat.le_trans (List.length_filter_le _ _) (by simp)
theorem FC_len (bs : List (List Int)) : ∀ cs : List (List Int), (FC bs cs).length ≤ 6 * cs.length
  | [] => by simp [FC]
  | c :: cs => by
    have h1 := FC_len bs cs
    have h2 := fF_len bs c
    unfold FC at h1 ⊢
    rw [List.flatMap_cons, List.length_append, List.length_cons]
    omega
theorem mR1_six {fr : AA} {ls : Ls} {hp : Hd} (e : fr ls hp = some ([.int 6], hp)) : mR1 fr ls hp = some ((List.range 6).map fun i => D.int (i : Nat), [], hp) := by
  unfold mR1
  rw [e]
  rfl
def mnC (bs : List (List Int)) (i : Nat) : Int := match bs.map fun l => l.getD i 0 with
  | a :: r => minI a r
  | [] => 0
theorem mnC_is {bs : List (List Int)} (h : bs ≠ []) (i : Nat) : (∃ l ∈ bs, l.getD i 0 = mnC bs i) ∧ ∀ l ∈ bs, mnC bs i ≤ l.getD i 0 := by
  have key : mnC bs i ∈ bs.map (fun l => l.getD i 0) ∧ ∀ v ∈ bs.map (fun l => l.getD i 0), mnC bs i ≤ v := by
    unfold mnC
    cases e : bs.map fun l => l.getD i 0 with
    | nil => exact absurd (List.map_eq_nil_iff.mp e) h
    | cons a r =>
      obtain ⟨h1, h2, h3⟩ := minI_is r a
      refine ⟨?_, fun v hv => ?_⟩
      · rcases h1 with z | z
        · show minI a r ∈ a :: r
          rw [z]; exact List.mem_cons_self
        · exact List.mem_cons_of_mem _ z
      · rcases List.mem_cons.mp hv with z | z
        · rw [z]; exact h2
        · exact h3 v z
  obtain ⟨h1, h2⟩ := key
  obtain ⟨l, hl, e⟩ := List.mem_map.mp h1
  exact ⟨⟨l, hl, e⟩, fun l hl => h2 _ (List.mem_map.mpr ⟨l, hl, rfl⟩)⟩
theorem mnC_eq {bs : List (List Int)} {i : Nat} {m : Int} (h1 : ∃ l ∈ bs, l.getD i 0 = m) (h2 : ∀ l ∈ bs, m ≤ l.getD i 0) : mnC bs i = m := by
  obtain ⟨l, hl, e⟩ := h1
  obtain ⟨⟨l', hl', e'⟩, h4⟩ := mnC_is (List.ne_nil_of_mem hl) i
  have := h4 l hl
  have := h2 l' hl'
  omega
def HM (bs : List (List Int)) : List (List Int) := bs.map (mv (-(mnC bs 0)) (-(mnC bs 1)) (-(mnC bs 2)))
theorem mnC_mv {a b c : Int} {bs : List (List Int)} (h3 : Three bs) (hne : bs ≠ []) : mnC (bs.map (mv a b c)) 0 = mnC bs 0 + a ∧ mnC (bs.map (mv a b c)) 1 = mnC bs 1 + b ∧ mnC (bs.map (mv a b c)) 2 = mnC bs 2 + c := by
  have key : ∀ (i : Nat) (s : Int), (∀ x y z : Int, (mv a b c [x, y, z]).getD i 0 = ([x, y, z] : List Int).getD i 0 + s) → mnC (bs.map (mv a b c)) i = mnC bs i + s := fun i s hs => by
    obtain ⟨⟨l, hl, e⟩, h2⟩ := mnC_is hne i
    refine mnC_eq ⟨_, List.mem_map.mpr ⟨l, hl, rfl⟩, ?_⟩ fun m hm => ?_
    · obtain ⟨x, y, z, rfl⟩ := h3 l hl
      rw [hs, e]
    · obtain ⟨m0, hm0, rfl⟩ := List.mem_map.mp hm
      have := h2 m0 hm0
      obtain ⟨x, y, z, rfl⟩ := h3 m0 hm0
      rw [hs]
      omega
  exact ⟨key 0 a fun x y z => rfl, key 1 b fun x y z => rfl, key 2 c fun x y z => rfl⟩
theorem HM_mv {a b c : Int} {bs : List (List Int)} (h3 : Three bs) (hne : bs ≠ []) : HM (bs.map (mv a b c)) = HM bs := by
  obtain ⟨e0, e1, e2⟩ := mnC_mv (a := a) (b := b) (c := c) h3 hne
  unfold HM
  rw [e0, e1, e2, List.map_map]
  refine List.map_congr_left fun l hl => ?_
  obtain ⟨x, y, z, rfl⟩ := h3 l hl
  simp [mv]
  omega
theorem three_map {a b c : Int} {bs : List (List Int)} (h : Three bs) : Three (bs.map (mv a b c)) := fun l hl => by
  obtain ⟨m, hm, rfl⟩ := List.mem_map.mp hl
  obtain ⟨x, y, z, rfl⟩ := h m hm
  exact ⟨_, _, _, rfl⟩
theorem three_HM {bs : List (List Int)} (h : Three bs) : Three (HM bs) := three_map h
theorem three_ne {bs : List (List Int)} (h : Three bs) : ∀ c ∈ bs, c ≠ [] := fun c hc => by
  obtain ⟨x, y, z, rfl⟩ := h c hc
  exact fun z => by cases z
theorem HM_HM {bs : List (List Int)} (h3 : Three bs) (hne : bs ≠ []) : HM (HM bs) = HM bs := HM_mv h3 hne
theorem HM_bod {B W : Int} {bs : List (List Int)} (hb : Bod B bs) (hs : Spr W bs) (hW : W ≤ 100) : Bod 100 (HM bs) := by
  have h3 := three_of hb.cb
  refine ⟨?_, fun l hl => ?_, conn_map hb.conn hb.cb, by unfold HM; simpa using hb.ne, by unfold HM; rw [List.length_map]; exact hb.few⟩
  · refine List.pairwise_map.mpr (List.Pairwise.imp_of_mem (fun {l m} hl hm hlt => ?_) hb.srt)
    obtain ⟨x, y, z, rfl⟩ := h3 l hl
    obtain ⟨x', y', z', rfl⟩ := h3 m hm
    simp [mv, List.cons_lt_cons_iff] at hlt ⊢
    omega
  · obtain ⟨l0, hl0, rfl⟩ := List.mem_map.mp hl
    obtain ⟨⟨p, hp, ep⟩, g0⟩ := mnC_is hb.ne 0
    obtain ⟨⟨q, hq, eq⟩, g1⟩ := mnC_is hb.ne 1
    obtain ⟨⟨r, hr, er⟩, g2⟩ := mnC_is hb.ne 2
    have k0 := hs l0 hl0 p hp 0
    have k1 := hs l0 hl0 q hq 1
    have k2 := hs l0 hl0 r hr 2
    have j0 := g0 l0 hl0
    have j1 := g1 l0 hl0
    have j2 := g2 l0 hl0
    obtain ⟨x, y, z, rfl⟩ := h3 l0 hl0
    simp at k0 k1 k2 j0 j1 j2 ep eq er
    exact ⟨x + -(mnC bs 0), y + -(mnC bs 1), z + -(mnC bs 2), rfl, by omega, by omega, by omega⟩
theorem gIx_T {hp : Hd} {l : List Int} {i : Nat} (h : ∃ x y z, l = [x, y, z]) (hi : i < 3) : gIx (T l) (.int (i : Nat)) hp = some (.int (l.getD i 0), hp) := by
  obtain ⟨x, y, z, rfl⟩ := h
  rcases i with _ | _ | _ | i
  · exact gIx_tup (j := 0) rfl
  · exact gIx_tup (j := 1) rfl
  · exact gIx_tup (j := 2) rfl
  · omega
theorem gMinL_mn {hp : Hd} {bs : List (List Int)} (hne : bs ≠ []) (i : Nat) : gMinL (bs.map fun l => D.int (l.getD i 0)) hp = some (.int (mnC bs i), hp) := by
  unfold gMinL minD mnC
  have e : (bs.map fun l => D.int (l.getD i 0)) = (bs.map fun l => l.getD i 0).map D.int := by rw [List.map_map]; rfl
  rw [e, ints?_map]
  cases e2 : bs.map fun l => l.getD i 0 with
  | nil => exact absurd (List.map_eq_nil_iff.mp e2) hne
  | cons a r => rfl
theorem mR1_three {fr : AA} {ls : Ls} {hp : Hd} (e : fr ls hp = some ([.int 3], hp)) : mR1 fr ls hp = some ((List.range 3).map fun i => D.int (i : Nat), [], hp) := by
  unfold mR1
  rw [e]
  rfl
def SP : List (List Int) := [[0, 2, 4], [0, 3, 5], [0, 4, 3], [0, 5, 2], [1, 2, 5], [1, 3, 4], [1, 4, 2], [1, 5, 3], [2, 0, 5], [2, 1, 4], [2, 4, 0], [2, 5, 1], [3, 0, 4], [3, 1, 5], [3, 4, 1], [3, 5, 0], [4, 0, 2], [4, 1, 3], [4, 2, 1], [4, 3, 0], [5, 0, 3], [5, 1, 2], [5, 2, 0], [5, 3, 1]]
def gz (x : List Int) (d : Int) : Int := if d % 2 = 0 then x.getD (d / 2).toNat 0 else x.getD (d / 2).toNat 0 + 1 - 2 * (x.getD (d / 2).toNat 0 % 2)
theorem spIn : (SP.all fun x => x.all fun d => [0, 1, 2, 3, 4, 5].contains d) = true := by decide +kernel
theorem spMem {x : List Int} (hx : x ∈ SP) {d : Int} (hd : d ∈ x) : d ∈ [0, 1, 2, 3, 4, 5] := by
  have h := spIn
  rw [List.all_eq_true] at h
  have h2 := h x hx
  rw [List.all_eq_true] at h2
  have h3 := h2 d hd
  simpa using h3

def bth (y x : List Int) : List Int := x.map (gz y)
def spC (s c : List Int) : List Int := (c.zip s).foldl (fun m p => m.set (p.2 / 2).toNat (p.1 * (1 - 2 * (p.2 % 2)))) [0, 0, 0]
theorem sp_cases {P : List Int → Prop} (h : ∀ s ∈ SP, P s) : ∀ s ∈ SP, P s := h
theorem sp_form {s : List Int} (hs : s ∈ SP) (x y z : Int) : ∃ a b c, spC s [x, y, z] = [a, b, c] := by
  simp only [SP, List.mem_cons, List.not_mem_nil, or_false] at hs
  rcases hs with rfl | rfl | rfl | rfl | rfl | rfl | rfl | rfl | rfl | rfl | rfl | rfl | rfl | rfl | rfl | rfl | rfl | rfl | rfl | rfl | rfl | rfl | rfl | rfl <;> exact ⟨_, _, _, rfl⟩
theorem sp_nb {s : List Int} (hs : s ∈ SP) (x y z : Int) {d : Int} (hd : 0 ≤ d ∧ d < 6) : spC s (nb [x, y, z] d) = nb (spC s [x, y, z]) (gz s d) := by
  simp only [SP, List.mem_cons, List.not_mem_nil, or_false] at hs
  rcases six hd with rfl | rfl | rfl | rfl | rfl | rfl <;>
  rcases hs with rfl | rfl | rfl | rfl | rfl | rfl | rfl | rfl | rfl | rfl | rfl | rfl | rfl | rfl | rfl | rfl | rfl | rfl | rfl | rfl | rfl | rfl | rfl | rfl <;>
  simp [spC, nb, gz] <;> omega
theorem gz_in {s : List Int} (hs : s ∈ SP) {d : Int} (hd : 0 ≤ d ∧ d < 6) : 0 ≤ gz s d ∧ gz s d < 6 := by
  have h : (SP.all fun s => [0, 1, 2, 3, 4, 5].all fun d => decide (0 ≤ gz s d ∧ gz s d < 6)) = true := by decide +kernel
  rw [List.all_eq_true] at h
  have h2 := h s hs
  rw [List.all_eq_true] at h2
  exact of_decide_eq_true (h2 d (by simp; omega))
def UND : List (List Int × List Int) := SP.map fun s => (s, (SP.filter fun t => bth t s == [0, 2, 4]).getD 0 [])
theorem sp_und {s t : List Int} (hs : s ∈ SP) (ht : t ∈ SP) (h : bth t s = [0, 2, 4]) (x y z : Int) : spC t (spC s [x, y, z]) = [x, y, z] := by
  have hm : (SP.all fun s => SP.all fun t => !(bth t s == [0, 2, 4]) || UND.contains (s, t)) = true := by decide +kernel
  rw [List.all_eq_true] at hm
  have h2 := hm s hs
  rw [List.all_eq_true] at h2
  have h3 := h2 t ht
  rw [h] at h3
  simp only [beq_self_eq_true, Bool.not_true, Bool.false_or] at h3
  have h4 : (s, t) ∈ UND := by simpa using h3
  have e : UND = [([0, 2, 4], [0, 2, 4]), ([0, 3, 5], [0, 3, 5]), ([0, 4, 3], [0, 5, 2]), ([0, 5, 2], [0, 4, 3]), ([1, 2, 5], [1, 2, 5]), ([1, 3, 4], [1, 3, 4]), ([1, 4, 2], [1, 4, 2]), ([1, 5, 3], [1, 5, 3]), ([2, 0, 5], [2, 0, 5]), ([2, 1, 4], [3, 0, 4]), ([2, 4, 0], [4, 0, 2]), ([2, 5, 1], [5, 0, 3]), ([3, 0, 4], [2, 1, 4]), ([3, 1, 5], [3, 1, 5]), ([3, 4, 1], [5, 1, 2]), ([3, 5, 0], [4, 1, 3]), ([4, 0, 2], [2, 4, 0]), ([4, 1, 3], [3, 5, 0]), ([4, 2, 1], [5, 2, 0]), ([4, 3, 0], [4, 3, 0]), ([5, 0, 3], [2, 5, 1]), ([5, 1, 2], [3, 4, 1]), ([5, 2, 0], [4, 2, 1]), ([5, 3, 1], [5, 3, 1])] := by decide +kernel
  rw [e] at h4
  simp only [List.mem_cons, List.not_mem_nil, or_false, Prod.mk.injEq] at h4
  rcases h4 with ⟨rfl, rfl⟩ | ⟨rfl, rfl⟩ | ⟨rfl, rfl⟩ | ⟨rfl, rfl⟩ | ⟨rfl, rfl⟩ | ⟨rfl, rfl⟩ | ⟨rfl, rfl⟩ | ⟨rfl, rfl⟩ | ⟨rfl, rfl⟩ | ⟨rfl, rfl⟩ | ⟨rfl, rfl⟩ | ⟨rfl, rfl⟩ | ⟨rfl, rfl⟩ | ⟨rfl, rfl⟩ | ⟨rfl, rfl⟩ | ⟨rfl, rfl⟩ | ⟨rfl, rfl⟩ | ⟨rfl, rfl⟩ | ⟨rfl, rfl⟩ | ⟨rfl, rfl⟩ | ⟨rfl, rfl⟩ | ⟨rfl, rfl⟩ | ⟨rfl, rfl⟩ | ⟨rfl, rfl⟩ <;> simp [spC]
theorem sp_id (x y z : Int) : spC [0, 2, 4] [x, y, z] = [x, y, z] := by simp [spC]
theorem sp_mv {s : List Int} (hs : s ∈ SP) (a b c x y z : Int) : spC s (mv a b c [x, y, z]) = mv ((spC s [a, b, c]).getD 0 0) ((spC s [a, b, c]).getD 1 0) ((spC s [a, b, c]).getD 2 0) (spC s [x, y, z]) := by
  simp only [SP, List.mem_cons, List.not_mem_nil, or_false] at hs
  rcases hs with rfl | rfl | rfl | rfl | rfl | rfl | rfl | rfl | rfl | rfl | rfl | rfl | rfl | rfl | rfl | rfl | rfl | rfl | rfl | rfl | rfl | rfl | rfl | rfl <;> simp [spC, mv] <;> omega
theorem sp_cb {s : List Int} (hs : s ∈ SP) {B : Int} {c : List Int} (h : Cb B c) : Cb B (spC s c) := by
  obtain ⟨x, y, z, rfl, h1, h2, h3⟩ := h
  simp only [SP, List.mem_cons, List.not_mem_nil, or_false] at hs
  rcases hs with rfl | rfl | rfl | rfl | rfl | rfl | rfl | rfl | rfl | rfl | rfl | rfl | rfl | rfl | rfl | rfl | rfl | rfl | rfl | rfl | rfl | rfl | rfl | rfl <;>
  exact ⟨_, _, _, rfl, by dsimp only; omega, by dsimp only; omega, by dsimp only; omega⟩
theorem sp_inj {s : List Int} (hs : s ∈ SP) {B : Int} {l m : List Int} (hl : Cb B l) (hm : Cb B m) (h : spC s l = spC s m) : l = m := by
  obtain ⟨x, y, z, rfl, _⟩ := hl
  obtain ⟨x', y', z', rfl, _⟩ := hm
  simp only [SP, List.mem_cons, List.not_mem_nil, or_false] at hs
  rcases hs with rfl | rfl | rfl | rfl | rfl | rfl | rfl | rfl | rfl | rfl | rfl | rfl | rfl | rfl | rfl | rfl | rfl | rfl | rfl | rfl | rfl | rfl | rfl | rfl <;> simp [spC] at h <;> simp <;> omega
theorem conn_sp {s : List Int} (hs : s ∈ SP) {cs : List (List Int)} {B : Int} (h : Conn cs) (hb : ∀ l ∈ cs, Cb B l) : Conn (cs.map (spC s)) := by
  intro S ⟨l, hl, sl⟩ cl m hm
  obtain ⟨l0, hl0, rfl⟩ := List.mem_map.mp hl
  obtain ⟨m0, hm0, rfl⟩ := List.mem_map.mp hm
  refine h (fun l => S (spC s l)) ⟨l0, hl0, sl⟩ (fun l hl d hd sl hn => ?_) m0 hm0
  obtain ⟨x, y, z, rfl, _⟩ := hb l hl
  have := cl (spC s [x, y, z]) (List.mem_map.mpr ⟨_, hl, rfl⟩) (gz s d) (gz_in hs hd) sl (by rw [← sp_nb hs x y z hd]; exact List.mem_map.mpr ⟨_, hn, rfl⟩)
  rw [← sp_nb hs x y z hd] at this
  exact this
theorem sortC_eq_of_perm {xs ys : List (List Int)} (h : xs.Perm ys) : sortC xs = sortC ys :=
  ((sortC_perm xs).trans (h.trans (sortC_perm ys).symm)).eq_of_pairwise (fun a b _ _ h1 h2 => List.le_antisymm h1 h2) (sortC_sorted xs) (sortC_sorted ys)
theorem mv_le (a b c : Int) (x y z x' y' z' : Int) (h : ([x, y, z] : List Int) ≤ [x', y', z']) : mv a b c [x, y, z] ≤ mv a b c [x', y', z'] := by
  simp [mv, List.cons_le_cons_iff] at h ⊢
  omega
theorem sortC_mv {a b c : Int} {ys : List (List Int)} (h : Three ys) : sortC (ys.map (mv a b c)) = (sortC ys).map (mv a b c) := by
  refine ((sortC_perm _).trans ((sortC_perm ys).symm.map _)).eq_of_pairwise (fun a b _ _ h1 h2 => List.le_antisymm h1 h2) (sortC_sorted _) ?_
  refine List.pairwise_map.mpr ((sortC_sorted ys).imp_of_mem fun {l m} hl hm hle => ?_)
  obtain ⟨x, y, z, rfl⟩ := h l ((sortC_perm ys).mem_iff.mp hl)
  obtain ⟨x', y', z', rfl⟩ := h m ((sortC_perm ys).mem_iff.mp hm)
  exact mv_le a b c x y z x' y' z' hle
theorem mnC_perm {xs ys : List (List Int)} (h : xs.Perm ys) (i : Nat) : mnC xs i = mnC ys i := by
  cases xs with
  | nil => rw [h.nil_eq]
  | cons a r =>
    obtain ⟨⟨l, hl, e⟩, h2⟩ := mnC_is (List.cons_ne_nil a r) i
    exact (mnC_eq ⟨l, h.mem_iff.mp hl, e⟩ fun m hm => h2 m (h.mem_iff.mpr hm)).symm
theorem three_sort {ys : List (List Int)} (h : Three ys) : Three (sortC ys) := fun c hc => h c ((sortC_perm ys).mem_iff.mp hc)
theorem HM_sort {ys : List (List Int)} (h : Three ys) : HM (sortC ys) = sortC (HM ys) := by
  unfold HM
  rw [sortC_mv h, mnC_perm (sortC_perm ys), mnC_perm (sortC_perm ys), mnC_perm (sortC_perm ys)]
def SPUN (s : List Int) (bs : List (List Int)) : List (List Int) := HM (sortC (bs.map (spC s)))
theorem three_sp {s : List Int} (hs : s ∈ SP) {bs : List (List Int)} (h : Three bs) : Three (bs.map (spC s)) := fun l hl => by
  obtain ⟨m, hm, rfl⟩ := List.mem_map.mp hl
  obtain ⟨x, y, z, rfl⟩ := h m hm
  exact sp_form hs x y z
theorem bod_sp {s : List Int} (hs : s ∈ SP) {B : Int} {bs : List (List Int)} (hb : Bod B bs) : Bod B (sortC (bs.map (spC s))) := by
  have pm := sortC_perm (bs.map (spC s))
  have nd : (bs.map (spC s)).Nodup := List.pairwise_map.mpr (List.Pairwise.imp_of_mem (fun {x y} hx hy hne e => hne (sp_inj hs (hb.cb x hx) (hb.cb y hy) e)) (nodup_of_lt hb.srt))
  refine ⟨(List.Pairwise.and (sortC_sorted _) (pm.nodup_iff.mpr nd)).imp fun ⟨h1, h2⟩ => lt_of h1 h2, fun l hl => ?_, conn_congr (conn_sp hs hb.conn hb.cb) fun l => pm.mem_iff.symm, fun e => ?_, by rw [pm.length_eq, List.length_map]; exact hb.few⟩
  · obtain ⟨m, hm, rfl⟩ := List.mem_map.mp (pm.mem_iff.mp hl)
    exact sp_cb hs (hb.cb m hm)
  · have := pm.length_eq
    rw [e, List.length_map] at this
    exact hb.ne (List.eq_nil_of_length_eq_zero this.symm)
theorem spr_sp {s : List Int} (hs : s ∈ SP) {B W : Int} {bs : List (List Int)} (hb : Bod B bs) (h : Spr W bs) (hW : 0 ≤ W) : Spr W (sortC (bs.map (spC s))) := fun l hl m hm i => by
  obtain ⟨l0, hl0, rfl⟩ := List.mem_map.mp ((sortC_perm _).mem_iff.mp hl)
  obtain ⟨m0, hm0, rfl⟩ := List.mem_map.mp ((sortC_perm _).mem_iff.mp hm)
  have k : ∀ j, l0.getD j 0 - m0.getD j 0 ≤ W ∧ m0.getD j 0 - l0.getD j 0 ≤ W := fun j => ⟨h l0 hl0 m0 hm0 j, h m0 hm0 l0 hl0 j⟩
  obtain ⟨x, y, z, rfl, _⟩ := hb.cb l0 hl0
  obtain ⟨x', y', z', rfl, _⟩ := hb.cb m0 hm0
  have k0 := k 0
  have k1 := k 1
  have k2 := k 2
  simp at k0 k1 k2
  simp only [SP, List.mem_cons, List.not_mem_nil, or_false] at hs
  match i with
  | 0 => rcases hs with rfl | rfl | rfl | rfl | rfl | rfl | rfl | rfl | rfl | rfl | rfl | rfl | rfl | rfl | rfl | rfl | rfl | rfl | rfl | rfl | rfl | rfl | rfl | rfl <;> simp [spC] <;> omega
  | 1 => rcases hs with rfl | rfl | rfl | rfl | rfl | rfl | rfl | rfl | rfl | rfl | rfl | rfl | rfl | rfl | rfl | rfl | rfl | rfl | rfl | rfl | rfl | rfl | rfl | rfl <;> simp [spC] <;> omega
  | 2 => rcases hs with rfl | rfl | rfl | rfl | rfl | rfl | rfl | rfl | rfl | rfl | rfl | rfl | rfl | rfl | rfl | rfl | rfl | rfl | rfl | rfl | rfl | rfl | rfl | rfl <;> simp [spC] <;> omega
  | n + 3 => 
    obtain ⟨a, b, c, e⟩ := sp_form (by simpa [SP] using hs) x y z
    obtain ⟨a', b', c', e'⟩ := sp_form (by simpa [SP] using hs) x' y' z'
    rw [e, e']
    simpa using hW
theorem SPUN_bod {s : List Int} (hs : s ∈ SP) {B W : Int} {bs : List (List Int)} (hb : Bod B bs) (h : Spr W bs) (hW : 0 ≤ W ∧ W ≤ 100) : Bod 100 (SPUN s bs) := HM_bod (bod_sp hs hb) (spr_sp hs hb h hW.1) hW.2
theorem SPUN_und {s t : List Int} (hs : s ∈ SP) (ht : t ∈ SP) (h : bth t s = [0, 2, 4]) {B : Int} {bs : List (List Int)} (hb : Bod B bs) : SPUN t (SPUN s bs) = HM bs := by
  have h3 := three_of hb.cb
  have h3s := three_sp hs h3
  unfold SPUN
  generalize e : sortC (bs.map (spC s)) = ys
  have hy : Three ys := by rw [← e]; exact three_sort h3s
  have pm : ys.Perm (bs.map (spC s)) := by rw [← e]; exact sortC_perm _
  have e1 : (HM ys).map (spC t) = (ys.map (spC t)).map (mv ((spC t [-(mnC ys 0), -(mnC ys 1), -(mnC ys 2)]).getD 0 0) ((spC t [-(mnC ys 0), -(mnC ys 1), -(mnC ys 2)]).getD 1 0) ((spC t [-(mnC ys 0), -(mnC ys 1), -(mnC ys 2)]).getD 2 0)) := by
    unfold HM
    rw [List.map_map, List.map_map]
    refine List.map_congr_left fun l hl => ?_
    obtain ⟨x, y, z, rfl⟩ := hy l hl
    exact sp_mv ht _ _ _ x y z
  have pm2 : (ys.map (spC t)).Perm bs := by
    have := pm.map (spC t)
    rw [List.map_map] at this
    refine this.trans ?_
    rw [show bs.map (spC t ∘ spC s) = bs from ?_]
    conv => rhs; rw [← List.map_id bs]
    refine List.map_congr_left fun l hl => ?_
    obtain ⟨x, y, z, rfl⟩ := h3 l hl
    exact sp_und hs ht h x y z
  have h3t : Three (ys.map (spC t)) := fun l hl => h3 l (pm2.mem_iff.mp hl)
  rw [e1, sortC_mv h3t, sortC_eq_of_perm pm2, sortC_self (hb.srt.imp fun h => List.le_of_lt h), HM_mv h3 hb.ne]
theorem SPUN_id {B : Int} {bs : List (List Int)} (hb : Bod B bs) : SPUN [0, 2, 4] bs = HM bs := by
  unfold SPUN
  have : bs.map (spC [0, 2, 4]) = bs := by
    conv => rhs; rw [← List.map_id bs]
    refine List.map_congr_left fun l hl => ?_
    obtain ⟨x, y, z, rfl, _⟩ := hb.cb l hl
    exact sp_id x y z
  rw [this, sortC_self (hb.srt.imp fun h => List.le_of_lt h)]

def nxB (bs : List (List Int)) (a : List Int) : List (List Int) := ((List.range 6).map fun d : Nat => nb a (d : Int)).filter fun b => decide (b ∈ bs)
theorem nxB_in {bs : List (List Int)} {a b : List Int} (h : b ∈ nxB bs a) : b ∈ bs := by
  have := (List.mem_filter.mp h).2
  simpa using this
theorem conn_rch {B : Int} {bs : List (List Int)} (hb : Bod B bs) {c0 : List Int} (h0 : c0 ∈ bs) {met : List (List Int)} (hm : c0 ∈ met) (cl : ∀ a ∈ met, ∀ b ∈ nxB bs a, b ∈ met) : ∀ c ∈ bs, c ∈ met :=
  hb.conn (fun c => c ∈ met) ⟨c0, h0, hm⟩ fun a ha d hd sa hn => cl a sa _ (List.mem_filter.mpr ⟨List.mem_map.mpr ⟨d.toNat, List.mem_range.mpr (by omega), by rw [Int.toNat_of_nonneg hd.1]⟩, by simpa using hn⟩)
theorem FC_ne {bs : List (List Int)} : ∀ {cs : List (List Int)}, ∀ f ∈ FC bs cs, f ≠ [] := fun {cs} f hf => by
  unfold FC fF at hf
  obtain ⟨c, _, h⟩ := List.mem_flatMap.mp hf
  obtain ⟨d, _, rfl⟩ := List.mem_map.mp h
  simp
def fFj (bs : List (List Int)) (c : List Int) (j : Nat) : List (List Int) := ((List.range j).filter fun d : Nat => !decide (nb c (d : Int) ∈ bs)).map fun d : Nat => c ++ [(d : Int)]
theorem fFj_succ (bs : List (List Int)) (c : List Int) (j : Nat) : fFj bs c (j + 1) = fFj bs c j ++ (if nb c (j : Int) ∈ bs then [] else [c ++ [(j : Int)]]) := by
  unfold fFj
  rw [List.range_succ, List.filter_append, List.map_append]
  by_cases h : nb c (j : Int) ∈ bs
  · simp [h]
  · simp [h]
theorem fFj_len (bs : List (List Int)) (c : List Int) (j : Nat) : (fFj bs c j).length ≤ j := by
  unfold fFj
  rw [List.length_map]
  exact Nat.le_trans (List.length_filter_le _ _) (by simp)
theorem gNe_lists {hp : Hd} {n m : Nat} {as bs : List (List Int)} (h1 : hp[n]? = some (.lst (as.map T))) (h2 : hp[m]? = some (.lst (bs.map T))) : gNe (.ref n) (.ref m) hp = some (.bl (!(as == bs)), hp) := by
  unfold gNe
  rw [eqH_lists h1 h2]
theorem filter_not {α : Type} (p : α → Bool) : ∀ l : List α, (l.filter p).length + (l.filter fun x => !p x).length = l.length
  | [] => rfl
  | x :: l => by
    have ih := filter_not p l
    rw [List.filter_cons, List.filter_cons, List.length_cons]
    cases p x <;> simp <;> omega
theorem lt_face {x y z x' y' z' d d' : Int} (h : [x, y, z] < [x', y', z']) : [x, y, z] ++ [d] < [x', y', z'] ++ [d'] := by
  simp [List.cons_lt_cons_iff] at h ⊢
  omega
theorem lt_face2 {x y z d d' : Int} (h : d < d') : [x, y, z] ++ [d] < [x, y, z] ++ [d'] := by
  simp [List.cons_lt_cons_iff]
  omega
theorem fF_sorted {bs : List (List Int)} {c : List Int} (h : ∃ x y z, c = [x, y, z]) : (fF bs c).Pairwise (· < ·) := by
  obtain ⟨x, y, z, rfl⟩ := h
  unfold fF
  refine List.pairwise_map.mpr (List.Pairwise.filter _ (List.pairwise_lt_range.imp fun {a b} h => lt_face2 ?_))
  omega
theorem FC_sorted {bs : List (List Int)} : ∀ {cs : List (List Int)}, Three cs → cs.Pairwise (· < ·) → (FC bs cs).Pairwise (· < ·)
  | [], _, _ => List.Pairwise.nil
  | c :: cs, h3, hp => by
    rw [List.pairwise_cons] at hp
    unfold FC
    rw [List.flatMap_cons]
    refine List.pairwise_append.mpr ⟨fF_sorted (h3 c List.mem_cons_self), FC_sorted (fun x hx => h3 x (List.mem_cons_of_mem _ hx)) hp.2, fun a ha b hb => ?_⟩
    unfold fF at ha
    obtain ⟨d, _, rfl⟩ := List.mem_map.mp ha
    obtain ⟨c', hc', hb'⟩ := List.mem_flatMap.mp hb
    unfold fF at hb'
    obtain ⟨d', _, rfl⟩ := List.mem_map.mp hb'
    have hlt := hp.1 c' hc'
    obtain ⟨x, y, z, rfl⟩ := h3 c List.mem_cons_self
    obtain ⟨x', y', z', rfl⟩ := h3 c' (List.mem_cons_of_mem _ hc')
    exact lt_face hlt
theorem sort_FC {bs : List (List Int)} (h3 : Three bs) (hp : bs.Pairwise (· < ·)) : sortC (FC bs bs) = FC bs bs := sortC_self ((FC_sorted h3 hp).imp fun h => List.le_of_lt h)
theorem mv_inj3 {a b c : Int} {l m : List Int} (hl : ∃ x y z, l = [x, y, z]) (hm : ∃ x y z, m = [x, y, z]) (h : mv a b c l = mv a b c m) : l = m := by
  obtain ⟨x, y, z, rfl⟩ := hl
  obtain ⟨x', y', z', rfl⟩ := hm
  simp [mv] at h
  simp
  omega
theorem nb3 (x y z d : Int) : ∃ x' y' z', nb [x, y, z] d = [x', y', z'] := by
  unfold nb
  dsimp only
  split
  · exact ⟨_, _, _, rfl⟩
  · split
    · exact ⟨_, _, _, rfl⟩
    · split
      · exact ⟨_, _, _, rfl⟩
      · split
        · exact ⟨_, _, _, rfl⟩
        · split <;> exact ⟨_, _, _, rfl⟩
theorem mem_mv {a b c : Int} {bs : List (List Int)} (h3 : Three bs) {l : List Int} (hl : ∃ x y z, l = [x, y, z]) : mv a b c l ∈ bs.map (mv a b c) ↔ l ∈ bs := by
  constructor
  · intro h
    obtain ⟨m, hm, e⟩ := List.mem_map.mp h
    rw [← mv_inj3 (h3 m hm) hl e]
    exact hm
  · exact fun h => List.mem_map.mpr ⟨l, h, rfl⟩
def mvF (a b c : Int) (f : List Int) : List Int := match f with
  | [x, y, z, d] => [x + a, y + b, z + c, d]
  | f => f
theorem FC_mv {a b c : Int} {bs : List (List Int)} (h3 : Three bs) : ∀ {cs : List (List Int)}, Three cs → FC (bs.map (mv a b c)) (cs.map (mv a b c)) = (FC bs cs).map (mvF a b c)
  | [], _ => rfl
  | l :: cs, hc => by
    have ih := FC_mv (a := a) (b := b) (c := c) h3 (cs := cs) fun x hx => hc x (List.mem_cons_of_mem _ hx)
    unfold FC at ih ⊢
    rw [List.map_cons, List.flatMap_cons, List.flatMap_cons, List.map_append, ih]
    congr 1
    obtain ⟨x, y, z, rfl⟩ := hc l List.mem_cons_self
    unfold fF
    rw [List.map_map]
    have e : (List.range 6).filter (fun d : Nat => !decide (nb (mv a b c [x, y, z]) (d : Int) ∈ bs.map (mv a b c))) = (List.range 6).filter (fun d : Nat => !decide (nb [x, y, z] (d : Int) ∈ bs)) := by
      congr 1
      funext d
      rw [mv_nb]
      congr 1
      exact decide_eq_decide.mpr (mem_mv h3 (nb3 x y z d))
    rw [e]
    rfl
theorem three_mv {a b c : Int} {bs : List (List Int)} (h : Three bs) : Three (bs.map (mv a b c)) := fun l hl => by
  obtain ⟨m, hm, rfl⟩ := List.mem_map.mp hl
  obtain ⟨x, y, z, rfl⟩ := h m hm
  exact ⟨_, _, _, rfl⟩
theorem nodup_mv {a b c : Int} {bs : List (List Int)} (h : Three bs) (nd : bs.Nodup) : (bs.map (mv a b c)).Nodup :=
  List.pairwise_map.mpr (List.Pairwise.imp_of_mem (fun {x y} hx hy hne e => hne (mv_inj3 (h x hx) (h y hy) e)) nd)
theorem FC_four {bs cs : List (List Int)} (h : Three cs) : ∀ f ∈ FC bs cs, ∃ x y z d, f = [x, y, z, d] := fun f hf => by
  unfold FC fF at hf
  obtain ⟨c, hc, hf⟩ := List.mem_flatMap.mp hf
  obtain ⟨d, _, rfl⟩ := List.mem_map.mp hf
  obtain ⟨x, y, z, rfl⟩ := h c hc
  exact ⟨x, y, z, d, rfl⟩
theorem gEqL_T {hp : Hd} {n : Nat} {as bs : List (List Int)} (h : hp[n]? = some (.lst (as.map T))) : gEqL true (.ref n) (bs.map T) hp = some (.bl (!(as == bs)), hp) := by
  have p1 : pyF hp 16 (.ref n) = some (.list (as.map fun b => .tuple (b.map PyData.int))) := by
    rw [pyF_ref (n := 15) h, mapO_T (n := 13)]
    rfl
  unfold gEqL
  rw [p1, mapO_T (n := 13)]
  dsimp only
  rw [shaped_Ts, shaped_Ts, PyData.eqv, eqvTs]
  rfl
theorem isi_lst {hp : Hd} {n : Nat} {xs : List D} (h : hp[n]? = some (.lst xs)) : gIsi "list" [.ref n] hp = some (.bl true, hp) := by
  have e : tyN (.ref n) hp = some "list" := by
    show (match hp[n]? with
      | some (.lst _) => some "list"
      | some (.dic _) => some "dict"
      | _ => none) = _
    rw [h]
  show (match tyN (.ref n) hp with
    | some t => match kitB t "list" with
      | some b => some (D.bl b, hp)
      | none => none
    | none => none) = _
  rw [e]
  rfl
theorem isi_tup {hp : Hd} {ds : List D} : gIsi "tuple" [.tup ds] hp = some (.bl true, hp) := rfl
end Ve
namespace Ve
open PySem PySem.Spec L2
def sortI (xs : List Int) : List Int := xs.mergeSort fun a b => decide (a ≤ b)
theorem encD_I {hp : Hd} (a : Int) : encD hp (.int a) = .int a := rfl
theorem srt_I {hp : Hd} (xs : List Int) : srt hp (xs.map D.int) = (sortI xs).map D.int := by
  unfold srt sortI
  rw [List.map_mergeSort]
  intro a _ b _
  show decide (a ≤ b) = PySem.W.dataLe false (encD hp) (.int a) (.int b)
  rw [PySem.W.dataLe_eq]
  show decide (a ≤ b) = !PySem.W.dataLt (.int b) (.int a)
  rw [PySem.W.dataLt_int]
  by_cases h : a ≤ b
  · rw [decide_eq_true h, decide_eq_false (by omega)]; rfl
  · rw [decide_eq_false h, decide_eq_true (by omega)]; rfl
theorem sortI_perm (xs : List Int) : (sortI xs).Perm xs := List.mergeSort_perm _ _
theorem sortI_sorted (xs : List Int) : (sortI xs).Pairwise (· ≤ ·) := by
  have := List.pairwise_mergeSort (le := fun a b : Int => decide (a ≤ b)) (fun a b c h1 h2 => by
    simp only [decide_eq_true_eq] at *
    omega) (fun a b => by
    simp only [Bool.or_eq_true, decide_eq_true_eq]
    omega) xs
  exact this.imp fun h => of_decide_eq_true h
theorem alike_I (a b : Int) : PySem.W.alike (.int a) (.int b) = true := by
  have := PySem.W.alike_ints [a] [b]
  simpa [PySem.W.alikeAll] using this
theorem srtOk_I {hp : Hd} (xs : List Int) : srtOk hp (xs.map D.int) = true := by
  unfold srtOk
  rw [Bool.and_eq_true, Bool.and_eq_true, Bool.and_eq_true]
  refine ⟨?_, ?_, ?_, ?_⟩
  · rw [List.all_map, List.all_eq_true]
    intro c _
    rfl
  · rw [List.all_map, List.all_eq_true]
    intro c _
    show ((xs.map D.int).all fun b => PySem.W.alike (encD hp (.int c)) (encD hp b)) = true
    rw [List.all_map, List.all_eq_true]
    intro b _
    exact alike_I c b
  · rw [Bool.or_eq_true]
    refine .inr ?_
    rw [List.all_map, List.all_eq_true]
    intro c _
    rfl
  · rw [List.all_map, List.all_eq_true]
    intro c _
    show decide ((PyData.int c).depth ≤ 40) = true
    rw [PyData.depth]
    rfl
theorem gSrt_I {hp : Hd} (xs : List Int) : gSrt (xs.map D.int) hp = some ((sortI xs).map D.int, hp) := by
  unfold gSrt
  rw [if_pos (srtOk_I xs), srt_I]
theorem gSrtO_I {hp : Hd} {n : Nat} {xs : List Int} (e : hp[n]? = some (.lst (xs.map D.int))) : gSrtO (.ref n) hp = some ((sortI xs).map D.int, hp) := by
  have e1 : seqOfL (.ref n) hp = some (xs.map D.int) := by
    show (match hp[n]? with
      | some (.lst xs) => some xs
      | _ => none) = _
    rw [e]
  unfold gSrtO
  rw [e1]
  exact gSrt_I xs
theorem plainDs_I : ∀ xs : List Int, plainDs (xs.map D.int) = true
  | [] => by rw [List.map_nil, plainDs]
  | x :: xs => by
    rw [List.map_cons, plainDs, plainDs_I xs, plainD]
    rfl
theorem alikeB_I (xs : List Int) : alikeB (xs.map PyData.int) = true := by
  unfold alikeB
  rw [Bool.and_eq_true]
  constructor
  · rw [List.all_map, List.all_eq_true]
    intro a _
    show ((xs.map PyData.int).all fun y => PySem.W.alike (.int a) y) = true
    rw [List.all_map, List.all_eq_true]
    intro b _
    exact alike_I a b
  · rw [List.all_map, List.all_eq_true]
    intro a _
    rfl
theorem foldl_max_is : ∀ (xs : List Int) (a : Int), (xs.foldl max a ∈ a :: xs) ∧ ∀ v ∈ a :: xs, v ≤ xs.foldl max a
  | [], a => ⟨by simp, fun v h => by rw [show v = a by simpa using h]; exact Int.le_refl _⟩
  | x :: xs, a => by
    obtain ⟨h1, h2⟩ := foldl_max_is xs (max a x)
    rw [List.foldl_cons]
    refine ⟨?_, fun v hv => ?_⟩
    · rcases List.mem_cons.mp h1 with e | e
      · rw [e]
        rcases Int.le_total a x with q | q
        · rw [Int.max_eq_right q]; simp
        · rw [Int.max_eq_left q]; simp
      · simp [e]
    · have hm := h2 (max a x) List.mem_cons_self
      rcases List.mem_cons.mp hv with e | e
      · subst e
        have := Int.le_max_left v x
        omega
      · rcases List.mem_cons.mp e with e | e
        · subst e
          have := Int.le_max_right a v
          omega
        · exact h2 v (List.mem_cons_of_mem _ e)
theorem foldl_min_is : ∀ (xs : List Int) (a : Int), (xs.foldl min a ∈ a :: xs) ∧ ∀ v ∈ a :: xs, xs.foldl min a ≤ v
  | [], a => ⟨by simp, fun v h => by rw [show v = a by simpa using h]; exact Int.le_refl _⟩
  | x :: xs, a => by
    obtain ⟨h1, h2⟩ := foldl_min_is xs (min a x)
    rw [List.foldl_cons]
    refine ⟨?_, fun v hv => ?_⟩
    · rcases List.mem_cons.mp h1 with e | e
      · rw [e]
        rcases Int.le_total a x with q | q
        · rw [Int.min_eq_left q]; simp
        · rw [Int.min_eq_right q]; simp
      · simp [e]
    · have hm := h2 (min a x) List.mem_cons_self
      rcases List.mem_cons.mp hv with e | e
      · subst e
        have := Int.min_le_left v x
        omega
      · rcases List.mem_cons.mp e with e | e
        · subst e
          have := Int.min_le_right a v
          omega
        · exact h2 v (List.mem_cons_of_mem _ e)
def bestI (mx : Bool) (a : Int) (xs : List Int) : Int := if mx = true then xs.foldl max a else xs.foldl min a
theorem gBestL_I {hp : Hd} (mx : Bool) (a : Int) (xs : List Int) : gBestL mx ((a :: xs).map D.int) hp = some (.int (bestI mx a xs), hp) := by
  have e : bestD mx ((a :: xs).map D.int) hp = some (.int (bestI mx a xs)) := by
    unfold bestD
    rw [mapO_int (n := 14)]
    show (if (plainDs ((a :: xs).map D.int) && (alikeB ((a :: xs).map PyData.int) && decide (PyData.depthAll ((a :: xs).map PyData.int) ≤ 40))) = true then decD (if mx = true then PySem.W.maxD (.int a) (xs.map PyData.int) else PySem.W.minD (.int a) (xs.map PyData.int)) else none) = _
    rw [plainDs_I, alikeB_I, depInts, if_pos (by rfl), PySem.W.maxD_ints, PySem.W.minD_ints]
    unfold bestI
    cases mx <;> simp [decD]
  unfold gBestL
  rw [e]
theorem gBest1_T {hp : Hd} (mx : Bool) (a : Int) (xs : List Int) : gBest1 mx [T (a :: xs)] hp = some (.int (bestI mx a xs), hp) := gBestL_I mx a xs
end Ve
namespace Ve
open PySem PySem.Spec L2
theorem mR2_int {fr : AA} {ls : Ls} {hp : Hd} {i j : Int} {hp1 : Hd} (e : fr ls hp = some ([.int i, .int j], hp1)) (h : -(2 ^ 62) ≤ i ∧ i < 2 ^ 62 ∧ -(2 ^ 62) ≤ j ∧ j < 2 ^ 62) : mR2 fr ls hp = some ((List.range (j - i).toNat).map fun k : Nat => D.int (i + (k : Nat)), [], hp1) := by
  unfold mR2
  rw [e]
  dsimp only
  rw [if_pos h]
theorem gSet_add {hp : Hd} {n : Nat} {cs : List (List Int)} {a : List Int} (h : hp[n]? = some (.dic (Cd cs))) (hl : cs.length < sizeLine) : gSet (.ref n) (T a) (.bl true) hp = some (hp.set n (.dic (Cd (addC cs a)))) := by
  unfold gSet
  dsimp only
  rw [h]
  dsimp only
  have hl2 : (Cd cs).length = cs.length := by unfold Cd; rw [List.length_map]
  rw [if_pos (by rw [dKind_Cd, hl2, Bool.true_and]; exact decide_eq_true hl), putD_Cd]
theorem c1N_of {m : List D → Hd → Option (D × Hd)} {ds : List D} {hp : Hd} {n k : Nat} {o o' o2 : O} {g : Hd} (e : hp[n]? = some o) (hn : nrs ds = true) (ho : nrO o = true) (em : m (.ref 0 :: ds) [o] = some (.ref (k + 1), o' :: g)) (eg : g[k]? = some o2) (ho' : nrO o' = true) (ho2 : nrO o2 = true) :
    c1N m (.ref n :: ds) hp = some (.ref hp.length, hp.set n o' ++ [o2]) := by
  unfold c1N
  dsimp only
  rw [e]
  dsimp only
  rw [if_pos (by rw [hn, ho]; rfl), em]
  dsimp only
  rw [eg]
  dsimp only
  rw [if_pos (by rw [ho', ho2]; rfl)]
theorem gIn_Tl {hp : Hd} {k : Nat} {xs : List (List Int)} (h : hp[k]? = some (.lst (xs.map T))) (a : List Int) : gIn (T a) (.ref k) hp = some (.bl (decide (a ∈ xs)), hp) := by
  rw [eT.gIn_lst (by decide) h a]
  congr
theorem gNotIn_Tl {hp : Hd} {k : Nat} {xs : List (List Int)} (h : hp[k]? = some (.lst (xs.map T))) (a : List Int) : gNotIn (T a) (.ref k) hp = some (.bl (!decide (a ∈ xs)), hp) := by
  rw [eT.gNotIn_lst (by decide) h a]
  congr
end Ve
namespace L2
open PySem PySem.Spec PyProof.Rows
abbrev nset (w : World) : Obj := ⟨.type "set", none, .set #[] 0 (.fresh 0 0 (!w.params.followText "set-order")), #[]⟩
section
variable {P : Program} {w : World} {A : Around} {E : Value → Shared → Prop} {s : Shared}
set_option maxHeartbeats 3200000 in
theorem set_of_li {l : Addr} {its : Array Value} (ns : List Int) {Q : Value → Shared → Prop} (calm : A.handled = none) (isl : s.heap.IsList l its) (isI : IntsAre its.toList ns) (few : ns.length + 1 < scanBound)
    (q : ∀ (h' : Heap) (tk c : Nat), SetR w h' s.heap.objs.size (fun j => decide (j ∈ ns)) c → c ≤ ns.length → (∀ b o, s.heap.get? b = some o → h'.get? b = some o) → Q (.ref s.heap.objs.size) { s with heap := h', toks := tk }) : wpAny (model P w) A (call (.type "set") [.ref l]) Q E s := by
  have sz : its.size = ns.length := by have z := IntsAre.length isI; rwa [Array.length_toList] at z
  obtain ⟨c, tl, hmro⟩ := F.called_set.mro
  have a1 := F.called_set.made; have a2 := F.called_set.sub
  refine wpAny_call (codeAny_of_tree (show wpAny _ _ (callAny (.type "set") _) _ _ _ from wpAny_pure ⟨Code.quiet_builtin _ (by decide +kernel), codeAny_builtin F.entry_type_call ?_⟩))
  rw [Around.under_plain (weight_type_call_type "set" [.ref l] []) rfl]
  have a3 := F.called_set.notType; have a4 := F.called_set.canCreate; have a5 := F.typeCall_set_1 (.ref l)
  repeat (any_goals (first | assumption | wp_step))
  refine codeAny_mono (code_set_led1 (.ref l) (E := E) (Q₁ := fun ob s₁ => ob = .ref s.heap.objs.size ∧ s₁ = { s with heap := s.heap.push (nset w) }) ⟨rfl, rfl⟩) fun r s₁ hr => ?_
  rcases r with e | fl
  · exact hr
  rcases fl with _ | _ | _ | ob <;> try exact hr.elim
  obtain ⟨rfl, rfl⟩ := hr
  have g0 : (s.heap.push (nset w)).get? s.heap.objs.size = some (nset w) := Heap.get?_push_size _ rfl
  have t0 : Shared.TypeIs { s with heap := s.heap.push (nset w) } (.ref s.heap.objs.size) "set" := ⟨_, g0, rfl⟩
  have b1 := F.called_set.init.lookup; have b2 := F.called_set.init.bind (.ref s.heap.objs.size)
  repeat (any_goals (first | assumption | wp_step))
  refine codeAny_mono (codeAny_call_builtin (R := wants (fun r s₂ => r = .none ∧ ∃ h' tk c, s₂ = { s with heap := h', toks := tk } ∧ SetR w h' s.heap.objs.size (fun j => decide (j ∈ ns)) c ∧ c ≤ ns.length ∧ (∀ b o, s.heap.get? b = some o → h'.get? b = some o)) E) F.called_set.init.plain F.entry_set_init (check_set_init_1 t0 ?_)) fun r₂ s₂ hr₂ => ?_
  · obtain ⟨⟨oc, od, ot, os⟩, hol, z1, nl, z2⟩ := isl
    simp only at z1 z2
    cases z1; cases z2
    have hol' : (s.heap.push (nset w)).get? l = some ⟨.type "list", od, .seq its nl, os⟩ := Heap.get?_push_of_some _ hol
    have c1 := F.sub_list_set; have c2 := F.sub_list_frozenset
    have c3 : (Value.type "list" == Value.type "dict") = false := by decide
    have isl1 : (s.heap.push (nset w)).IsList l its := ⟨_, hol', rfl, nl, rfl⟩
    unfold Builtin.«set.__init__» noKeywords Builtin.Frozenset.updateFrom
    generalize hPI : pyIter = PI
    wp_walk
    subst hPI
    refine wpAny_pyIter_list isl1 (wpAny_bind (wpAny_runValue ?_))
    have lt0 : l < s.heap.objs.size := Heap.lt_size hol
    have zz : (s.heap.push (nset w)).objs.size = s.heap.objs.size + 1 := Heap.size_push ..
    have vals : ∀ (i : Nat) (v : Value), its[i]? = some v → ∃ k t, ns[i]? = some k ∧ v = .int k t := fun i v hv => by
      have hi : i < ns.length := by rw [← sz]; exact (Array.getElem?_eq_some_iff.mp hv).1
      obtain ⟨t, e⟩ := IntsAre.int_at isI i v (by rw [Array.getElem?_toList]; exact hv)
      exact ⟨ns[i], t, List.getElem?_eq_getElem hi, by rw [e, List.getD_eq_getElem?_getD, List.getElem?_eq_getElem hi]; rfl⟩
    refine set_update_ints ((Walks.list (show A.in1.in1.in1.handled = none by simp [calm]) _ l (by rw [zz]; exact Nat.ne_of_lt (Nat.lt_succ_of_lt lt0)) its).toS) s.heap.objs.size (by rw [zz]; simp only [List.mem_cons, List.mem_singleton, List.not_mem_nil, or_false, not_or]; exact ⟨Nat.ne_of_lt (Nat.lt_succ_self _), Nat.ne_of_gt lt0⟩) ns sz few vals (its.size - 0) 0 _ (by omega) (Nat.zero_le _)
      ⟨⟨_, Heap.get?_push_size _ rfl, rfl, rfl⟩, (isl1.push _)⟩ ⟨0, Nat.le_refl 0, setR_new_at (Heap.get?_push_of_some _ g0)⟩ fun s' c' mv le sr => ?_
    obtain ⟨h', g2, d', tk', os'⟩ := s'
    have e1 : g2 = s.gens := mv.gens
    have e2 : d' = s.drawn := mv.drawn
    have e3 : os' = s.os := mv.os
    cases e1; cases e2; cases e3
    show wpAny _ _ _ _ _ _
    refine wpAny_pure ?_
    show wpAny _ _ (ret Value.none) _ _ _
    refine wpAny_pure ⟨rfl, h', tk', c', rfl, sr, by omega, fun b o e => ?_⟩
    have lb : b < s.heap.objs.size := Heap.lt_size e
    exact mv.heap b o (by rw [zz]; simp only [List.mem_cons, List.mem_singleton, List.not_mem_nil, or_false, not_or]; exact ⟨Nat.ne_of_lt lb, Nat.ne_of_lt (Nat.lt_succ_of_lt lb)⟩) (Heap.get?_push_of_some _ (Heap.get?_push_of_some _ e))
  · rcases r₂ with e | fl₂
    · exact hr₂
    rcases fl₂ with _ | _ | _ | r <;> try exact hr₂.elim
    obtain ⟨rfl, h', tk, c', rfl, sr, le, kp⟩ := hr₂
    repeat (any_goals (first | assumption | wp_step))
    exact q _ _ _ sr le kp
end
end L2

namespace L2
open PySem PySem.Spec PyProof.Rows
section
variable {X : Cx}
def rSetLi (K : PySem.W.Frag) (w : World) : List V → Hp → VK → Prop := fun xs H Q => ∃ (l : Addr) (ns : List Int), xs = [V.ref l] ∧ SqL K H l (ns.map V.int) ∧ ns.length + 1 < scanBound ∧
  ∀ (p : Addr) (n : Nat), H p = none → Q (.ref p) (upd H p (SetO w p (fun j => decide (j ∈ ns)) n))
theorem cr_setLi (hc : X.calm = true) : CallR X (.type "set") (rSetLi X.K X.w) := by
  intro pins s σ H xs us Q I r ⟨l, ns, e, hq, few, q⟩
  subst e
  rw [Vals.ref1 r]
  obtain ⟨its, r1, pl, hz⟩ := I.list hq
  refine set_of_li (its := its.toArray) ns (I.ok.hd hc) pl.isList (by simpa using r1.ints) few fun h' tk c sr _ kp => ?_
  have fr : H s.heap.objs.size = none := I.hok.fresh (Nat.le_refl _)
  exact ⟨.ref _, upd H s.heap.objs.size (SetO X.w s.heap.objs.size (fun j => decide (j ∈ ns)) c), I.laid (t' := tk) kp (Nat.le_refl _) (setO_new sr), rfl, q _ c fr⟩
end
end L2
namespace Ve
open PySem PySem.Spec L2 PyProof.Rows
def insS (k : Int) : List Int → List Int
  | [] => [k]
  | x :: r => if k < x then k :: x :: r else if k = x then x :: r else x :: insS k r
def srtS (ns : List Int) : List Int := ns.foldr insS []
theorem mem_insS {k j : Int} : ∀ {l : List Int}, j ∈ insS k l ↔ j = k ∨ j ∈ l
  | [] => by simp [insS]
  | x :: r => by
    unfold insS
    split
    · simp
    · split
      · rename_i h
        subst h
        simp
      · simp only [List.mem_cons, mem_insS (l := r)]
        constructor
        · rintro (h | h | h)
          · exact .inr (.inl h)
          · exact .inl h
          · exact .inr (.inr h)
        · rintro (h | h | h)
          · exact .inr (.inl h)
          · exact .inl h
          · exact .inr (.inr h)
theorem insS_lt {k : Int} : ∀ {l : List Int}, l.Pairwise (· < ·) → (insS k l).Pairwise (· < ·)
  | [], _ => List.pairwise_singleton _ _
  | x :: r, h => by
    obtain ⟨h1, h2⟩ := List.pairwise_cons.mp h
    unfold insS
    split
    · rename_i hk
      refine List.pairwise_cons.mpr ⟨fun y hy => ?_, h⟩
      rcases List.mem_cons.mp hy with z | z
      · rw [z]; exact hk
      · have := h1 y z
        omega
    · split
      · exact h
      · refine List.pairwise_cons.mpr ⟨fun y hy => ?_, insS_lt h2⟩
        rcases mem_insS.mp hy with z | z
        · omega
        · exact h1 y z
theorem mem_srtS {j : Int} : ∀ {l : List Int}, j ∈ srtS l ↔ j ∈ l
  | [] => by simp [srtS]
  | x :: r => by
    show j ∈ insS x (srtS r) ↔ _
    rw [mem_insS, mem_srtS (l := r), List.mem_cons]
theorem srtS_lt : ∀ {l : List Int}, (srtS l).Pairwise (· < ·)
  | [] => List.Pairwise.nil
  | x :: r => insS_lt (srtS_lt (l := r))
theorem lt_unique : ∀ {a b : List Int}, a.Pairwise (· < ·) → b.Pairwise (· < ·) → (∀ k, k ∈ a ↔ k ∈ b) → a = b
  | [], [], _, _, _ => rfl
  | [], y :: b, _, _, h => by have := (h y).mpr List.mem_cons_self; cases this
  | x :: a, [], _, _, h => by have := (h x).mp List.mem_cons_self; cases this
  | x :: a, y :: b, ha, hb, h => by
    obtain ⟨ha1, ha2⟩ := List.pairwise_cons.mp ha
    obtain ⟨hb1, hb2⟩ := List.pairwise_cons.mp hb
    have exy : x = y := by
      rcases List.mem_cons.mp ((h x).mp List.mem_cons_self) with z | z
      · exact z
      · rcases List.mem_cons.mp ((h y).mpr List.mem_cons_self) with z2 | z2
        · exact z2.symm
        · have q1 := hb1 x z
          have q2 := ha1 y z2
          omega
    subst exy
    refine congrArg (x :: ·) (lt_unique ha2 hb2 fun k => ?_)
    have := h k
    rw [List.mem_cons, List.mem_cons] at this
    constructor
    · intro hk
      rcases this.mp (.inr hk) with z | z
      · have := ha1 k hk; omega
      · exact z
    · intro hk
      rcases this.mpr (.inr hk) with z | z
      · have := hb1 k hk; omega
      · exact z
theorem lt_nodup {a : List Int} (h : a.Pairwise (· < ·)) : a.Nodup := h.imp fun h => by omega
theorem nodup_len_eq {a b : List Int} (ha : a.Nodup) (hb : b.Nodup) (h : ∀ k, k ∈ a ↔ k ∈ b) : a.length = b.length := by
  have le : ∀ {a b : List Int}, a.Nodup → (∀ k, k ∈ a → k ∈ b) → a.length ≤ b.length := by
    intro a
    induction a with
    | nil => intro b _ _; exact Nat.zero_le _
    | cons x r ih =>
      intro b hn hm
      obtain ⟨n1, n2⟩ := List.nodup_cons.mp hn
      have hx := hm x List.mem_cons_self
      have := ih (b := b.erase x) n2 fun k hk => (List.mem_erase_of_ne (fun z => n1 (by rw [← z]; exact hk))).mpr (hm k (List.mem_cons_of_mem _ hk))
      have h3 := List.length_erase_of_mem hx
      have h4 := List.length_pos_of_mem hx
      rw [List.length_cons]
      omega
  exact Nat.le_antisymm (le ha fun k => (h k).mp) (le hb fun k => (h k).mpr)
def intsD : List D → Option (List Int)
  | [] => some []
  | .int i :: r => (intsD r).map (i :: ·)
  | _ :: _ => none
theorem intsD_map : ∀ ns : List Int, intsD (ns.map D.int) = some ns
  | [] => rfl
  | n :: ns => by
    show (intsD (ns.map D.int)).map (n :: ·) = _
    rw [intsD_map ns]
    rfl
theorem intsD_some : ∀ {ds : List D} {ns : List Int}, intsD ds = some ns → ds = ns.map D.int
  | [], ns, h => by cases h; rfl
  | d :: ds, ns, h => by
    cases d <;> try (cases h; done)
    rename_i i
    replace h : (intsD ds).map (i :: ·) = some ns := h
    rw [Option.map_eq_some_iff] at h
    obtain ⟨ms, e1, e2⟩ := h
    subst e2
    rw [intsD_some e1]
    rfl
theorem Rps.intsE' {K : PySem.W.Frag} {H : Hp} {μ : List Addr} : ∀ {ns : List Int} {vs : List V}, Rps K H μ (ns.map D.int) vs → vs = ns.map V.int
  | [], vs, h => by
    rw [List.map_nil, Rps] at h
    exact h
  | n :: ns, vs, h => by
    rw [List.map_cons, Rps] at h
    obtain ⟨v, r, e, h1, h2⟩ := h
    rw [e, h1.intE, Rps.intsE' h2]
    rfl
def setD (ds : List D) : Option (List Int) := match intsD ds with
  | some ns => if ns.length < 1000 then some (srtS ns) else none
  | none => none
theorem setD_some {ds : List D} {xs : List Int} (h : setD ds = some xs) : ∃ ns, ds = ns.map D.int ∧ xs = srtS ns ∧ ns.length < 1000 := by
  unfold setD at h
  split at h
  · rename_i ns e
    split at h
    · rename_i hl
      cases h
      exact ⟨ns, intsD_some e, rfl, hl⟩
    · cases h
  · cases h
def mSortedSet (fa : AE) : AA := fun ls hp => match fa ls hp with
  | some (d, hp1) => match lstOf d hp1 with
    | some ds => match setD ds with
      | some xs => if xs.length < 64 then some (xs.map D.int, hp1) else none
      | none => none
    | none => none
  | none => none
def mLenSet (fa : AE) : AE := fun ls hp => match fa ls hp with
  | some (d, hp1) => match lstOf d hp1 with
    | some ds => match setD ds with
      | some xs => some (.int xs.length, hp1)
      | none => none
    | none => none
  | none => none
def mSortedSetL (fa : AA) : AA := fun ls hp => match fa ls hp with
  | some (ds, hp1) => match setD ds with
    | some xs => if xs.length < 64 then some (xs.map D.int, hp1) else none
    | none => none
  | none => none
def mLenSetL (fa : AA) : AE := fun ls hp => match fa ls hp with
  | some (ds, hp1) => match setD ds with
    | some xs => some (.int xs.length, hp1)
    | none => none
  | none => none
section
variable {X : Cx} {e : Expr} {fa : AE} {fl : AA} {p p2 pos pos2 : Pos}
def rLenSet (w : World) : List V → Hp → VK → Prop := fun vs H Q => ∃ (a : Addr) (ns : List Int) (n : Nat), vs = [V.ref a] ∧ H a = some (SetO w a (fun j => decide (j ∈ ns)) n) ∧ Q (.int (srtS ns).length) H
theorem cr_lenSet : CallR X (.builtin "len") (rLenSet X.w) := by
  intro pins s σ H vs us Q I r ⟨a, ns, n, e, ha, q⟩
  subst e
  rw [Vals.ref1 r]
  obtain ⟨o, es, ep, t, ho, hex, hd, _, nd, mem, few, fit, sz, _⟩ := setO_get I ha
  have el : n = (srtS ns).length := by
    have := nodup_len_eq nd (lt_nodup (srtS_lt (l := ns))) fun k => by
      rw [← mem k, decide_eq_true_eq, mem_srtS]
    rw [List.length_map, Array.length_toList, sz] at this
    exact this
  refine call_len_set ho hex hd fit (by unfold scanBound at few; omega) ⟨.int (srtS ns).length, H, I.tok _, ⟨_, by rw [sz, el]⟩, q⟩
theorem rps_sortedI {K : PySem.W.Frag} {H : Hp} {μ : List Addr} {ns out : List Int} (h1 : out.Pairwise (· < ·)) (h2 : ∀ k : Int, k ∈ out ↔ decide (k ∈ ns) = true) : Rps K H μ ((srtS ns).map D.int) (out.map V.int) := by
  have : out = srtS ns := lt_unique h1 srtS_lt fun k => by rw [h2 k, decide_eq_true_eq, mem_srtS]
  rw [this]
  exact Rps.ofInts
theorem srtS_few {ns : List Int} {n : Nat} {out : List Int} (h1 : out.Pairwise (· < ·)) (h2 : ∀ k : Int, k ∈ out ↔ decide (k ∈ ns) = true) : out = srtS ns := lt_unique h1 srtS_lt fun k => by rw [h2 k, decide_eq_true_eq, mem_srtS]
def rSortS (w : World) : List V → Hp → VK → Prop := fun vs H Q => ∃ (a : Addr) (ns : List Int) (n : Nat), vs = [V.ref a] ∧ H a = some (SetO w a (fun j => decide (j ∈ ns)) n) ∧ (srtS ns).length < 64 ∧ ∀ l, H l = none → Q (.ref l) (upd H l (.lst ((srtS ns).map V.int)))
theorem cr_sortS (hc : X.calm = true) : CallR X (.builtin "sorted") (rSortS X.w) := by
  intro pins s σ H vs us Q I r ⟨a, ns, n, e, ha, h64, q⟩
  have el : n = (srtS ns).length := by
    obtain ⟨o, es, ep, t, ho, hex, hd, _, nd, mem, few, fit, sz, _⟩ := setO_get I ha
    have := nodup_len_eq nd (lt_nodup (srtS_lt (l := ns))) fun k => by
      rw [← mem k, decide_eq_true_eq, mem_srtS]
    rw [List.length_map, Array.length_toList, sz] at this
    exact this
  exact cr_sortedSet hc pins s σ H vs us Q I r ⟨a, _, n, e, ha, by omega, fun out l h1 h2 _ hn => by
    have := srtS_few (n := 0) h1 h2
    subst this
    exact q l hn⟩
theorem le_sortedSet (hc : X.calm = true) (hg : Gl X "sorted") (hm : X.mg "sorted" = none) (hg2 : Gl X "set") (hm2 : X.mg "set" = none) (ha : DE X e fa) (he : starEach [e] X.env = (false, eval e X.env) :: starEach [] X.env := by rfl)
    (he2 : starEach [.Call (.Name "set" p2) [e] [] pos2] X.env = (false, eval (.Call (.Name "set" p2) [e] [] pos2) X.env) :: starEach [] X.env := by rfl) : LE X (.Call (.Name "sorted" p) [.Call (.Name "set" p2) [e] [] pos2] [] pos) (mSortedSet fa) :=
  PE.imp (pe_callB (cr_sortS hc) hg hm bb_sorted (pa_cons (pe_callTy (cr_setLi hc) hg2 hm2 PyProof.Rows.boot_set (pa_cons ha pa_nil he) (by decide) (by decide) he rfl) pa_nil he2) (by decide) (by decide) he2 rfl) fun σ H Q ⟨ls, hp, μ, ds, hp', rl, rh, e, q⟩ => by
    unfold mSortedSet at e
    split at e
    · rename_i d hp1 e1
      split at e
      · rename_i ds' e2
        split at e
        · rename_i xs e3
          split at e
          · rename_i h64
            cases e
            obtain ⟨ns, en, ex, hl⟩ := setD_some e3
            subst ex
            refine ⟨ls, hp, μ, d, hp', rl, rh, e1, fun v H1 μ1 x1 rh1 r1 => ?_⟩
            obtain ⟨n, rfl, eh⟩ := lstOf_some e2
            obtain ⟨a, ea, rfl⟩ := r1.refE
            obtain ⟨vs, ev, rs⟩ := rh1.lst ea eh
            subst en
            have := rs.intsE'
            subst this
            refine ⟨a, ns, rfl, .inl (.inl ev), by unfold scanBound; omega, fun p n2 h0 => ?_⟩
            have x2 := Ext.laid rh1 (o := SetO X.w p (fun j => decide (j ∈ ns)) n2) h0
            refine ⟨p, ns, n2, rfl, upd_same, h64, fun l hl0 => ?_⟩
            have rh2 := rh1.laid (o := SetO X.w p (fun j => decide (j ∈ ns)) n2) h0
            have x3 := Ext.laid rh2 (o := .lst ((srtS ns).map V.int)) hl0
            exact q l _ _ μ1 ((x1.trans x2).trans x3) (rh2.laid hl0) ((x1.trans x2).back rh2 hl0) (rh2.notIn hl0) upd_same Rps.ofInts
          · cases e
        · cases e
      · cases e
    · cases e
theorem de_lenSet (hc : X.calm = true) (hg : Gl X "len") (hm : X.mg "len" = none) (hg2 : Gl X "set") (hm2 : X.mg "set" = none) (ha : DE X e fa) (he : starEach [e] X.env = (false, eval e X.env) :: starEach [] X.env := by rfl)
    (he2 : starEach [.Call (.Name "set" p2) [e] [] pos2] X.env = (false, eval (.Call (.Name "set" p2) [e] [] pos2) X.env) :: starEach [] X.env := by rfl) : DE X (.Call (.Name "len" p) [.Call (.Name "set" p2) [e] [] pos2] [] pos) (mLenSet fa) :=
  PE.imp (pe_callB cr_lenSet hg hm PySem.boot_len (pa_cons (pe_callTy (cr_setLi hc) hg2 hm2 PyProof.Rows.boot_set (pa_cons ha pa_nil he) (by decide) (by decide) he rfl) pa_nil he2) (by decide) (by decide) he2 rfl) fun σ H Q ⟨ls, hp, μ, ds, hp', rl, rh, e, q⟩ => by
    unfold mLenSet at e
    split at e
    · rename_i d hp1 e1
      split at e
      · rename_i ds' e2
        split at e
        · rename_i xs e3
          cases e
          obtain ⟨ns, en, ex, hl⟩ := setD_some e3
          subst ex
          refine ⟨ls, hp, μ, d, hp', rl, rh, e1, fun v H1 μ1 x1 rh1 r1 => ?_⟩
          obtain ⟨n, rfl, eh⟩ := lstOf_some e2
          obtain ⟨a, ea, rfl⟩ := r1.refE
          obtain ⟨vs, ev, rs⟩ := rh1.lst ea eh
          subst en
          have := rs.intsE'
          subst this
          refine ⟨a, ns, rfl, .inl (.inl ev), by unfold scanBound; omega, fun p n2 h0 => ?_⟩
          have x2 := Ext.laid rh1 (o := SetO X.w p (fun j => decide (j ∈ ns)) n2) h0
          exact ⟨p, ns, n2, rfl, upd_same, q _ _ μ1 (x1.trans x2) (rh1.laid h0) Rp.int⟩
        · cases e
      · cases e
    · cases e
theorem le_sortedSetL (hc : X.calm = true) (hg : Gl X "sorted") (hm : X.mg "sorted" = none) (hg2 : Gl X "set") (hm2 : X.mg "set" = none) (ha : LE X e fl) (he : starEach [e] X.env = (false, eval e X.env) :: starEach [] X.env := by rfl)
    (he2 : starEach [.Call (.Name "set" p2) [e] [] pos2] X.env = (false, eval (.Call (.Name "set" p2) [e] [] pos2) X.env) :: starEach [] X.env := by rfl) : LE X (.Call (.Name "sorted" p) [.Call (.Name "set" p2) [e] [] pos2] [] pos) (mSortedSetL fl) :=
  PE.imp (pe_callB (cr_sortS hc) hg hm bb_sorted (pa_cons (pe_callTy (cr_setLi hc) hg2 hm2 PyProof.Rows.boot_set (pa_cons ha pa_nil he) (by decide) (by decide) he rfl) pa_nil he2) (by decide) (by decide) he2 rfl) fun σ H Q ⟨ls, hp, μ, ds, hp', rl, rh, e, q⟩ => by
    unfold mSortedSetL at e
    split at e
    · rename_i ds' hp1 e1
      split at e
      · rename_i xs e3
        split at e
        · rename_i h64
          cases e
          obtain ⟨ns, en, ex, hl⟩ := setD_some e3
          subst ex
          refine ⟨ls, hp, μ, ds', hp', rl, rh, e1, fun a vs H1 μ1 x1 rh1 h0a hna ev rs => ?_⟩
          subst en
          have := rs.intsE'
          subst this
          refine ⟨a, ns, rfl, .inl (.inl ev), by unfold scanBound; omega, fun p n2 h0 => ?_⟩
          have x2 := Ext.laid rh1 (o := SetO X.w p (fun j => decide (j ∈ ns)) n2) h0
          refine ⟨p, ns, n2, rfl, upd_same, h64, fun l hl0 => ?_⟩
          have rh2 := rh1.laid (o := SetO X.w p (fun j => decide (j ∈ ns)) n2) h0
          have x3 := Ext.laid rh2 (o := .lst ((srtS ns).map V.int)) hl0
          exact q l _ _ μ1 ((x1.trans x2).trans x3) (rh2.laid hl0) ((x1.trans x2).back rh2 hl0) (rh2.notIn hl0) upd_same Rps.ofInts
        · cases e
      · cases e
    · cases e
theorem de_lenSetL (hc : X.calm = true) (hg : Gl X "len") (hm : X.mg "len" = none) (hg2 : Gl X "set") (hm2 : X.mg "set" = none) (ha : LE X e fl) (he : starEach [e] X.env = (false, eval e X.env) :: starEach [] X.env := by rfl)
    (he2 : starEach [.Call (.Name "set" p2) [e] [] pos2] X.env = (false, eval (.Call (.Name "set" p2) [e] [] pos2) X.env) :: starEach [] X.env := by rfl) : DE X (.Call (.Name "len" p) [.Call (.Name "set" p2) [e] [] pos2] [] pos) (mLenSetL fl) :=
  PE.imp (pe_callB cr_lenSet hg hm PySem.boot_len (pa_cons (pe_callTy (cr_setLi hc) hg2 hm2 PyProof.Rows.boot_set (pa_cons ha pa_nil he) (by decide) (by decide) he rfl) pa_nil he2) (by decide) (by decide) he2 rfl) fun σ H Q ⟨ls, hp, μ, ds, hp', rl, rh, e, q⟩ => by
    unfold mLenSetL at e
    split at e
    · rename_i ds' hp1 e1
      split at e
      · rename_i xs e3
        cases e
        obtain ⟨ns, en, ex, hl⟩ := setD_some e3
        subst ex
        refine ⟨ls, hp, μ, ds', hp', rl, rh, e1, fun a vs H1 μ1 x1 rh1 h0a hna ev rs => ?_⟩
        subst en
        have := rs.intsE'
        subst this
        refine ⟨a, ns, rfl, .inl (.inl ev), by unfold scanBound; omega, fun p n2 h0 => ?_⟩
        have x2 := Ext.laid rh1 (o := SetO X.w p (fun j => decide (j ∈ ns)) n2) h0
        exact ⟨p, ns, n2, rfl, upd_same, q _ _ μ1 (x1.trans x2) (rh1.laid h0) Rp.int⟩
      · cases e
    · cases e
def gCnt (x : D) (ds : List D) (hp : Hd) : Option (D × Hd) := match x, ds with
  | .ref n, [.int k] => match hp[n]? with
    | some (.lst ys) => match intsD ys with
      | some ns => some (.int (ns.count k : Nat), hp)
      | none => none
    | _ => none
  | _, _ => none
theorem t_lcount : MtR X "list.count" (RM X.K gCnt) := fun pins s σ H x xs v us Q I rx rxs ⟨hp, μ, dx, ds, d, hp', rh, r1, rs, e, q⟩ => by
  unfold gCnt at e
  split at e
  · rename_i n k
    split at e
    · rename_i ys e1
      split at e
      · rename_i ns e2
        cases e
        obtain ⟨a, ea, rfl⟩ := r1.refE
        obtain ⟨w, rfl, rw⟩ := rs.one1
        cases rw.intE
        obtain ⟨vs, ev, rv⟩ := rh.lst ea e1
        have := intsD_some e2
        subst this
        have := rv.intsE'
        subst this
        exact mt_lcount pins s σ H _ _ v us Q I rx rxs ⟨a, ns, k, rfl, rfl, .inl (.inl ev), q _ H μ Ext.refl rh Rp.int⟩
      · cases e
    · cases e
  · cases e
theorem de_no {e : Expr} : DE X e (fun _ _ => none) := ⟨fun _ _ _ _ _ _ ⟨_, _, _, _, _, _, _, e, _⟩ => by cases e⟩
end
end Ve
namespace Ve
open PySem PySem.Spec L2
def cS (m : List D → Hd → Option (D × Hd)) (ds : List D) (hp : Hd) : Option (D × Hd) := if nrs ds = true then match m ds [] with
  | some (d, g) => if (D.all (fun i => decide (i < g.length)) d && g.all (O.all fun i => decide (i < g.length))) = true then some (D.map (fun i => hp.length + i) d, hp ++ g.map (O.map fun i => hp.length + i)) else none
  | none => none else none
theorem cl_cS (m : List D → Hd → Option (D × Hd)) : Cl (cS m) m := fun ds hp d hp' h => by
  unfold cS at h
  split at h
  · rename_i hn
    split at h
    · rename_i d2 g e
      split at h
      · rename_i hd
        rw [Bool.and_eq_true] at hd
        cases h
        refine ⟨[], List.range g.length, ds, [], d2, g, fun i => hp.length + i, fun i => decide (i < g.length), ⟨e, List.nodup_nil, fun i hi => absurd hi List.not_mem_nil, rfl, (rens_nr hn).symm, lts_nr hn, (fun i o e => by simp at e), List.nodup_range, fun k hk => ⟨Nat.zero_le _, List.mem_range.mp hk⟩, fun i hi => absurd hi (Nat.not_lt_zero _), fun t k hk => ?_, fun i hi => .inr (List.mem_range.mpr (of_decide_eq_true hi)), ⟨hd.1, rfl⟩, ?_, fun j hj _ => ?_, fun i hi => absurd hi (Nat.not_lt_zero _), fun t k hk => ?_⟩⟩
        · obtain ⟨h1, h2⟩ := List.getElem?_eq_some_iff.mp hk
          rw [List.getElem_range] at h2
          subst h2
          rfl
        · rw [List.length_append, List.length_map, List.length_range]
        · rw [List.getElem?_append_left hj]
        · obtain ⟨h1, h2⟩ := List.getElem?_eq_some_iff.mp hk
          rw [List.getElem_range] at h2
          subst h2
          rw [List.length_range] at h1
          refine ⟨g[t], List.getElem?_eq_getElem h1, List.all_eq_true.mp hd.2 _ (List.getElem_mem h1), ?_⟩
          rw [List.getElem?_append_right (by omega), Nat.add_sub_cancel_left, List.getElem?_map, List.getElem?_eq_getElem h1]
          rfl
      · cases h
    · cases h
  · cases h
theorem cS_of {m : List D → Hd → Option (D × Hd)} {ds : List D} {hp g : Hd} {d : D} (hn : nrs ds = true) (e : m ds [] = some (d, g)) (h1 : D.all (fun i => decide (i < g.length)) d = true) (h2 : g.all (O.all fun i => decide (i < g.length)) = true) : cS m ds hp = some (D.map (fun i => hp.length + i) d, hp ++ g.map (O.map fun i => hp.length + i)) := by
  unfold cS
  rw [if_pos hn, e]
  dsimp only
  rw [if_pos (by rw [h1, h2]; rfl)]
end Ve
namespace Ve
open PySem PySem.Spec L2
theorem def_of {n : Nat} {b : AS} {ds : List D} {hp hp' : Hd} {ls' : Ls} {d : D} (e : b (stD n ds) hp = some (.rt d, ls', hp')) : mDef n b ds hp = some (d, hp') := by
  rw [mDef_s, e]
theorem ret_of {fa : AE} {ls : Ls} {hp hp' : Hd} {d : D} (e : fa ls hp = some (d, hp')) : sRet fa ls hp = some (.rt d, ls, hp') := by
  rw [sRet_s, e]
theorem asg_of {t : Tg} {fa : AE} {ls ls1 : Ls} {hp hp' : Hd} {d : D} (e : fa ls hp = some (d, hp')) (e2 : t.asg d ls = some ls1) : sAsg t fa ls hp = some (.nx, ls1, hp') := by
  rw [sAsg_s, e]
  dsimp only
  rw [e2]
theorem as_of {fr : AA} {g : List D → Hd → Option (D × Hd)} {ls : Ls} {hp hp1 : Hd} {ds : List D} {r : Option (D × Hd)} (e : fr ls hp = some (ds, hp1)) (e2 : g ds hp1 = r) : mAs fr g ls hp = r := by
  rw [mAs_s, e]
  exact e2
theorem call_of {k : Nat} {fr : AA} {g : List D → Hd → Option (D × Hd)} {ls : Ls} {hp hp1 : Hd} {ds : List D} {r : Option (D × Hd)} (e : fr ls hp = some (ds, hp1)) (h : ds.length = k) (e2 : g ds hp1 = r) : mAs fr (ar k g) ls hp = r := by
  rw [mAs_s, e]
  dsimp only
  rw [ar_s, if_pos h]
  exact e2
theorem cons_of {fa : AE} {fr : AA} {ls : Ls} {hp hp1 hp2 : Hd} {d : D} {ds : List D} (e : fa ls hp = some (d, hp1)) (e2 : fr ls hp1 = some (ds, hp2)) : mCons fa fr ls hp = some (d :: ds, hp2) := by
  rw [mCons_s, e]
  dsimp only
  rw [e2]
theorem tup_of {fr : AA} {ls : Ls} {hp hp1 : Hd} {ds : List D} (e : fr ls hp = some (ds, hp1)) (h : ds.length ≤ 1000) : mTup fr ls hp = some (.tup ds, hp1) := by
  rw [mTup_s, e]
  dsimp only
  rw [if_pos (by rw [sizeLine_eq]; omega)]
theorem m2_ev {fa fb : AE} {g : D → D → Hd → Option (D × Hd)} {ls : Ls} {hp hp1 hp2 : Hd} {a b : D} {r : Option (D × Hd)} (e1 : fa ls hp = some (a, hp1)) (e2 : fb ls hp1 = some (b, hp2)) (e3 : g a b hp2 = r) : m2 fa fb g ls hp = r := (m2_of e1 e2).trans e3
theorem mC_of {d : D} {ls : Ls} {hp : Hd} : mC d ls hp = some (d, hp) := rfl
theorem nil_of {ls : Ls} {hp : Hd} : mNil ls hp = some ([], hp) := rfl
theorem lst_of {fr : AA} {ls : Ls} {hp hp1 : Hd} {ds : List D} (e : fr ls hp = some (ds, hp1)) (h : ds.length ≤ 1000) : mLst fr ls hp = some (ds, hp1) := by
  rw [mLst_s, e]
  dsimp only
  rw [if_pos (by rw [sizeLine_eq]; omega)]
theorem not_of {ft : AT} {ls : Ls} {hp hp1 : Hd} {b : Bool} (e : ft ls hp = some (b, hp1)) : mNot ft ls hp = some (!b, hp1) := by
  rw [mNot_s, e]
theorem m1_ev {fa : AE} {g : D → Hd → Option (D × Hd)} {ls : Ls} {hp hp1 : Hd} {a : D} {r : Option (D × Hd)} (e1 : fa ls hp = some (a, hp1)) (e3 : g a hp1 = r) : m1 fa g ls hp = r := by
  rw [m1_s, e1]
  exact e3
theorem met_of {ck : D → Hd → Bool} {fa : AE} {fr : AA} {g : D → List D → Hd → Option (D × Hd)} {ls : Ls} {hp hp1 hp2 : Hd} {x : D} {ds : List D} {r : Option (D × Hd)} (e : fa ls hp = some (x, hp1)) (c : ck x hp1 = true) (e1 : fr ls hp1 = some (ds, hp2)) (e2 : g x ds hp2 = r) : mMet ck fa fr g ls hp = r := by
  rw [mMet_s, e]
  dsimp only
  rw [if_pos c, e1]
  exact e2
theorem c1V_of {m : List D → Hd → Option (D × Hd)} {ds : List D} {hp : Hd} {n : Nat} {o o' : O} {d : D} {g : Hd} (e : hp[n]? = some o) (hn : nrs ds = true) (ho : nrO o = true) (em : m (.ref 0 :: ds) [o] = some (d, o' :: g)) (hd : nr d = true) (ho' : nrO o' = true) : c1V m (.ref n :: ds) hp = some (d, hp.set n o') := by
  unfold c1V
  dsimp only
  rw [e]
  dsimp only
  rw [if_pos (by rw [hn, ho]; rfl), em]
  dsimp only
  rw [if_pos (by rw [hd, ho']; rfl)]
theorem range_at {m : Nat} {d r : List Nat} {x : Nat} (h : List.range m = d ++ x :: r) : x = d.length ∧ d.length < m := by
  have hl : d.length < m := by
    have := congrArg List.length h
    rw [List.length_range, List.length_append, List.length_cons] at this
    omega
  refine ⟨?_, hl⟩
  have e : (List.range m)[d.length]? = (d ++ x :: r)[d.length]? := by rw [h]
  rw [List.getElem?_range hl, List.getElem?_append_right (Nat.le_refl _), Nat.sub_self] at e
  exact (Option.some.inj e).symm
abbrev Sd := Nat × Nat
def pI (p : Sd) : List Int := [(p.1 : Int), (p.2 : Int)]
theorem pI_inj {p q : Sd} (h : pI p = pI q) : p = q := by
  unfold pI at h
  simp only [List.cons.injEq, and_true] at h
  exact Prod.ext (by omega) (by omega)
theorem pI_lt {p q : Sd} : pI p < pI q ↔ p.1 < q.1 ∨ (p.1 = q.1 ∧ p.2 < q.2) := by
  unfold pI
  rw [List.cons_lt_cons_iff, List.cons_lt_cons_iff]
  simp only [List.not_lt_nil, and_false, or_false]
  omega
def sds (n : Nat) : List Sd := (List.range n).flatMap fun f => (List.range 4).map fun i => (f, i)
theorem mem_sds {n : Nat} {p : Sd} : p ∈ sds n ↔ p.1 < n ∧ p.2 < 4 := by
  unfold sds
  rw [List.mem_flatMap]
  constructor
  · rintro ⟨f, hf, h⟩
    obtain ⟨i, hi, rfl⟩ := List.mem_map.mp h
    exact ⟨List.mem_range.mp hf, List.mem_range.mp hi⟩
  · intro ⟨h1, h2⟩
    exact ⟨p.1, List.mem_range.mpr h1, List.mem_map.mpr ⟨p.2, List.mem_range.mpr h2, rfl⟩⟩
theorem sds_succ (n : Nat) : sds (n + 1) = sds n ++ (List.range 4).map fun i => (n, i) := by
  unfold sds
  rw [List.range_succ (n := n), List.flatMap_append]
  simp
theorem sds_length : ∀ n, (sds n).length = 4 * n
  | 0 => rfl
  | n + 1 => by
    rw [sds_succ, List.length_append, sds_length n, List.length_map, List.length_range]
    omega
theorem sds_nodup : ∀ n, (sds n).Nodup
  | 0 => List.nodup_nil
  | n + 1 => by
    rw [sds_succ]
    refine List.nodup_append.mpr ⟨sds_nodup n, by simp [List.range_succ], fun a ha b hb e => ?_⟩
    subst e
    obtain ⟨i, _, rfl⟩ := List.mem_map.mp hb
    have := (mem_sds.mp ha).1
    simp at this
theorem filter_two {l : List Sd} (nd : l.Nodup) {p q : Sd → Bool} {a b : Sd} (ha : a ∈ l) (hb : b ∈ l) (hab : a ≠ b) (pa : p a = true) (pb : p b = true) (hq : ∀ x ∈ l, q x = true ↔ (p x = true ∧ x ≠ a ∧ x ≠ b)) :
    (l.filter q).length + 2 = (l.filter p).length := by
  have n1 : (a :: b :: l.filter q).Nodup := by
    refine List.nodup_cons.mpr ⟨fun h => ?_, List.nodup_cons.mpr ⟨fun h => ?_, nd.filter _⟩⟩
    · rcases List.mem_cons.mp h with h | h
      · exact hab h
      · have := List.mem_filter.mp h
        exact ((hq a this.1).mp this.2).2.1 rfl
    · have := List.mem_filter.mp h
      exact ((hq b this.1).mp this.2).2.2 rfl
  have n2 : (l.filter p).Nodup := nd.filter _
  have m : ∀ x, x ∈ a :: b :: l.filter q ↔ x ∈ l.filter p := fun x => by
    rw [List.mem_cons, List.mem_cons, List.mem_filter, List.mem_filter]
    constructor
    · rintro (rfl | rfl | ⟨h1, h2⟩)
      · exact ⟨ha, pa⟩
      · exact ⟨hb, pb⟩
      · exact ⟨h1, ((hq x h1).mp h2).1⟩
    · intro ⟨h1, h2⟩
      by_cases e1 : x = a
      · exact .inl e1
      · by_cases e2 : x = b
        · exact .inr (.inl e2)
        · exact .inr (.inr ⟨h1, (hq x h1).mpr ⟨h2, e1, e2⟩⟩)
  have l1 := nodup_len n1 fun x hx => (m x).mp hx
  have l2 := nodup_len n2 fun x hx => (m x).mpr hx
  simp only [List.length_cons] at l1 l2
  omega
abbrev PJ := Nat → Nat → Option Sd
def oD : Option Sd → D
  | none => .non
  | some p => T (pI p)
def prow (P : PJ) (f : Nat) : List D := (List.range 4).map fun i => oD (P f i)
def opn (P : PJ) (m : Nat) : List Sd := (sds m).filter fun p => (P p.1 p.2).isNone
theorem mem_opn {P : PJ} {m : Nat} {p : Sd} : p ∈ opn P m ↔ (p.1 < m ∧ p.2 < 4) ∧ P p.1 p.2 = none := by
  unfold opn
  rw [List.mem_filter, mem_sds, Option.isNone_iff_eq_none]
theorem opn_nodup (P : PJ) (m : Nat) : (opn P m).Nodup := (sds_nodup m).filter _
theorem opn_le (P : PJ) (m : Nat) : (opn P m).length ≤ 4 * m := by
  have := List.length_filter_le (fun p : Sd => (P p.1 p.2).isNone) (sds m)
  rw [sds_length] at this
  exact this
def upd1 (P : PJ) (a : Sd) (v : Option Sd) : PJ := fun f i => if (f, i) = a then v else P f i
theorem prow_len (P : PJ) (f : Nat) : (prow P f).length = 4 := by simp [prow]
theorem prow_at (P : PJ) (f : Nat) {i : Nat} (h : i < 4) : (prow P f)[i]? = some (oD (P f i)) := by simp [prow, h]
theorem prow_set (P : PJ) (a : Sd) (v : Option Sd) : (prow P a.1).set a.2 (oD v) = prow (upd1 P a v) a.1 := by
  refine List.ext_getElem? fun k => ?_
  rw [List.getElem?_set, prow_len]
  by_cases hk : k < 4
  · rw [prow_at _ _ hk, prow_at _ _ hk]
    by_cases e : a.2 = k
    · subst e
      rw [if_pos rfl, if_pos hk]
      show _ = some (oD (if (a.1, a.2) = a then v else P a.1 a.2))
      rw [if_pos rfl]
    · rw [if_neg e]
      show _ = some (oD (if (a.1, k) = a then v else P a.1 k))
      rw [if_neg (fun z => e (by rw [← z]))]
  · have h1 : (prow P a.1)[k]? = none := List.getElem?_eq_none (by rw [prow_len]; omega)
    have h2 : (prow (upd1 P a v) a.1)[k]? = none := List.getElem?_eq_none (by rw [prow_len]; omega)
    rw [h1, h2]
    split
    · rw [if_neg (by omega)]
    · rfl
theorem prow_ne (P : PJ) {a : Sd} (v : Option Sd) {f : Nat} (h : f ≠ a.1) : prow (upd1 P a v) f = prow P f := by
  unfold prow
  congr 1
  funext i
  show oD (if (f, i) = a then v else P f i) = _
  rw [if_neg (fun z => h (by rw [← z]))]
structure RowsAt (hp : Hd) (r0 R n : Nat) (P : PJ) : Prop where
  lst : hp[R]? = some (.lst ((List.range n).map fun f => D.ref (r0 + f)))
  row : ∀ f, f < n → hp[r0 + f]? = some (.lst (prow P f))
theorem RowsAt.old {hp l : Hd} {r0 R n : Nat} {P : PJ} (h : RowsAt hp r0 R n P) : RowsAt (hp ++ l) r0 R n P := ⟨hget_old h.lst, fun f hf => hget_old (h.row f hf)⟩
theorem RowsAt.set {hp : Hd} {r0 R n k : Nat} {P : PJ} {o : O} (h : RowsAt hp r0 R n P) (hR : k ≠ R) (hr : ∀ f, f < n → k ≠ r0 + f) : RowsAt (hp.set k o) r0 R n P := ⟨hset_ne hR h.lst, fun f hf => hset_ne (hr f hf) (h.row f hf)⟩
theorem RowsAt.put {hp : Hd} {r0 R n : Nat} {P : PJ} (h : RowsAt hp r0 R n P) {a : Sd} (v : Option Sd) (ha : a.1 < n) (hR : r0 + a.1 ≠ R) : RowsAt (hp.set (r0 + a.1) (.lst ((prow P a.1).set a.2 (oD v)))) r0 R n (upd1 P a v) := by
  refine ⟨hset_ne hR h.lst, fun f hf => ?_⟩
  by_cases e : f = a.1
  · subst e
    rw [hset_same (h.row _ hf), prow_set]
  · rw [prow_ne P v e]
    exact hset_ne (by omega) (h.row f hf)
theorem RowsAt.at_ {hp : Hd} {r0 R n f : Nat} {P : PJ} (h : RowsAt hp r0 R n P) (hf : f < n) : gIx (.ref R) (.int (f : Nat)) hp = some (.ref (r0 + f), hp) :=
  gIx_refN (j := f) h.lst (x := .ref (r0 + f)) (by rw [List.getElem?_map, List.getElem?_range hf]; rfl)
theorem gIs_oD (x : Option Sd) (hp : Hd) : gIs (oD x) .non hp = some (.bl x.isNone, hp) := by cases x <;> rfl
def opnL (P : PJ) (d : List Nat) : List Sd := d.flatMap fun f => ((List.range 4).filter fun i => (P f i).isNone).map fun i => (f, i)
theorem opnL_range (P : PJ) (m : Nat) : opnL P (List.range m) = opn P m := by
  unfold opnL opn sds
  rw [List.filter_flatMap]
  congr 1
  funext f
  rw [List.filter_map]
  rfl
theorem opnL_len (P : PJ) (d : List Nat) : (opnL P d).length ≤ 4 * d.length := by
  induction d with
  | nil => exact Nat.zero_le _
  | cons x d ih =>
    have := List.length_filter_le (fun i => (P x i).isNone) (List.range 4)
    rw [List.length_range] at this
    unfold opnL at *
    rw [List.flatMap_cons, List.length_append, List.length_map, List.length_cons]
    omega
def upJ (P : PJ) (a b : Sd) : PJ := fun f i => if (f, i) = a then some b else if (f, i) = b then some a else P f i
theorem upJ_a (P : PJ) (a b : Sd) : upJ P a b a.1 a.2 = some b := if_pos rfl
theorem upJ_b (P : PJ) {a b : Sd} (h : a ≠ b) : upJ P a b b.1 b.2 = some a := by
  unfold upJ
  rw [if_neg (fun z => h z.symm), if_pos rfl]
theorem upJ_o (P : PJ) {a b p : Sd} (h1 : p ≠ a) (h2 : p ≠ b) : upJ P a b p.1 p.2 = P p.1 p.2 := by
  unfold upJ
  rw [if_neg h1, if_neg h2]
theorem upd_two (P : PJ) {a b : Sd} (h : a ≠ b) : upd1 (upd1 P a (some b)) b (some a) = upJ P a b := by
  funext f i
  unfold upd1 upJ
  by_cases e1 : (f, i) = a
  · rw [if_neg (fun z => h (e1.symm.trans z)), if_pos e1, if_pos e1]
  · rw [if_neg e1, if_neg e1]
theorem RowsAt.two {hp : Hd} {r0 R n : Nat} {P : PJ} (h : RowsAt hp r0 R n P) {a b : Sd} (hab : a ≠ b) (ha : a.1 < n) (hb : b.1 < n) (hR : ∀ f, f < n → r0 + f ≠ R) (ha2 : a.2 < 4) (hb2 : b.2 < 4) :
    ∃ hp1 hp2, gSet (.ref (r0 + a.1)) (.int (a.2 : Nat)) (T (pI b)) hp = some hp1 ∧ RowsAt hp1 r0 R n (upd1 P a (some b)) ∧ gSet (.ref (r0 + b.1)) (.int (b.2 : Nat)) (T (pI a)) hp1 = some hp2 ∧ RowsAt hp2 r0 R n (upJ P a b) ∧ (∀ k, (∀ f, f < n → k ≠ r0 + f) → hp2[k]? = hp[k]?) ∧ hp2.length = hp.length := by
  have h1 := h.put (some b) ha (hR _ ha)
  have h2 := h1.put (some a) hb (hR _ hb)
  rw [upd_two P hab] at h2
  refine ⟨_, _, gSet_nat (h.row _ ha) (by rw [prow_len]; exact ha2), h1, gSet_nat (h1.row _ hb) (by rw [prow_len]; exact hb2), h2, fun k hk => ?_, by rw [List.length_set, List.length_set]⟩
  rw [List.getElem?_set_ne (Ne.symm (hk _ hb)), List.getElem?_set_ne (Ne.symm (hk _ ha))]
theorem opn_up {P : PJ} {m : Nat} {a b : Sd} (ha : a ∈ opn P m) (hb : b ∈ opn P m) (hab : a ≠ b) : (opn (upJ P a b) m).length + 2 = (opn P m).length := by
  obtain ⟨a1, a2⟩ := mem_opn.mp ha
  obtain ⟨b1, b2⟩ := mem_opn.mp hb
  refine filter_two (sds_nodup m) (mem_sds.mpr a1) (mem_sds.mpr b1) hab (by rw [a2]; rfl) (by rw [b2]; rfl) fun x _ => ?_
  by_cases e1 : x = a
  · subst e1
    rw [upJ_a]
    simp
  · by_cases e2 : x = b
    · subst e2
      rw [upJ_b P hab]
      simp
    · rw [upJ_o P e1 e2]
      simp [e1, e2]
theorem opn_succ {P : PJ} {m : Nat} (h : ∀ i, P m i = none) : (opn P (m + 1)).length = (opn P m).length + 4 := by
  unfold opn
  have e : ((List.range 4).map fun i => (m, i)).filter (fun p : Sd => (P p.1 p.2).isNone) = (List.range 4).map fun i => (m, i) := List.filter_eq_self.mpr (fun x hx => by
    obtain ⟨i, _, rfl⟩ := List.mem_map.mp hx
    rw [h i]
    rfl)
  rw [sds_succ, List.filter_append, List.length_append, e, List.length_map, List.length_range]
def PM (n : Nat) (P : PJ) : Prop := ∀ f i p, f < n → i < 4 → P f i = some p → p.1 < n ∧ p.2 < 4 ∧ P p.1 p.2 = some (f, i) ∧ p ≠ (f, i)
theorem PM.up {n : Nat} {P : PJ} {a b : Sd} (h : PM n P) (hab : a ≠ b) (ha : a ∈ opn P n) (hb : b ∈ opn P n) : PM n (upJ P a b) := by
  obtain ⟨a1, a2⟩ := mem_opn.mp ha
  obtain ⟨b1, b2⟩ := mem_opn.mp hb
  intro f i p hf hi e
  by_cases e1 : (f, i) = a
  · have e2 : upJ P a b f i = some b := if_pos e1
    rw [e2] at e
    cases e
    exact ⟨b1.1, b1.2, by rw [upJ_b P hab, e1], fun z => hab (z.trans e1).symm⟩
  · by_cases e2 : (f, i) = b
    · subst e2
      have e3 : upJ P a (f, i) f i = some a := upJ_b P hab
      rw [e3] at e
      cases e
      exact ⟨a1.1, a1.2, by rw [upJ_a], fun z => hab z⟩
    · have e3 : upJ P a b f i = P f i := upJ_o P (p := (f, i)) e1 e2
      rw [e3] at e
      obtain ⟨h1, h2, h3, h4⟩ := h f i p hf hi e
      refine ⟨h1, h2, ?_, h4⟩
      rw [upJ_o P (fun z => by rw [z, a2] at h3; cases h3) (fun z => by rw [z, b2] at h3; cases h3), h3]
def Lnk (m : Nat) (P : PJ) : Prop := ∀ f, 0 < f → f < m → ∃ i p, i < 4 ∧ P f i = some p ∧ p.1 < f
theorem Lnk.up {m : Nat} {P : PJ} {a b : Sd} (h : Lnk m P) (ha : P a.1 a.2 = none) (hb : P b.1 b.2 = none) : Lnk m (upJ P a b) := fun f h0 hf => by
  obtain ⟨i, p, hi, e, hp⟩ := h f h0 hf
  exact ⟨i, p, hi, by rw [upJ_o P (p := (f, i)) (fun z => by rw [← z] at ha; rw [ha] at e; cases e) (fun z => by rw [← z] at hb; rw [hb] at e; cases e), e], hp⟩
structure Skin (n : Nat) (J : Nat → Nat → Sd) : Prop where
  pos : 0 < n
  rng : ∀ f i, f < n → i < 4 → (J f i).1 < n ∧ (J f i).2 < 4
  inv : ∀ f i, f < n → i < 4 → J (J f i).1 (J f i).2 = (f, i)
  ne : ∀ f i, f < n → i < 4 → J f i ≠ (f, i)
  con : ∀ f, 0 < f → f < n → ∃ i, i < 4 ∧ (J f i).1 < f
def endJ (P : PJ) : Nat → Nat → Sd := fun f i => (P f i).getD (0, 0)
theorem skin_of {n : Nat} {P : PJ} (h0 : 0 < n) (h : PM n P) (hl : Lnk n P) (hn : opn P n = []) : Skin n (endJ P) := by
  have all : ∀ f i, f < n → i < 4 → P f i = some (endJ P f i) := fun f i hf hi => by
    cases e : P f i with
    | none =>
      have : (f, i) ∈ opn P n := mem_opn.mpr ⟨⟨hf, hi⟩, e⟩
      rw [hn] at this
      cases this
    | some p => simp [endJ, e]
  refine ⟨h0, fun f i hf hi => ?_, fun f i hf hi => ?_, fun f i hf hi => ?_, fun f hf0 hf => ?_⟩
  · obtain ⟨h1, h2, _, _⟩ := h f i _ hf hi (all f i hf hi)
    exact ⟨h1, h2⟩
  · obtain ⟨h1, h2, h3, _⟩ := h f i _ hf hi (all f i hf hi)
    have := all _ _ h1 h2
    rw [h3] at this
    exact (Option.some.inj this).symm
  · exact (h f i _ hf hi (all f i hf hi)).2.2.2
  · obtain ⟨i, p, hi, e, hp⟩ := hl f hf0 hf
    refine ⟨i, hi, ?_⟩
    rw [all f i hf hi] at e
    cases e
    exact hp
def rowI (J : Nat → Nat → Sd) (f : Nat) : List (List Int) := (List.range 4).map fun i => pI (J f i)
def skI (n : Nat) (J : Nat → Nat → Sd) : List (List (List Int)) := (List.range n).map (rowI J)
def skD (n : Nat) (J : Nat → Nat → Sd) : D := TTT (skI n J)
theorem skD_tup (n : Nat) (J : Nat → Nat → Sd) : skD n J = .tup ((List.range n).map fun f => TT (rowI J f)) := by
  unfold skD TTT skI
  rw [List.map_map]
  rfl
theorem rowI_tup (J : Nat → Nat → Sd) (f : Nat) : TT (rowI J f) = .tup ((List.range 4).map fun i => T (pI (J f i))) := by
  unfold TT rowI
  rw [List.map_map]
  rfl
theorem nr_sk (n : Nat) (J : Nat → Nat → Sd) : nr (skD n J) = true := nr_TTT _
section
variable {n : Nat} {J : Nat → Nat → Sd} {hp : Hd} {f i : Nat}
theorem gIx_sk (h : f < n) : gIx (skD n J) (.int (f : Nat)) hp = some (TT (rowI J f), hp) := by
  rw [skD_tup]
  exact gIx_tupN (by simp [h])
theorem gIx_row (h : i < 4) : gIx (TT (rowI J f)) (.int (i : Nat)) hp = some (T (pI (J f i)), hp) := by
  rw [rowI_tup]
  exact gIx_tupN (by simp [h])
theorem gLen_sk : gLen [skD n J] hp = some (.int (n : Nat), hp) := by
  rw [skD_tup]
  show some (D.int (((List.range n).map fun f => TT (rowI J f)).length : Nat), hp) = _
  rw [List.length_map, List.length_range]
end
theorem enumD_range (g : Nat → D) (n : Nat) : enumD ((List.range n).map g) = (List.range n).map fun k => D.tup [.int (k : Nat), g k] := by
  refine List.ext_getElem? fun k => ?_
  simp only [enumD, List.getElem?_map, List.getElem?_zipIdx]
  by_cases h : k < n
  · simp [h]
  · simp [h]
theorem mEnum_sk {fa : AE} {ls : Ls} {hp hp1 : Hd} {n : Nat} {J : Nat → Nat → Sd} (e : fa ls hp = some (skD n J, hp1)) : mEnum fa ls hp = some ((List.range n).map fun f => D.tup [.int (f : Nat), TT (rowI J f)], [], hp1) := by
  rw [skD_tup] at e
  rw [mEnum_tup e, enumD_range]
theorem mEnum_row {fa : AE} {ls : Ls} {hp hp1 : Hd} {f : Nat} {J : Nat → Nat → Sd} (e : fa ls hp = some (TT (rowI J f), hp1)) : mEnum fa ls hp = some ((List.range 4).map fun i => D.tup [.int (i : Nat), T (pI (J f i))], [], hp1) := by
  rw [rowI_tup] at e
  rw [mEnum_tup e, enumD_range]
def sms (n : Nat) (J : Nat → Nat → Sd) : List Sd := (sds n).filter fun p => decide (pI p < pI (J p.1 p.2))
def smI (J : Nat → Nat → Sd) (p : Sd) : List Int := pI p ++ pI (J p.1 p.2)
theorem mem_sms {n : Nat} {J : Nat → Nat → Sd} {p : Sd} : p ∈ sms n J ↔ (p.1 < n ∧ p.2 < 4) ∧ pI p < pI (J p.1 p.2) := by
  unfold sms
  rw [List.mem_filter, mem_sds, decide_eq_true_eq]
theorem sms_nodup (n : Nat) (J : Nat → Nat → Sd) : (sms n J).Nodup := (sds_nodup n).filter _
theorem Skin.sms_length {n : Nat} {J : Nat → Nat → Sd} (h : Skin n J) : (sms n J).length = 2 * n := by
  let A := sms n J
  let B := (sds n).filter fun p => !decide (pI p < pI (J p.1 p.2))
  have hAB : A.length + B.length = 4 * n := by
    rw [← sds_length n]
    show ((sds n).filter fun p => decide (pI p < pI (J p.1 p.2))).length + ((sds n).filter fun p => !decide (pI p < pI (J p.1 p.2))).length = _
    induction sds n with
    | nil => rfl
    | cons x l ih =>
      rw [List.filter_cons, List.filter_cons]
      by_cases q : pI x < pI (J x.1 x.2)
      · simp [q] at ih ⊢
        omega
      · simp [q] at ih ⊢
        omega
  let g : Sd → Sd := fun p => J p.1 p.2
  have inj : ∀ {l : List Sd}, l.Nodup → (∀ x ∈ l, x ∈ sds n) → (l.map g).Nodup := by
    intro l hl hm
    refine List.Pairwise.map g (R := fun a b => a ∈ l ∧ b ∈ l ∧ a ≠ b) (fun a b ⟨ha, hb, hab⟩ e => hab ?_) ?_
    · have ha := mem_sds.mp (hm a ha)
      have hb := mem_sds.mp (hm b hb)
      have e1 := h.inv a.1 a.2 ha.1 ha.2
      have e2 := h.inv b.1 b.2 hb.1 hb.2
      have e3 : J a.1 a.2 = J b.1 b.2 := e
      rw [e3, e2] at e1
      exact e1.symm
    · exact List.Pairwise.imp_of_mem (fun ha hb hab => ⟨ha, hb, hab⟩) hl
  have memA : ∀ x ∈ A, x ∈ sds n := fun x hx => (List.mem_filter.mp hx).1
  have memB : ∀ x ∈ B, x ∈ sds n := fun x hx => (List.mem_filter.mp hx).1
  have l1 : A.length ≤ B.length := by
    have := nodup_len (inj (sms_nodup n J) memA) (m := B) fun y hy => by
      obtain ⟨x, hx, rfl⟩ := List.mem_map.mp hy
      obtain ⟨⟨h1, h2⟩, h3⟩ := mem_sms.mp hx
      obtain ⟨r1, r2⟩ := h.rng x.1 x.2 h1 h2
      refine List.mem_filter.mpr ⟨mem_sds.mpr ⟨r1, r2⟩, ?_⟩
      show (!decide (pI (J x.1 x.2) < pI (J (J x.1 x.2).1 (J x.1 x.2).2))) = true
      rw [h.inv x.1 x.2 h1 h2]
      rw [pI_lt] at h3
      simp only [Bool.not_eq_true', decide_eq_false_iff_not, pI_lt]
      omega
    rwa [List.length_map] at this
  have l2 : B.length ≤ A.length := by
    have := nodup_len (inj ((sds_nodup n).filter _) memB) (m := A) fun y hy => by
      obtain ⟨x, hx, rfl⟩ := List.mem_map.mp hy
      obtain ⟨hs, h3⟩ := List.mem_filter.mp hx
      obtain ⟨h1, h2⟩ := mem_sds.mp hs
      obtain ⟨r1, r2⟩ := h.rng x.1 x.2 h1 h2
      refine mem_sms.mpr ⟨⟨r1, r2⟩, ?_⟩
      show pI (J x.1 x.2) < pI (J (J x.1 x.2).1 (J x.1 x.2).2)
      rw [h.inv x.1 x.2 h1 h2]
      have hne := h.ne x.1 x.2 h1 h2
      simp only [Bool.not_eq_true', decide_eq_false_iff_not, pI_lt] at h3
      rw [pI_lt]
      have : ¬ ((J x.1 x.2).1 = x.1 ∧ (J x.1 x.2).2 = x.2) := fun ⟨z1, z2⟩ => hne (Prod.ext z1 z2)
      show (J x.1 x.2).1 < x.1 ∨ (J x.1 x.2).1 = x.1 ∧ (J x.1 x.2).2 < x.2
      omega
    rwa [List.length_map] at this
  show A.length = 2 * n
  omega
end Ve
namespace Ve
open PySem PySem.Spec L2
theorem if_ev {ft : AT} {f g : AS} {ls : Ls} {hp hp1 : Hd} {b : Bool} {r : Option (Fl × Ls × Hd)} (e : ft ls hp = some (b, hp1)) (e2 : (if b = true then f else g) ls hp1 = r) : sIf ft f g ls hp = r := by
  cases b
  · exact sIf_f e e2
  · exact sIf_t e e2
def smf (J : Nat → Nat → Sd) (f : Nat) (l : List Nat) : List Sd := (l.filter fun i => decide (pI (f, i) < pI (J f i))).map fun i => (f, i)
theorem smf_range (J : Nat → Nat → Sd) (n : Nat) : ((List.range n).flatMap fun f => smf J f (List.range 4)) = sms n J := by
  unfold sms sds
  rw [List.filter_flatMap]
  congr 1
  funext f
  rw [List.filter_map]
  rfl
theorem smf_len (J : Nat → Nat → Sd) (f : Nat) (l : List Nat) : (smf J f l).length ≤ l.length := by
  unfold smf
  rw [List.length_map]
  exact List.length_filter_le _ _
theorem smfs_len (J : Nat → Nat → Sd) : ∀ d : List Nat, (d.flatMap fun f => smf J f (List.range 4)).length ≤ 4 * d.length
  | [] => Nat.zero_le _
  | x :: d => by
    have h1 := smf_len J x (List.range 4)
    have h2 := smfs_len J d
    rw [List.flatMap_cons, List.length_append, List.length_cons]
    rw [List.length_range] at h1
    omega
end Ve
namespace Ve
open PySem PySem.Spec L2
theorem ife_ev {ft : AT} {fa fb : AE} {ls : Ls} {hp hp1 : Hd} {b : Bool} {r : Option (D × Hd)} (e : ft ls hp = some (b, hp1)) (e2 : (if b = true then fa else fb) ls hp1 = r) : mIfE ft fa fb ls hp = r := by
  rw [mIfE_s2, e]
  cases b <;> exact e2
def joinG (L : List Int) (a b : Nat) : List Int := L.map fun z => if z = max (L.getD a 0) (L.getD b 0) then min (L.getD a 0) (L.getD b 0) else z
theorem joinG_len (L : List Int) (a b : Nat) : (joinG L a b).length = L.length := by unfold joinG; rw [List.length_map]
def smAt (n : Nat) (J : Nat → Nat → Sd) (k : Int) : Sd := (sms n J).getD k.toNat (0, 0)
def grpS (n : Nat) (J : Nat → Nat → Sd) (L : List Int) (k : Int) : List Int := joinG L (smAt n J k).1 (J (smAt n J k).1 (smAt n J k).2).1
def grpI (n : Nat) (J : Nat → Nat → Sd) (ks : List Int) : List Int := ks.foldl (grpS n J) ((List.range n).map fun k : Nat => (k : Int))
theorem grpI_len (n : Nat) (J : Nat → Nat → Sd) (ks : List Int) : (grpI n J ks).length = n := by
  unfold grpI
  have : ∀ (ks : List Int) (L : List Int), (ks.foldl (grpS n J) L).length = L.length := by
    intro ks
    induction ks with
    | nil => intro L; rfl
    | cons k ks ih =>
      intro L
      rw [List.foldl_cons, ih]
      exact joinG_len _ _ _
  rw [this, List.length_map, List.length_range]
theorem gIx_ints {hp : Hd} {k a : Nat} {L : List Int} (h : hp[k]? = some (.lst (L.map D.int))) (ha : a < L.length) : gIx (.ref k) (.int (a : Nat)) hp = some (.int (L.getD a 0), hp) :=
  gIx_refN (j := a) h (by rw [List.getElem?_map, List.getElem?_eq_getElem ha, List.getD_eq_getElem?_getD, List.getElem?_eq_getElem ha]; rfl)
theorem gMin2_max {hp : Hd} {a b : Int} : gMin2 [.int a, .int b] hp = some (.int (min a b), hp) := by
  show some (D.int (if b < a then b else a), hp) = _
  rw [Int.min_def]
  congr 3
  split <;> split <;> omega
theorem gMax2_max {hp : Hd} {a b : Int} : gMax2 [.int a, .int b] hp = some (.int (max a b), hp) := by
  show some (D.int (if b > a then b else a), hp) = _
  rw [Int.max_def]
  congr 3
  split <;> split <;> omega
def smD (n : Nat) (J : Nat → Nat → Sd) : List D := ((sms n J).map (smI J)).map T
theorem smD_at {n : Nat} {J : Nat → Nat → Sd} {k : Int} (h : 0 ≤ k ∧ k < (sms n J).length) : atI (smD n J) k = some (T (smI J (smAt n J k))) := by
  have hk : k.toNat < (sms n J).length := by omega
  have hk2 : k.toNat < (smD n J).length := by unfold smD; rw [List.length_map, List.length_map]; exact hk
  rw [atI_i ⟨h.1, by unfold smD; rw [List.length_map, List.length_map]; exact h.2⟩]
  unfold smD smAt
  rw [List.getElem_map, List.getElem_map, List.getD_eq_getElem?_getD, List.getElem?_eq_getElem hk]
  rfl
theorem gIx_sm {hp : Hd} {q n : Nat} {J : Nat → Nat → Sd} (h : hp[q]? = some (.lst (smD n J))) {k : Int} (hk : 0 ≤ k ∧ k < (sms n J).length) : gIx (.ref q) (.int k) hp = some (T (smI J (smAt n J k)), hp) := by
  rw [gIx_ref h, smD_at hk]
theorem smAt_mem {n : Nat} {J : Nat → Nat → Sd} {k : Int} (h : 0 ≤ k ∧ k < (sms n J).length) : smAt n J k ∈ sms n J := by
  unfold smAt
  rw [List.getD_eq_getElem?_getD, List.getElem?_eq_getElem (by omega)]
  exact List.getElem_mem _
end Ve
namespace Ve
open PySem PySem.Spec L2
def manyB (n : Nat) (J : Nat → Nat → Sd) (ks L : List Int) (lot : Int) : Nat := (ks.filter fun k => L.getD (smAt n J k).1 0 == lot).length
def lotR (n : Nat) (J : Nat → Nat → Sd) (ks L : List Int) (lot : Int) : Bool := decide ((L.count lot : Int) ≤ (manyB n J ks L lot : Nat))
def goesR (n : Nat) (J : Nat → Nat → Sd) (ks : List Int) : Bool := (srtS (grpI n J ks)).any fun lot => lotR n J ks (grpI n J ks) lot
theorem bls_map {α : Type} (f : α → Bool) : ∀ l : List α, bls? (l.map fun x => D.bl (f x)) = some (l.map f)
  | [] => rfl
  | x :: l => by
    show (bls? (l.map fun x => D.bl (f x))).map (f x :: ·) = _
    rw [bls_map f l]
    rfl
theorem gAny_map {α : Type} (f : α → Bool) (l : List α) (hp : Hd) : gAny (l.map fun x => D.bl (f x)) hp = some (.bl (l.any f), hp) := by
  unfold gAny
  rw [bls_map]
  dsimp only
  rw [List.any_map]
  rfl
theorem gAll_map {α : Type} (f : α → Bool) (l : List α) (hp : Hd) : gAll (l.map fun x => D.bl (f x)) hp = some (.bl (l.all f), hp) := by
  unfold gAll
  rw [bls_map]
  dsimp only
  rw [List.all_map]
  rfl
theorem srtS_len (l : List Int) : (srtS l).length ≤ l.length := nodup_len (lt_nodup srtS_lt) fun _ h => mem_srtS.mp h
theorem sortedSet_of {fa : AE} {ls : Ls} {hp hp1 : Hd} {q : Nat} {L : List Int} (e : fa ls hp = some (.ref q, hp1)) (h : hp1[q]? = some (.lst (L.map D.int))) (hl : L.length < 64) : mSortedSet fa ls hp = some ((srtS L).map D.int, hp1) := by
  unfold mSortedSet
  rw [e]
  dsimp only
  rw [lstOf_ref h]
  dsimp only
  unfold setD
  rw [intsD_map]
  dsimp only
  rw [if_pos (by omega)]
  dsimp only
  rw [if_pos (by have := srtS_len L; omega)]
theorem gCnt_ints {hp : Hd} {q : Nat} {L : List Int} (h : hp[q]? = some (.lst (L.map D.int))) (k : Int) : gCnt (.ref q) [.int k] hp = some (.int (L.count k : Nat), hp) := by
  unfold gCnt
  dsimp only
  rw [h]
  dsimp only
  rw [intsD_map]
theorem while_ret {c : AT} {b : AS} {n : Nat} {ls ls' : Ls} {hp hp1 hp' : Hd} {d : D} (e : c ls hp = some (true, hp1)) (e2 : b ls hp1 = some (.rt d, ls', hp')) : sWhile c b (n + 1) ls hp = some (.rt d, ls', hp') := by
  rw [sWhile, e]
  dsimp only
  rw [e2]
theorem while_go {c : AT} {b : AS} {n : Nat} {ls ls1 : Ls} {hp hp1 hp2 : Hd} {r : Option (Fl × Ls × Hd)} (e : c ls hp = some (true, hp1)) (e2 : b ls hp1 = some (.nx, ls1, hp2)) (e3 : sWhile c b n ls1 hp2 = r) : sWhile c b (n + 1) ls hp = r := by
  rw [sWhile, e]
  dsimp only
  rw [e2]
  exact e3
theorem seq_ret {f g : AS} {ls ls' : Ls} {hp hp' : Hd} {d : D} (e : f ls hp = some (.rt d, ls', hp')) : sSeq f g ls hp = some (.rt d, ls', hp') := by
  rw [sSeq_s, e]
end Ve
namespace Ve
open PySem PySem.Spec L2
theorem mList_ev {fa : AE} {ls : Ls} {hp hp1 : Hd} {d : D} {r : Option (List D × Hd)} (e : fa ls hp = some (d, hp1)) (e2 : gListO d hp1 = r) : mList fa ls hp = r := by
  rw [mList_s, e]
  exact e2
end Ve
namespace Ve
open PySem PySem.Spec L2
theorem gIn_Ti {hp : Hd} (a : Int) (xs : List Int) : gIn (.int a) (T xs) hp = some (.bl (decide (a ∈ xs)), hp) := by
  have h1 : (xs.map D.int).all flatD = true := by
    rw [List.all_map, List.all_eq_true]
    intro x _
    rfl
  have e : inB (.int a) (T xs) hp = some (decide (a ∈ xs)) := by
    show (if (flatD (.int a) && (xs.map D.int).all flatD) = true then some ((xs.map D.int).any fun z => eqF z (.int a)) else inL hp (.int a) (xs.map D.int)) = _
    rw [h1, if_pos (by rfl)]
    congr 1
    rw [List.any_map, Bool.eq_iff_iff, List.any_eq_true, decide_eq_true_eq]
    constructor
    · rintro ⟨x, hx, e⟩
      have : x = a := by simpa [eqF] using e
      rw [← this]
      exact hx
    · intro h
      exact ⟨a, h, by simp [eqF]⟩
  unfold gIn
  rw [e]
theorem andV_f {fa fb : AE} {ls : Ls} {hp hp1 : Hd} (e : fa ls hp = some (.bl false, hp1)) : mAndV fa fb ls hp = some (.bl false, hp1) := by
  rw [mAndV_s2, e]
  rfl
theorem andV_t {fa fb : AE} {ls : Ls} {hp hp1 : Hd} {r : Option (D × Hd)} (e : fa ls hp = some (.bl true, hp1)) (e2 : fb ls hp1 = r) : mAndV fa fb ls hp = r := by
  rw [mAndV_s2, e]
  exact e2
theorem and_f {fa fb : AT} {ls : Ls} {hp hp1 : Hd} (e : fa ls hp = some (false, hp1)) : mAnd fa fb ls hp = some (false, hp1) := by
  rw [mAnd_s2, e]
  rfl
theorem and_t {fa fb : AT} {ls : Ls} {hp hp1 : Hd} {r : Option (Bool × Hd)} (e : fa ls hp = some (true, hp1)) (e2 : fb ls hp1 = r) : mAnd fa fb ls hp = r := by
  rw [mAnd_s2, e]
  exact e2
theorem or_f {fa fb : AT} {ls : Ls} {hp hp1 : Hd} {r : Option (Bool × Hd)} (e : fa ls hp = some (false, hp1)) (e2 : fb ls hp1 = r) : mOr fa fb ls hp = r := by
  rw [mOr_s2, e]
  exact e2
theorem or_t {fa fb : AT} {ls : Ls} {hp hp1 : Hd} (e : fa ls hp = some (true, hp1)) : mOr fa fb ls hp = some (true, hp1) := by
  rw [mOr_s2, e]
  rfl
theorem isi_ev {T : String} {fa : AE} {ls : Ls} {hp hp1 : Hd} {x : D} {r : Option (D × Hd)} (e : fa ls hp = some (x, hp1)) (e2 : gIsi T [x] hp1 = r) : mIsi T fa ls hp = r := by
  rw [mIsi_s, e]
  exact e2
theorem chain_f {fa fb fc : AE} {g g' : D → D → Hd → Option (D × Hd)} {ls : Ls} {hp hp1 hp2 hp3 : Hd} {x y : D} (e1 : fa ls hp = some (x, hp1)) (e2 : fb ls hp1 = some (y, hp2)) (e3 : g x y hp2 = some (.bl false, hp3)) : mChain fa fb fc g g' ls hp = some (.bl false, hp3) := by
  unfold mChain
  rw [e1]
  dsimp only
  rw [e2]
  dsimp only
  rw [e3]
theorem chain_t {fa fb fc : AE} {g g' : D → D → Hd → Option (D × Hd)} {ls : Ls} {hp hp1 hp2 hp3 hp4 : Hd} {x y z : D} {r : Option (D × Hd)} (e1 : fa ls hp = some (x, hp1)) (e2 : fb ls hp1 = some (y, hp2)) (e3 : g x y hp2 = some (.bl true, hp3)) (e4 : fc ls hp3 = some (z, hp4)) (e5 : g' y z hp4 = r) : mChain fa fb fc g g' ls hp = r := by
  unfold mChain
  rw [e1]
  dsimp only
  rw [e2]
  dsimp only
  rw [e3]
  dsimp only
  rw [e4]
  exact e5
theorem chain_int {fa fb fc : AE} {ls : Ls} {hp hp1 hp2 : Hd} {x y z : Int} {c1 c2 : Int → Int → Bool} {g g' : D → D → Hd → Option (D × Hd)} (h1 : ∀ i j hp, g (.int i) (.int j) hp = some (.bl (c1 i j), hp)) (h2 : ∀ i j hp, g' (.int i) (.int j) hp = some (.bl (c2 i j), hp))
    (e1 : fa ls hp = some (.int x, hp1)) (e2 : fb ls hp1 = some (.int y, hp2)) (e4 : fc ls hp2 = some (.int z, hp2)) : mChain fa fb fc g g' ls hp = some (.bl (c1 x y && c2 y z), hp2) := by
  cases hc : c1 x y
  · exact chain_f e1 e2 ((h1 x y hp2).trans (by rw [hc]))
  · exact chain_t e1 e2 ((h1 x y hp2).trans (by rw [hc])) e4 (h2 y z hp2)
end Ve
namespace Ve
open PySem PySem.Spec L2
theorem mLc_cond {α : Type} {fi : AI} {t : Tg} {own : List Nat} {tt : AT} {te : AE} {gd : Gd} {items : List α} {ls : Ls} {hp hp1 : Hd} (φ : α → D) (Inv : List α → List D → Hd → Prop) (ei : fi ls hp = some (items.map φ, gd, hp1)) (hl : items.length ≤ sizeLine) (hg : ∀ d o hp, Inv d o hp → gdOk gd hp = true) (h0 : Inv [] [] hp1)
    (step : ∀ (d : List α) (x : α) (r : List α) (o : List D) hp, items = d ++ x :: r → Inv d o hp → ∃ ls1, t.asg (φ x) (wipeL ls own) = some ls1 ∧ ((∃ hp2, tt ls1 hp = some (false, hp2) ∧ Inv (d ++ [x]) o hp2) ∨ ∃ hp2 y hp3, tt ls1 hp = some (true, hp2) ∧ te ls1 hp2 = some (y, hp3) ∧ Inv (d ++ [x]) (o ++ [y]) hp3)) :
    ∃ out hp', mLc fi t own tt te ls hp = some (out, hp') ∧ Inv items out hp' := by
  have key : ∀ (its done : List α) (o : List D) (hp : Hd), items = done ++ its → Inv done o hp → ∃ out hp', lcGo t gd tt te (wipeL ls own) (its.map φ) hp = some (out, hp') ∧ Inv items (o ++ out) hp' := by
    intro its
    induction its with
    | nil =>
      intro done o hp e h
      refine ⟨[], hp, by simp only [List.map_nil, lcGo, hg _ _ _ h, if_true], ?_⟩
      rw [e, List.append_nil, List.append_nil]
      exact h
    | cons x xs ih =>
      intro done o hp e h
      obtain ⟨ls1, e1, ⟨hp2, e2, h2⟩ | ⟨hp2, y, hp3, e2, e3, h2⟩⟩ := step done x xs o hp e h
      · obtain ⟨out, hp', e4, h3⟩ := ih (done ++ [x]) o hp2 (by rw [e, List.append_assoc]; rfl) h2
        refine ⟨out, hp', ?_, h3⟩
        simp only [List.map_cons, lcGo, hg _ _ _ h, if_true, e1, e2, e4]
      · obtain ⟨out, hp', e4, h3⟩ := ih (done ++ [x]) (o ++ [y]) hp3 (by rw [e, List.append_assoc]; rfl) h2
        refine ⟨y :: out, hp', ?_, by rw [List.append_assoc] at h3; exact h3⟩
        simp only [List.map_cons, lcGo, hg _ _ _ h, if_true, e1, e2, e3, e4]
  obtain ⟨out, hp', e, h⟩ := key items [] [] hp1 rfl h0
  refine ⟨out, hp', ?_, h⟩
  unfold mLc
  rw [ei]
  dsimp only
  rw [if_pos (by rw [List.length_map]; exact hl)]
  exact e
theorem head2_ok (lo hi : Nat) (hlo : lo ≤ 63) (hhi : hi ≤ 63) {ls : Ls} {ns : List Int} (h0 : ls[0]? = some (some (.scr ns))) (hp : Hd) :
    ∃ N : Nat, N ≤ 63 ∧ mR1 (mCons (mAs (mCons (mC (.int (lo : Nat))) (mCons (mAs (mCons (mAs (mCons (mVar 0) mNil) gLen) (mCons (mC (.int (hi : Nat))) mNil)) gMin2) mNil)) gMax2) mNil) ls hp = some ((List.range N).map fun i => D.int (i : Nat), [], hp) := by
  have e : ∀ a b : Int, 0 ≤ a → 0 ≤ b → b ≤ 63 → 0 ≤ min a b ∧ min a b ≤ 63 := fun a b h1 h2 h3 => by omega
  have h1 := e (ns.length : Int) (hi : Nat) (by omega) (by omega) (by omega)
  refine ⟨(max (lo : Int) (min (ns.length : Int) (hi : Nat))).toNat, by omega, ?_⟩
  rw [mR1_of (j := max (lo : Int) (min (ns.length : Int) (hi : Nat))) ?_ (by omega)]
  exact cons_of (as_of (cons_of mC_of (cons_of (as_of (cons_of (as_of (cons_of (mVar_of h0) rfl) rfl) (cons_of mC_of rfl)) gMin2_max) rfl)) gMax2_max) rfl
theorem catOL_of {fa : AE} {fm : AA} {ls : Ls} {hp hp1 hp2 : Hd} {k : Nat} {xs ys : List D} (e : fa ls hp = some (.ref k, hp1)) (e2 : fm ls hp1 = some (ys, hp2)) (h : hp2[k]? = some (.lst xs)) (hz : xs.length + ys.length ≤ 1000) : mCatOL fa fm ls hp = some (xs ++ ys, hp2) := by
  rw [mCatOL_s, e]
  dsimp only
  rw [e2]
  dsimp only
  rw [lstOf_ref h]
  dsimp only
  rw [if_pos (by rw [sizeLine_eq]; omega)]
theorem gGet_app {hp G : Hd} {k : Nat} {o : O} (h : G[k]? = some o) : (hp ++ G)[hp.length + k]? = some o := by
  rw [List.getElem?_append_right (by omega), Nat.add_sub_cancel_left]
  exact h
theorem alls_I (p : Nat → Bool) : ∀ xs : List Int, D.alls p (xs.map D.int) = true
  | [] => by rw [List.map_nil, D.alls]
  | x :: xs => by
    rw [List.map_cons, D.alls, D.all, alls_I p xs]
    rfl
theorem maps_I (f : Nat → Nat) : ∀ xs : List Int, D.maps f (xs.map D.int) = xs.map D.int
  | [] => by rw [List.map_nil, D.maps]
  | x :: xs => by
    rw [List.map_cons, D.maps, D.map, maps_I f xs]
theorem all_cons {α : Type} {P : α → Prop} {x : α} {l : List α} (h1 : P x) (h2 : ∀ y ∈ l, P y) : ∀ y ∈ x :: l, P y := fun y hy => by
  rcases List.mem_cons.mp hy with z | z
  · rw [z]; exact h1
  · exact h2 y z
theorem all_nil {α : Type} {P : α → Prop} : ∀ y ∈ ([] : List α), P y := fun y hy => by cases hy
end Ve
namespace Ve
open PySem PySem.Spec L2
theorem gNotIn_Ti {hp : Hd} (a : Int) (xs : List Int) : gNotIn (.int a) (T xs) hp = some (.bl (!decide (a ∈ xs)), hp) := by
  have h := gIn_Ti (hp := hp) a xs
  unfold gIn at h
  unfold gNotIn
  cases e : inB (.int a) (T xs) hp with
  | none => rw [e] at h; cases h
  | some b => rw [e] at h; cases h; rfl
end Ve
namespace Ve
open PySem PySem.Spec L2
theorem mIL_ev {fl : AA} {ls : Ls} {hp hp1 : Hd} {ds : List D} (e : fl ls hp = some (ds, hp1)) : mIL fl ls hp = some (ds, [], hp1) := by
  rw [mIL_s, e]
end Ve
namespace L2
open PySem PySem.Spec PyProof.Rows
def EnS (h : Heap) (e it : Addr) (i : Nat) : Prop := (∃ old, IsEnum h e it ((i : Nat) : Int) old) ∨ ∃ old T f oT, PySem.IsEnumHeld h e it ((i : Nat) : Int) old T f ∧ h.get? T = some oT ∧ T ≠ e ∧ T ≠ it
theorem EnS.keep {h h' : Heap} {e it : Addr} {i : Nat} (x : EnS h e it i) (k : ∀ b o, b = e ∨ b = it → h.get? b = some o → h'.get? b = some o) (there : ∀ b o, h.get? b = some o → ∃ u, h'.get? b = some u) : EnS h' e it i := by
  rcases x with ⟨old, he⟩ | ⟨old, T, f, oT, he, hT, r1, r2⟩
  · exact .inl ⟨old, k _ _ (.inl rfl) he⟩
  · obtain ⟨u, hu⟩ := there T oT hT
    exact .inr ⟨old, T, f, u, k _ _ (.inl rfl) he, hu, r1, r2⟩
theorem EnS.get {h : Heap} {e it : Addr} {i : Nat} (x : EnS h e it i) : ∃ o, h.get? e = some o ∧ o.cls = .type "enumerate" := by
  rcases x with ⟨old, he⟩ | ⟨old, T, f, oT, he, _⟩
  · exact ⟨_, he, rfl⟩
  · exact ⟨_, he, rfl⟩
section
variable {X : Cx} {pins : List (Addr × Obj)} {σ : St} {H : Hp} {s : Shared} {a e it S : Addr} {xs : List V}
structure EnI (X : Cx) (pins : List (Addr × Obj)) (σ : St) (H : Hp) (s : Shared) (a e it S : Addr) (xs : List V) (i : Nat) (acc : Array Value) (vs : List V) : Prop where
  inv : Inv X pins σ H s
  en : EnS s.heap e it i
  li : s.heap.IsListIter it a i
  src : SqL X.K H a xs
  fe : FpOk X pins H e
  fi : FpOk X pins H it
  fs : FpOk X pins H S
  at_ : ∃ c, s.heap.get? S = some { cls := .type "list", dict := none, data := .seq acc c, slots := #[] }
  val : Vals vs acc.toList
  len : vs.length = i
  tup : ∀ (j : Nat) (v : V), vs[j]? = some v → ∃ T x, v = .ref T ∧ H T = some (.tup [.int (j : Nat), x]) ∧ xs[j]? = some x
theorem FpOk.upd {H : Hp} {T b : Addr} {o : HO} (f : FpOk X pins H b) (h : b ≠ T) : FpOk X pins (upd H T o) b := ⟨by rw [upd_ne h]; exact f.1, f.2⟩
theorem en_next {Ax : Around} {i : Nat} {acc : Array Value} {vs : List V} {Q : Option Value → Shared → Prop} {E : Value → Shared → Prop} (J : EnI X pins σ H s a e it S xs i acc vs) (hne : e ≠ it) (hSe : S ≠ e) (hSi : S ≠ it) (hi : i < xs.length)
    (q : ∀ (T : Addr) (H' : Hp) (s' : Shared), Inv X pins σ H' s' → EnS s'.heap e it (i + 1) → s'.heap.IsListIter it a (i + 1) → SqL X.K H' a xs → FpOk X pins H' e → FpOk X pins H' it → FpOk X pins H' S → (∃ c, s'.heap.get? S = some { cls := .type "list", dict := none, data := .seq acc c, slots := #[] }) →
      (∀ (j : Nat) (v : V), (vs ++ [.ref T])[j]? = some v → ∃ T x, v = .ref T ∧ H' T = some (.tup [.int (j : Nat), x]) ∧ xs[j]? = some x) → (∀ c, H c = none → c ≠ T → H' c = none) → (∀ c u, H c = some u → H' c = some u) → H T = none → Q (some (.ref T)) s') :
    wpAny (model X.prog X.w) Ax (pyNext (.ref e)) Q E s := by
  obtain ⟨I, en, li, src, fe, fi, fs, ⟨c, hS⟩, val, len, tup⟩ := J
  obtain ⟨x, hx⟩ : ∃ x, xs[i]? = some x := ⟨xs[i], List.getElem?_eq_getElem hi⟩
  obtain ⟨its, rv, p, hz⟩ := I.list src
  obtain ⟨u, hu, ru⟩ := rv.get hx
  have hu' : its.toArray[i]? = some u := by simpa using hu
  obtain ⟨oe, hoe, _⟩ := en.get
  have hel : e < s.heap.objs.size := Heap.lt_size hoe
  have hil : it < s.heap.objs.size := by obtain ⟨_, q, _⟩ := li; exact Heap.lt_size q
  have hSl : S < s.heap.objs.size := Heap.lt_size hS
  have hT0 : H s.heap.objs.size = none := I.hok.fresh (Nat.le_refl _)
  have ec : ((i + 1 : Nat) : Int) = (i : Int) + 1 := by omega
  have fin : ∀ h', EnS h' e it (i + 1) → h'.IsListIter it a (i + 1) → h'.get? s.heap.objs.size = some { cls := .type "tuple", data := .seq #[.int i s.toks, u] } → (∀ b o, b ≠ e → b ≠ it → s.heap.get? b = some o → h'.get? b = some o) → Q (some (.ref s.heap.objs.size)) { s with heap := h', toks := s.toks + 1 } := fun h' en' li' hT hk => by
    have new : ObjOk X.prog X.w (upd H s.heap.objs.size (.tup [.int (i : Nat), x])) h' s.heap.objs.size (.tup [.int (i : Nat), x]) :=
      ⟨by show 2 ≤ sizeLine; decide, [.int i s.toks, u], .cons ⟨_, rfl⟩ (.cons ru .nil), ⟨_, hT, rfl, _, rfl⟩⟩
    have I1 : Inv X pins σ (upd H s.heap.objs.size (.tup [.int (i : Nat), x])) { s with heap := h', toks := s.toks + 1 } :=
      I.turnedNew (ch := [e, it]) (fun b ob hb q => hk b ob (fun z => hb (by simp [z])) (fun z => hb (by simp [z])) q) (fun b hb => by
        rcases (by simpa using hb : b = e ∨ b = it) with z | z
        · rw [z]; exact fe
        · rw [z]; exact fi) (Nat.le_refl _) new
    have src' : SqL X.K (upd H s.heap.objs.size (.tup [.int (i : Nat), x])) a xs := by
      rcases src with (h | ⟨o, h⟩) | h
      · exact .inl (.inl (by rw [upd_ne (ne_of_none h hT0)]; exact h))
      · exact .inl (.inr ⟨o, by rw [upd_ne (ne_of_none h hT0)]; exact h⟩)
      · exact .inr h
    refine q _ _ _ I1 en' li' src' (fe.upd (Nat.ne_of_lt hel)) (fi.upd (Nat.ne_of_lt hil)) (fs.upd (Nat.ne_of_lt hSl)) ⟨c, hk _ _ hSe hSi hS⟩ (fun j v hj => ?_) (fun c hc n => by rw [upd_ne n]; exact hc) (fun c u e => by rw [upd_ne (ne_of_none e hT0)]; exact e) hT0
    by_cases hjl : j < vs.length
    · rw [List.getElem?_append_left hjl] at hj
      obtain ⟨T, y, e1, e2, e3⟩ := tup j v hj
      exact ⟨T, y, e1, by rw [upd_ne (ne_of_none e2 hT0)]; exact e2, e3⟩
    · by_cases hje : j = vs.length
      · subst hje
        rw [List.getElem?_append_right (Nat.le_refl _), Nat.sub_self] at hj
        cases hj
        rw [len]
        exact ⟨_, x, rfl, upd_same, hx⟩
      · rw [List.getElem?_eq_none (by rw [List.length_append]; show vs.length + 1 ≤ j; omega)] at hj
        cases hj
  rcases en with ⟨old, he⟩ | ⟨old, T, f, oT, he, hT, r1, r2⟩
  · refine wpAny_pyNext_enum_item he li p.isList hu' hne fun h' ho li' hT hsz hk => fin h' (.inr ⟨u, s.heap.objs.size, false, _, by rw [ec]; exact ho, hT, Nat.ne_of_gt hel, Nat.ne_of_gt hil⟩) li' hT hk
  · refine PySem.wpAny_pyNext_enum_item_held he hT r1 r2 li p.isList hu' hne fun h' ho li' hT' hsz hk => fin h' (.inr ⟨old, T, true, oT, by rw [ec]; exact ho, hk _ _ r1 r2 hT, r1, r2⟩) li' hT' hk
theorem en_end {Ax : Around} {i : Nat} {acc : Array Value} {vs : List V} {Q : Option Value → Shared → Prop} {E : Value → Shared → Prop} (hh : Ax.handled = none) (J : EnI X pins σ H s a e it S xs i acc vs) (hi : i = xs.length)
    (q : ∀ h', Heap.ExtBut it s.heap h' → Q none { s with heap := h' }) : wpAny (model X.prog X.w) Ax (pyNext (.ref e)) Q E s := by
  obtain ⟨I, en, li, src, fe, fi, fs, at_, val, len, tup⟩ := J
  obtain ⟨its, rv, p, hz⟩ := I.list src
  have hl := rv.length
  have hx : its.toArray[i]? = none := by
    rw [Array.getElem?_eq_none]
    simp
    omega
  rcases en with ⟨old, he⟩ | ⟨old, T, f, oT, he, hT, r1, r2⟩
  · exact wpAny_pyNext_enum_end hh he li p.isList hx q
  · exact PySem.wpAny_pyNext_enum_end_held hh he li p.isList hx q
theorem en_loop {A : Around} (hh : A.handled = none) (hne : e ≠ it) (hSe : S ≠ e) (hSi : S ≠ it) {H0 : Hp} {R : Result → Shared → Prop}
    (fin : ∀ (H' : Hp) (s' : Shared) (vs' : List V), Inv X pins σ (upd H' S (.lst vs')) s' → (∀ c u, H0 c = some u → H' c = some u) → H' S = none → vs'.length = xs.length → (∀ (j : Nat) (v : V), vs'[j]? = some v → ∃ T x, v = .ref T ∧ H' T = some (.tup [.int (j : Nat), x]) ∧ xs[j]? = some x) → R (.ok (.ret .none)) s') :
    ∀ (k i : Nat) (H : Hp) (s : Shared) (acc : Array Value) (vs : List V), xs.length - i = k → i ≤ xs.length → EnI X pins σ H s a e it S xs i acc vs → (∀ c u, H0 c = some u → H c = some u) →
      codeAny (model X.prog X.w) A (.builtin "list.extend.loop" ⟨[.ref S, .ref e, .none], []⟩) R s := by
  intro k
  induction k with
  | zero =>
    intro i H s acc vs hk hi J keep
    have hin : i = xs.length := by omega
    refine codeAny_builtin PySem.F.entry_extend_loop ?_
    rw [Around.under_plainId PySem.F.plain_extend_loop _]
    refine wpAny_bind (en_end (Ax := A.in1) hh J hin fun h' hx => wpAny_pure ?_)
    obtain ⟨c, hS⟩ := J.at_
    have I1 : Inv X pins σ H { s with heap := h' } := J.inv.turnedL (ch := [it]) (t' := s.toks) (fun b o hb q => hx b o (fun z => hb (by simp [z])) q) fun b hb => by rw [show b = it by simpa using hb]; exact J.fi
    obtain ⟨its, rv, p, hz⟩ := J.inv.list J.src
    have new : ObjOk X.prog X.w (upd H S (.lst vs)) h' S (.lst vs) := ⟨by rw [J.len, hin]; exact hz, acc.toList, c, J.val, by rw [Array.toArray_toList]; exact hx _ _ hSi hS⟩
    have I2 : Inv X pins σ (upd H S (.lst vs)) { s with heap := h' } := I1.take (t' := s.toks) (fun b o _ q => q) J.fs new
    exact fin H _ vs I2 keep J.fs.1 (by rw [J.len, hin]) J.tup
  | succ k ih =>
    intro i H s acc vs hk hi J keep
    have hlt : i < xs.length := by omega
    obtain ⟨its, rv, p, hz⟩ := J.inv.list J.src
    refine codeAny_builtin PySem.F.entry_extend_loop ?_
    rw [Around.under_plainId PySem.F.plain_extend_loop _]
    refine wpAny_bind (en_next (Ax := A.in1) J hne hSe hSi hlt fun T H' s' I' en' li' src' fe' fi' fs' at' tup' old' keep' hT0 => ?_)
    obtain ⟨c, hS'⟩ := at'
    have hsz : acc.size = i := by
      have := J.val.length
      rw [J.len, Array.length_toList] at this
      exact this.symm
    show wpAny _ A.in1 (updateSeq S (·.push (.ref T)) >>= _) _ _ _
    refine wpAny_bind ?_
    have up : ∀ b o, b ≠ S → s'.heap.get? b = some o → (s'.heap.update S (Obj.mapSeq (·.push (Value.ref T)))).get? b = some o := fun b o hb q => (Heap.get?_update_other _ _ (Ne.symm hb)).trans q
    have self := Heap.get?_update_self (Obj.mapSeq (·.push (Value.ref T))) hS' rfl
    refine wpAny_updateSeq hS' rfl (wpAny_pure ⟨plainId_quiet PySem.F.plain_extend_loop _, ih (i + 1) H' _ (acc.push (.ref T)) (vs ++ [.ref T]) (by omega) hlt ⟨?_, ?_, ?_, src', fe', fi', fs', ⟨_, self⟩, ?_, ?_, tup'⟩ fun c u q => keep' c u (keep c u q)⟩) (by rw [hsz]; omega) (by show (acc.push (Value.ref T)).size ≤ sizeLine + 1; rw [Array.size_push, hsz]; omega)
    · exact I'.turnedL (ch := [S]) (t' := s'.toks) (fun b o hb q => up b o (fun z => hb (by simp [z])) q) fun b hb => by rw [show b = S by simpa using hb]; exact fs'
    · refine en'.keep (fun b o hb q => up b o (fun z => ?_) q) fun b o q => ?_
      · rcases hb with y | y
        · exact hSe (z.symm.trans y)
        · exact hSi (z.symm.trans y)
      · by_cases z : b = S
        · rw [z]; exact ⟨_, self⟩
        · exact ⟨o, up b o z q⟩
    · exact li'.at fun o q => up it o (Ne.symm hSi) q
    · rw [Array.toList_push]
      exact Vals.append J.val (.cons rfl .nil)
    · rw [List.length_append, J.len]
      rfl
theorem en_no_len : typeLookup (.type "enumerate") "__len__" = pure none := am_miss_of_fast (by decide +kernel)
theorem en_no_hint : typeLookup (.type "enumerate") "__length_hint__" = pure none := am_miss_of_fast (by decide +kernel)
theorem en_room {M : Model} {A : Around} {E : Value → Shared → Prop} {Q : Bool → Shared → Prop} (hT : s.TypeIs (.ref e) "enumerate") (h : Q true s) : wpAny M A (Builtin.List.listLengthHint (.ref e)) Q E s := by
  unfold Builtin.List.listLengthHint
  refine wpAny_bind (wpAny_specialOf hT en_no_len ?_)
  refine wpAny_bind (wpAny_specialOf hT en_no_hint ?_)
  exact wpAny_pure h
theorem EnI.touch {i : Nat} {acc : Array Value} {vs : List V} {h' : Heap} {c' : Nat} (J : EnI X pins σ H s a e it S xs i acc vs) (hSe : S ≠ e) (hSi : S ≠ it) (up : ∀ b o, b ≠ S → s.heap.get? b = some o → h'.get? b = some o) (self : h'.get? S = some { cls := .type "list", dict := none, data := .seq acc c', slots := #[] }) :
    EnI X pins σ H { s with heap := h' } a e it S xs i acc vs := by
  refine ⟨J.inv.turnedL (ch := [S]) (t' := s.toks) (fun b o hb q => up b o (fun z => hb (by simp [z])) q) fun b hb => by rw [show b = S by simpa using hb]; exact J.fs, J.en.keep (fun b o hb q => up b o (fun z => ?_) q) fun b o q => ?_, J.li.at fun o q => up it o (Ne.symm hSi) q, J.src, J.fe, J.fi, J.fs, ⟨c', self⟩, J.val, J.len, J.tup⟩
  · rcases hb with y | y
    · exact hSe (z.symm.trans y)
    · exact hSi (z.symm.trans y)
  · by_cases z : b = S
    · rw [z]; exact ⟨_, self⟩
    · exact ⟨o, up b o z q⟩
theorem en_type {i : Nat} {acc : Array Value} {vs : List V} (J : EnI X pins σ H s a e it S xs i acc vs) : s.TypeIs (.ref e) "enumerate" := let ⟨o, ho, hc⟩ := J.en.get; ⟨o, ho, hc⟩
theorem en_extend {A : Around} (hh : A.handled = none) (hne : e ≠ it) (hSe : S ≠ e) (hSi : S ≠ it) {R : Result → Shared → Prop} (J : EnI X pins σ H s a e it S xs 0 #[] [])
    (fin : ∀ (H' : Hp) (s' : Shared) (vs' : List V), Inv X pins σ (upd H' S (.lst vs')) s' → (∀ c u, H c = some u → H' c = some u) → H' S = none → vs'.length = xs.length → (∀ (j : Nat) (v : V), vs'[j]? = some v → ∃ T x, v = .ref T ∧ H' T = some (.tup [.int (j : Nat), x]) ∧ xs[j]? = some x) → R (.ok (.ret .none)) s') :
    wpAny (model X.prog X.w) A.in1 (Builtin.List.listExtendWith (.ref S) (.ref e) .none)
      (fun f s' => match f with | .done f => R (.ok f) s' | .again c' => c'.quiet = true ∧ codeAny (model X.prog X.w) A c' R s') (fun e s' => R (.error e) s') s := by
  obtain ⟨c, hS⟩ := J.at_
  have go : ∀ (h' : Heap) (c' : Nat), (∀ b o, b ≠ S → s.heap.get? b = some o → h'.get? b = some o) → h'.get? S = some { cls := .type "list", dict := none, data := .seq #[] c', slots := #[] } →
      codeAny (model X.prog X.w) A (.builtin "list.extend.loop" ⟨[.ref S, .ref e, .none], []⟩) R { s with heap := h' } := fun h' c' up self =>
    en_loop hh hne hSe hSi fin xs.length 0 H _ #[] [] (Nat.sub_zero _) (Nat.zero_le _) (J.touch hSe hSi up self) fun _ _ q => q
  unfold Builtin.List.listExtendWith
  refine wpAny_bind (wpAny_typeOf (T := "enumerate") (en_type J) ?_)
  have z1 : Builtin.List.listSameRef (.ref S) (.ref e) = false := by simp [Builtin.List.listSameRef, hSe]
  have z2 : (Value.type "enumerate" == Value.type "list") = false := by decide
  have z3 : (Value.type "enumerate" == Value.type "tuple") = false := by decide
  simp only [z1, z2, z3, Bool.or_false, Bool.false_eq_true, if_false]
  have iter : ∀ {A : Around} {E : Value → Shared → Prop} {Q : Value → Shared → Prop}, Q (.ref e) s → wpAny (model X.prog X.w) A (pyIter (.ref e)) Q E s := fun {A E Q} h => by
    rcases J.en with ⟨old, he⟩ | ⟨old, T, f, oT, he, hT, r1, r2⟩
    · exact wpAny_pyIter_enum he h
    · have hT : s.TypeIs (.ref e) "enumerate" := en_type J
      refine wpAny_pyIter_slot hT F.slot_enumerate_iter (wpAny_call_entry F.slot_enumerate_iter hT F.entry_enumerate_iter ?_ (F.args_enumerate_iter_1 _))
      show wpAny _ _ (ret (.ref e)) _ _ s
      exact wpAny_pure ⟨_, rfl, "enumerate", _, hT, F.slot_enumerate_next.lookup, h⟩
  refine wpAny_bind (iter ?_)
  refine wpAny_bind (wpAny_holding (en_room (en_type J) ?_))
  rw [if_pos (by rfl)]
  refine wpAny_bind (wpAny_rule ?_)
  refine wpAny_bind ?_
  show wpAny _ _ (updateSeq S (·.push .none) >>= fun _ => updateSeq S (·.pop)) _ _ _
  refine wpAny_bind (wpAny_updateSeq hS rfl ?_)
  have hS2 := Heap.get?_update_self (Obj.mapSeq (·.push Value.none)) hS rfl
  refine wpAny_updateSeq (hz := by seq_fits) hS2 rfl ?_
  have hS3 := Heap.get?_update_self (Obj.mapSeq (·.pop)) hS2 rfl
  exact wpAny_pure ⟨plainId_quiet PySem.F.plain_extend_loop _, go _ _ (fun b o hb q => (Heap.get?_update_other _ _ (Ne.symm hb)).trans ((Heap.get?_update_other _ _ (Ne.symm hb)).trans q)) hS3⟩
theorem en_init {A : Around} (hh : A.handled = none) (hne : e ≠ it) (hSe : S ≠ e) (hSi : S ≠ it) {R : Result → Shared → Prop} (J : EnI X pins σ H s a e it S xs 0 #[] [])
    (fin : ∀ (H' : Hp) (s' : Shared) (vs' : List V), Inv X pins σ (upd H' S (.lst vs')) s' → (∀ c u, H c = some u → H' c = some u) → H' S = none → vs'.length = xs.length → (∀ (j : Nat) (v : V), vs'[j]? = some v → ∃ T x, v = .ref T ∧ H' T = some (.tup [.int (j : Nat), x]) ∧ xs[j]? = some x) → R (.ok (.ret .none)) s') :
    wpAny (model X.prog X.w) A.in1 (Builtin.«list.__init__» ⟨[.ref S, .ref e], []⟩)
      (fun f s' => match f with | .done f => R (.ok f) s' | .again c' => c'.quiet = true ∧ codeAny (model X.prog X.w) A c' R s') (fun e s' => R (.error e) s') s := by
  obtain ⟨c, hS⟩ := J.at_
  show wpAny _ _ (do let old ← Builtin.List.listItems (.ref S); Builtin.List.listUpdate (.ref S) (fun _ => #[]); letGo old.toList.reverse; Builtin.List.listExtendWith (.ref S) (.ref e) .none) _ _ s
  refine wpAny_bind ?_
  unfold Builtin.List.listItems
  refine wpAny_bind (wpAny_seqItems hS rfl (wpAny_pure ?_))
  show wpAny _ _ (updateSeq S (fun _ => #[]) >>= fun _ => letGo (#[] : Array Value).toList.reverse >>= fun _ => Builtin.List.listExtendWith (.ref S) (.ref e) .none) _ _ s
  refine wpAny_bind (wpAny_updateSeq hS rfl ?_)
  have hS2 := Heap.get?_update_self (Obj.mapSeq (fun _ => (#[] : Array Value))) hS rfl
  refine wpAny_bind (wpAny_letGo ?_)
  exact en_extend hh hne hSe hSi (J.touch hSe hSi (fun b o hb q => (Heap.get?_update_other _ _ (Ne.symm hb)).trans q) hS2) fin
theorem en_list {Q : VK} (hc : X.calm = true) (I : Inv X pins σ H s) (src : SqL X.K H a xs) (en : IsEnum s.heap e it 0 .none) (li : s.heap.IsListIter it a 0) (hne : e ≠ it) (fe : FpOk X pins H e) (fi : FpOk X pins H it)
    (q : ∀ (l : Addr) (H' : Hp) (vs' : List V), H l = none → (∀ c u, H c = some u → H' c = some u) → H' l = none → vs'.length = xs.length → (∀ (j : Nat) (v : V), vs'[j]? = some v → ∃ T x, v = .ref T ∧ H' T = some (.tup [.int (j : Nat), x]) ∧ xs[j]? = some x) → Q (.ref l) (upd H' l (.lst vs'))) :
    wpAny (model X.prog X.w) X.A (call (.type "list") [.ref e]) (EP X pins σ Q) X.xe s := by
  have hel : e < s.heap.objs.size := Heap.lt_size en
  have hil : it < s.heap.objs.size := by obtain ⟨_, q, _⟩ := li; exact Heap.lt_size q
  refine callType_codes (Q₁ := fun obj s₁ => obj = .ref s.heap.objs.size ∧ s₁ = { s with heap := s.heap.push { cls := .type "list", data := .seq #[] } }) PySem.F.called_list (PySem.F.typeCall_list_1 _) PySem.F.entry_list_init
    (code_list_new _ ⟨rfl, rfl⟩) fun obj s₁ h₁ => ?_
  obtain ⟨rfl, rfl⟩ := h₁
  have hS : (s.heap.push { cls := .type "list", data := .seq #[] }).get? s.heap.objs.size = some { cls := .type "list", data := .seq #[] } := Heap.get?_push_size _ rfl
  have I1 : Inv X pins σ H { s with heap := s.heap.push { cls := .type "list", data := .seq #[] } } := I.kept (t' := s.toks) fun b o e => Heap.get?_push_of_some _ e
  have fs : FpOk X pins H s.heap.objs.size := I.fpOk (Nat.le_refl _) (I.hok.fresh (Nat.le_refl _))
  refine ⟨⟨_, hS, rfl⟩, PySem.F.args_list_init_2 _ _, en_init (A := X.A.in1) (S := s.heap.objs.size) (H := H) (I.ok.hd hc) hne (Nat.ne_of_gt hel) (Nat.ne_of_gt hil) ⟨I1, .inl ⟨.none, Heap.get?_push_of_some _ en⟩, li.at fun o q => Heap.get?_push_of_some _ q, src, fe, fi, fs, ⟨_, hS⟩, .nil, rfl, fun j v hj => by simp at hj⟩ fun H' s' vs' I' keep hn hl ht => ?_⟩
  exact ⟨rfl, .ref s.heap.objs.size, _, I', rfl, q _ H' vs' fs.1 keep hn hl ht⟩
end
end L2
namespace L2
open PySem PySem.Spec PyProof.Rows
section
variable {X : Cx}
def tEnumL (K : PySem.W.Frag) (ta : TE) : TE := fun σ H Q => ta σ H fun x H1 => ∃ (a : Addr) (xs : List V), x = V.ref a ∧ SqL K H1 a xs ∧
  ∀ (l : Addr) (H' : Hp) (vs : List V), H1 l = none → (∀ c u, H1 c = some u → H' c = some u) → H' l = none → vs.length = xs.length → (∀ (j : Nat) (v : V), vs[j]? = some v → ∃ T x, v = .ref T ∧ H' T = some (.tup [.int (j : Nat), x]) ∧ xs[j]? = some x) → Q (.ref l) (upd H' l (.lst vs))
theorem pe_listEnum {a : Expr} {ta : TE} {p p2 q pos : Pos} (hc : X.calm = true) (hg : Gl X "list") (hm : X.mg "list" = none) (hv : bootBuiltins "list" = some (.type "list")) (hg2 : Gl X "enumerate") (hm2 : X.mg "enumerate" = none) (ha : PE X a ta)
    (na : starEach [a] X.env = (false, eval a X.env) :: starEach [] X.env := by rfl) : PE X (.Call (.Name "list" p) [.Call (.Name "enumerate" p2) [a] [] q] [] pos) (tEnumL X.K ta) := by
  refine ⟨fun pins s σ H Q I h => ?_⟩
  refine Call_ (ld_blt I hg hm hv ?_)
  refine PyProof.Rows.callWith_type1 (PyProof.Rows.args_cons ?_ rfl) rfl rfl
  refine Call_ (ld_blt I hg2 hm2 PyProof.Rows.boot_enumerate ?_)
  refine PyProof.Rows.callWith_type1 (PyProof.Rows.args_cons (thn (ha.run pins s σ H _ I h) fun v s1 ⟨x, H1, I1, r1, q1⟩ => PyProof.Rows.args_nil ?_) na) na rfl
  obtain ⟨l, xs, rfl, hq, q1⟩ := q1
  cases r1
  obtain ⟨its, r, pl, hz⟩ := I1.list hq
  refine call_enumerate_list pl.isList fun h' he hit hsz hk => PyProof.Rows.args_nil ?_
  have I2 : Inv X pins σ H1 { s1 with heap := h' } := I1.kept (t' := s1.toks) hk
  exact en_list hc I2 hq he hit (Nat.succ_ne_self _) (I1.fpOk (Nat.le_succ _) (I1.hok.fresh (Nat.le_succ _))) (I1.fpOk (Nat.le_refl _) (I1.hok.fresh (Nat.le_refl _))) q1
end
end L2
namespace Ve
open PySem PySem.Spec L2
def mLEnum (fa : AE) : AA := fun ls hp => match fa ls hp with
  | some (d, hp1) => match lstOf d hp1 with
    | some xs => some (enumD xs, hp1)
    | none => none
  | none => none
theorem Ext.more {μ : List Addr} {H H' : Hp} (keep : ∀ c u, H c = some u → H' c = some u) : Ext μ H μ H' := ⟨⟨[], by simp⟩, fun _ _ n _ => n, fun a u _ e => keep a u e, fun a xs e => keep a _ e, fun a o xs e => keep a _ e⟩
theorem RelH.more {K : PySem.W.Frag} {H H' : Hp} {μ : List Addr} {hp : Hd} (r : RelH K H μ hp) (keep : ∀ c u, H c = some u → H' c = some u) : RelH K H' μ hp :=
  ⟨r.len, r.nd, fun n ob a e1 e2 => by
    have q := r.obj n ob a e1 e2
    obtain ⟨u, e, _⟩ := q.some
    rw [keep a u e, ← e]
    exact q.mon (Ext.more keep).m⟩
theorem rps_enum {K : PySem.W.Frag} {H H' : Hp} {μ : List Addr} (keep : ∀ c u, H c = some u → H' c = some u) : ∀ (ds : List D) (xs vs : List V) (k : Nat), Rps K H μ ds xs → vs.length = xs.length →
    (∀ (j : Nat) (v : V), vs[j]? = some v → ∃ T x, v = .ref T ∧ H' T = some (.tup [.int ((k + j : Nat) : Int), x]) ∧ xs[j]? = some x) → Rps K H' μ ((ds.zipIdx k).map fun p => D.tup [.int (p.2 : Nat), p.1]) vs
  | [], xs, vs, k, r, hl, h => by
    rw [Rps] at r
    subst r
    cases vs with
    | nil => exact Rps.nil
    | cons v vs => simp at hl
  | d :: ds, xs, vs, k, r, hl, h => by
    rw [Rps] at r
    obtain ⟨x, w, rfl, r1, r2⟩ := r
    cases vs with
    | nil => simp at hl
    | cons v vs =>
      obtain ⟨T, y, rfl, e2, e3⟩ := h 0 _ rfl
      cases e3
      have ih := rps_enum keep ds w vs (k + 1) r2 (by simpa using hl) fun j v hj => by
        obtain ⟨T, x, a, b, c⟩ := h (j + 1) v (by simpa using hj)
        exact ⟨T, x, a, by rw [show k + 1 + j = k + (j + 1) by omega]; exact b, by simpa using c⟩
      rw [List.zipIdx_cons, List.map_cons, Rps]
      exact ⟨_, _, rfl, Rp.tup e2 (Rps.mk Rp.int (Rps.mk (r1.mon (Ext.more keep).m) Rps.nil)), ih⟩
section
variable {X : Cx} {e : Expr} {fa : AE} {p p2 pos pos2 : Pos}
theorem le_listEnum (hc : X.calm = true) (hg : Gl X "list") (hm : X.mg "list" = none) (hg2 : Gl X "enumerate") (hm2 : X.mg "enumerate" = none) (ha : DE X e fa) (na : starEach [e] X.env = (false, eval e X.env) :: starEach [] X.env := by rfl) :
    LE X (.Call (.Name "list" p) [.Call (.Name "enumerate" p2) [e] [] pos2] [] pos) (mLEnum fa) :=
  PE.imp (pe_listEnum hc hg hm bb_list hg2 hm2 ha na) fun σ H Q ⟨ls, hp, μ, ds, hp', rl, rh, e, q⟩ => by
    unfold mLEnum at e
    split at e
    · rename_i d hp1 e1
      split at e
      · rename_i xs e2
        cases e
        refine ⟨ls, hp, μ, d, hp', rl, rh, e1, fun v H1 μ1 x1 rh1 r1 => ?_⟩
        obtain ⟨n, rfl, eh⟩ := lstOf_some e2
        obtain ⟨a, ea, rfl⟩ := r1.refE
        obtain ⟨ws, ev, rs⟩ := rh1.lst ea eh
        refine ⟨a, ws, rfl, .inl (.inl ev), fun l H' vs h0 keep hn hl ht => ?_⟩
        have rh2 := rh1.more keep
        have x2 : Ext μ1 H1 μ1 H' := Ext.more keep
        have x3 := Ext.laid rh2 (o := .lst vs) hn
        exact q l vs _ μ1 ((x1.trans x2).trans x3) (rh2.laid hn) (x1.back rh1 h0) (rh1.notIn h0) upd_same ((rps_enum keep xs ws vs 0 rs hl fun j v hj => by
          obtain ⟨T, x, a, b, c⟩ := ht j v hj
          exact ⟨T, x, a, by rw [Nat.zero_add]; exact b, c⟩).ext x3)
      · cases e
    · cases e
end
end Ve
namespace Ve
open PySem PySem.Spec L2
theorem fn_none {P : Program} {w : World} {K : PySem.W.Frag} {mg : Str → Option Value} {base : Heap} {k n : Nat} {x : Str} {f : Addr} {fd : FuncData} {ps : List Str} (hm : mg x = some (.ref f)) (kp : PySem.W.keepIn K (.ref f) = true) (hb : Binds K fd ps []) : Fn P w K mg base k x n (fun _ _ => none) := by
  refine ⟨f, fd, ps, ⟨?_, ?_⟩, hm, kp, hb⟩
  · rintro vs H Q E ⟨hp, μ, ds, d, hp', _, _, _, e, _⟩
    cases e
  · rintro A outer s H args us vs Q E _ _ _ _ ⟨hp, μ, ds, d, hp', _, _, _, e, _⟩
    cases e
theorem ds_no {X : Cx} {st : Stmt} : PS X st (tS X.K (fun _ _ => none)) := ⟨fun pins s σ H Q I h => by
  obtain ⟨ls, hp, μ, fl, ls', hp', _, _, e, _⟩ := h
  cases e⟩
end Ve
namespace Ve
open PySem PySem.Spec L2
structure Pl where
  x : Int
  y : Int
  t : Int
def plI (p : Pl) : List Int := [p.x, p.y, p.t]
def dX (k : Int) : Int := if k = 0 then 1 else if k = 2 then -1 else 0
def dY (k : Int) : Int := if k = 1 then 1 else if k = 3 then -1 else 0
def nxt (p : Pl) (i j : Int) : Pl := ⟨p.x + dX ((i + p.t) % 4), p.y + dY ((i + p.t) % 4), ((i + p.t) % 4 + 2 - j) % 4⟩
theorem nxt_t (p : Pl) (i j : Int) : 0 ≤ (nxt p i j).t ∧ (nxt p i j).t < 4 := by
  show 0 ≤ ((i + p.t) % 4 + 2 - j) % 4 ∧ ((i + p.t) % 4 + 2 - j) % 4 < 4
  omega
theorem four {k : Int} (h : 0 ≤ k ∧ k < 4) : k = 0 ∨ k = 1 ∨ k = 2 ∨ k = 3 := by omega
theorem nxt_back {p : Pl} {i j : Int} (hp : 0 ≤ p.t ∧ p.t < 4) (hi : 0 ≤ i ∧ i < 4) (hj : 0 ≤ j ∧ j < 4) : nxt (nxt p i j) j i = p := by
  obtain ⟨x, y, t⟩ := p
  obtain ⟨k, hk⟩ : ∃ k, (i + t) % 4 = k := ⟨_, rfl⟩
  have hk2 : (j + (k + 2 - j) % 4) % 4 = (k + 2) % 4 := by omega
  show Pl.mk (x + dX ((i + t) % 4) + dX ((j + ((i + t) % 4 + 2 - j) % 4) % 4)) (y + dY ((i + t) % 4) + dY ((j + ((i + t) % 4 + 2 - j) % 4) % 4)) (((j + ((i + t) % 4 + 2 - j) % 4) % 4 + 2 - i) % 4) = ⟨x, y, t⟩
  rw [hk, hk2]
  have ht : ((k + 2) % 4 + 2 - i) % 4 = t := by
    dsimp only at hp
    omega
  rw [ht]
  rcases four (show 0 ≤ k ∧ k < 4 by omega) with rfl | rfl | rfl | rfl <;> simp [dX, dY] <;> omega
def mo (r a b : Int) (p : Pl) : Pl := if r = 0 then ⟨p.x + a, p.y + b, p.t⟩ else if r = 1 then ⟨-p.y + a, p.x + b, (p.t + 1) % 4⟩ else if r = 2 then ⟨-p.x + a, -p.y + b, (p.t + 2) % 4⟩ else ⟨p.y + a, -p.x + b, (p.t + 3) % 4⟩
theorem mo_t {r a b : Int} {p : Pl} (h : 0 ≤ p.t ∧ p.t < 4) : 0 ≤ (mo r a b p).t ∧ (mo r a b p).t < 4 := by
  unfold mo
  split
  · exact h
  · split
    · dsimp only; omega
    · split <;> (dsimp only; omega)
theorem nxt_mo {r a b i j : Int} {p : Pl} (hr : 0 ≤ r ∧ r < 4) : nxt (mo r a b p) i j = mo r a b (nxt p i j) := by
  obtain ⟨x, y, t⟩ := p
  obtain ⟨k, hk⟩ : ∃ k, (i + t) % 4 = k := ⟨_, rfl⟩
  have k4 : 0 ≤ k ∧ k < 4 := by omega
  have key : ∀ x' y' t', nxt ⟨x', y', t'⟩ i j = ⟨x' + dX ((i + t') % 4), y' + dY ((i + t') % 4), ((i + t') % 4 + 2 - j) % 4⟩ := fun _ _ _ => rfl
  rcases four hr with rfl | rfl | rfl | rfl
  · simp only [mo, if_true, key]
    congr 1 <;> omega
  · have e : (i + (t + 1) % 4) % 4 = (k + 1) % 4 := by omega
    simp only [mo, key, hk, e, show ¬ ((1 : Int) = 0) by decide, if_false, if_true]
    have e2 : ((k + 1) % 4 + 2 - j) % 4 = ((k + 2 - j) % 4 + 1) % 4 := by omega
    rw [e2]
    rcases four k4 with rfl | rfl | rfl | rfl <;> simp [dX, dY] <;> omega
  · have e : (i + (t + 2) % 4) % 4 = (k + 2) % 4 := by omega
    simp only [mo, key, hk, e, show ¬ ((2 : Int) = 0) by decide, show ¬ ((2 : Int) = 1) by decide, if_false, if_true]
    have e2 : ((k + 2) % 4 + 2 - j) % 4 = ((k + 2 - j) % 4 + 2) % 4 := by omega
    rw [e2]
    rcases four k4 with rfl | rfl | rfl | rfl <;> simp [dX, dY] <;> omega
  · have e : (i + (t + 3) % 4) % 4 = (k + 3) % 4 := by omega
    simp only [mo, key, hk, e, show ¬ ((3 : Int) = 0) by decide, show ¬ ((3 : Int) = 1) by decide, show ¬ ((3 : Int) = 2) by decide, if_false, if_true]
    have e2 : ((k + 3) % 4 + 2 - j) % 4 = ((k + 2 - j) % 4 + 3) % 4 := by omega
    rw [e2]
    rcases four k4 with rfl | rfl | rfl | rfl <;> simp [dX, dY] <;> omega
theorem mo_to {p q : Pl} (hp : 0 ≤ p.t ∧ p.t < 4) (hq : 0 ≤ q.t ∧ q.t < 4) : ∃ r a b, (0 ≤ r ∧ r < 4) ∧ mo r a b p = q := by
  obtain ⟨x, y, t⟩ := p
  obtain ⟨x2, y2, t2⟩ := q
  dsimp only at hp hq
  obtain ⟨r, hr⟩ : ∃ r, (t2 - t) % 4 = r := ⟨_, rfl⟩
  rcases four (show 0 ≤ r ∧ r < 4 by omega) with rfl | rfl | rfl | rfl
  · exact ⟨0, x2 - x, y2 - y, by decide, by simp only [mo, if_true]; congr 1 <;> omega⟩
  · exact ⟨1, x2 + y, y2 - x, by decide, by simp only [mo, show ¬ ((1 : Int) = 0) by decide, if_false, if_true]; congr 1 <;> omega⟩
  · exact ⟨2, x2 + x, y2 + y, by decide, by simp only [mo, show ¬ ((2 : Int) = 0) by decide, show ¬ ((2 : Int) = 1) by decide, if_false, if_true]; congr 1 <;> omega⟩
  · exact ⟨3, x2 - y, y2 + x, by decide, by simp only [mo, show ¬ ((3 : Int) = 0) by decide, show ¬ ((3 : Int) = 1) by decide, show ¬ ((3 : Int) = 2) by decide, if_false]; congr 1 <;> omega⟩
inductive Cn (A : Nat → Nat → Prop) (a : Nat) : Nat → Prop where
  | refl : Cn A a a
  | step {b c : Nat} : Cn A a b → A b c → Cn A a c
theorem Cn.trans {A : Nat → Nat → Prop} {a b c : Nat} (h1 : Cn A a b) (h2 : Cn A b c) : Cn A a c := by
  induction h2 with
  | refl => exact h1
  | step _ hc ih => exact ih.step hc
theorem Cn.symm {A : Nat → Nat → Prop} (hs : ∀ a b, A a b → A b a) {a b : Nat} (h : Cn A a b) : Cn A b a := by
  induction h with
  | refl => exact .refl
  | step _ hc ih => exact Cn.trans (.step .refl (hs _ _ hc)) ih
theorem Cn.mono {A B : Nat → Nat → Prop} (h : ∀ a b, A a b → B a b) {a b : Nat} (c : Cn A a b) : Cn B a b := by
  induction c with
  | refl => exact .refl
  | step _ hc ih => exact ih.step (h _ _ hc)
theorem Cn.closed {A : Nat → Nat → Prop} {a b : Nat} {S : Nat → Prop} (ha : S a) (cl : ∀ x y, S x → A x y → S y) (h : Cn A a b) : S b := by
  induction h with
  | refl => exact ha
  | step _ hc ih => exact cl _ _ ih hc
section
variable {n : Nat} {J : Nat → Nat → Sd}
def oth (J : Nat → Nat → Sd) (p : Sd) : Sd := J p.1 p.2
def Adj (n : Nat) (J : Nat → Nat → Sd) (E : List Int) (b c : Nat) : Prop := ∃ k ∈ E, (b = (smAt n J k).1 ∧ c = (oth J (smAt n J k)).1) ∨ (c = (smAt n J k).1 ∧ b = (oth J (smAt n J k)).1)
theorem Adj.symm {E : List Int} : ∀ a b, Adj n J E a b → Adj n J E b a := fun a b ⟨k, hk, h⟩ => ⟨k, hk, h.symm⟩
def Bes (Pt : Nat → Pl) (J : Nat → Nat → Sd) (p : Sd) : Prop := nxt (Pt p.1) p.2 (oth J p).2 = Pt (oth J p).1
def Inb (n : Nat) (E : List Int) : Prop := ∀ k ∈ E, 0 ≤ k ∧ k < (2 * n : Nat)
structure Frs (n : Nat) (J : Nat → Nat → Sd) (L E : List Int) : Prop where
  len : L.length = n
  inb : Inb n E
  pot : ∃ Pt : Nat → Pl, (∀ f, 0 ≤ (Pt f).t ∧ (Pt f).t < 4) ∧ ∀ k ∈ E, Bes Pt J (smAt n J k)
  same : ∀ k ∈ E, L.getD (smAt n J k).1 0 = L.getD (oth J (smAt n J k)).1 0
  conn : ∀ f g, f < n → g < n → L.getD f 0 = L.getD g 0 → Cn (Adj n J E) f g
theorem Skin.sm (sk : Skin n J) {k : Int} (h : 0 ≤ k ∧ k < (2 * n : Nat)) : (smAt n J k).1 < n ∧ (smAt n J k).2 < 4 ∧ (oth J (smAt n J k)).1 < n ∧ (oth J (smAt n J k)).2 < 4 := by
  have h2 : 0 ≤ k ∧ k < (sms n J).length := by rw [sk.sms_length]; exact h
  obtain ⟨⟨a, b⟩, _⟩ := mem_sms.mp (smAt_mem h2)
  obtain ⟨c, d⟩ := sk.rng _ _ a b
  exact ⟨a, b, c, d⟩
theorem Frs.start (n : Nat) (J : Nat → Nat → Sd) : Frs n J ((List.range n).map fun k : Nat => (k : Int)) [] := by
  have e : ∀ f, f < n → ((List.range n).map fun k : Nat => (k : Int)).getD f 0 = (f : Int) := fun f hf => by
    rw [List.getD_eq_getElem?_getD, List.getElem?_map, List.getElem?_range hf]
    rfl
  refine ⟨by rw [List.length_map, List.length_range], (fun k h => absurd h List.not_mem_nil), ⟨fun _ => ⟨0, 0, 0⟩, (fun _ => (by decide : (0 : Int) ≤ 0 ∧ (0 : Int) < 4)), (fun k h => absurd h List.not_mem_nil)⟩, (fun k h => absurd h List.not_mem_nil), fun f g hf hg h => ?_⟩
  rw [e f hf, e g hg] at h
  have : f = g := by omega
  rw [this]
  exact .refl
def joinL (L : List Int) (a b : Nat) : List Int := L.map fun z => if z = L.getD a 0 then L.getD b 0 else z
theorem joinL_at {L : List Int} {a b f : Nat} (h : f < L.length) : (joinL L a b).getD f 0 = if L.getD f 0 = L.getD a 0 then L.getD b 0 else L.getD f 0 := by
  have e1 : (joinL L a b).getD f 0 = ((joinL L a b)[f]?).getD 0 := List.getD_eq_getElem?_getD
  have e2 : L.getD f 0 = L[f] := by rw [List.getD_eq_getElem?_getD, List.getElem?_eq_getElem h]; rfl
  rw [e1, e2]
  unfold joinL
  rw [List.getElem?_map, List.getElem?_eq_getElem h]
  rfl
theorem Frs.put {L E : List Int} (h : Frs n J L E) (sk : Skin n J) {k : Int} (hk : 0 ≤ k ∧ k < (2 * n : Nat)) (hne : L.getD (smAt n J k).1 0 ≠ L.getD (oth J (smAt n J k)).1 0) : Frs n J (joinL L (smAt n J k).1 (oth J (smAt n J k)).1) (E ++ [k]) := by
  obtain ⟨hf, hi, hg, hj⟩ := sk.sm hk
  obtain ⟨Pt, ht, hb⟩ := h.pot
  have at_ : ∀ a, a < n → (joinL L (smAt n J k).1 (oth J (smAt n J k)).1).getD a 0 = if L.getD a 0 = L.getD (smAt n J k).1 0 then L.getD (oth J (smAt n J k)).1 0 else L.getD a 0 := fun a ha => joinL_at (by rw [h.len]; exact ha)
  have ends : ∀ e ∈ E, (smAt n J e).1 < n ∧ (oth J (smAt n J e)).1 < n := fun e he => let ⟨a, _, b, _⟩ := sk.sm (h.inb e he); ⟨a, b⟩
  obtain ⟨r, a, b, hr, em⟩ := mo_to (ht (smAt n J k).1) (nxt_t (Pt (oth J (smAt n J k)).1) (oth J (smAt n J k)).2 (smAt n J k).2)
  refine ⟨by unfold joinL; rw [List.length_map]; exact h.len, fun e he => ?_, ⟨fun f => if L.getD f 0 = L.getD (smAt n J k).1 0 then mo r a b (Pt f) else Pt f, fun f => ?_, fun e he => ?_⟩, fun e he => ?_, fun f g hf' hg' e => ?_⟩
  · rcases List.mem_append.mp he with z | z
    · exact h.inb e z
    · rw [List.mem_singleton.mp z]; exact hk
  · dsimp only
    split
    · exact mo_t (ht f)
    · exact ht f
  · rcases List.mem_append.mp he with z | z
    · have s := h.same e z
      have q := hb e z
      unfold Bes at q ⊢
      dsimp only
      by_cases c : L.getD (smAt n J e).1 0 = L.getD (smAt n J k).1 0
      · rw [if_pos c, if_pos (s.symm.trans c), nxt_mo hr, q]
      · rw [if_neg c, if_neg (fun z => c (s.trans z)), q]
    · rw [List.mem_singleton.mp z]
      unfold Bes
      dsimp only
      rw [if_pos rfl, if_neg (Ne.symm hne), em]
      exact nxt_back (ht _) (by omega) (by omega)
  · rcases List.mem_append.mp he with z | z
    · obtain ⟨e1, e2⟩ := ends e z
      rw [at_ _ e1, at_ _ e2, h.same e z]
    · rw [List.mem_singleton.mp z, at_ _ hf, at_ _ hg, if_pos rfl, if_neg (Ne.symm hne)]
  · have mono : ∀ x y, Adj n J E x y → Adj n J (E ++ [k]) x y := fun x y ⟨e, he, q⟩ => ⟨e, List.mem_append_left _ he, q⟩
    have edge : Cn (Adj n J (E ++ [k])) (smAt n J k).1 (oth J (smAt n J k)).1 := .step .refl ⟨k, by simp, .inl ⟨rfl, rfl⟩⟩
    rw [at_ f hf', at_ g hg'] at e
    by_cases c1 : L.getD f 0 = L.getD (smAt n J k).1 0 <;> by_cases c2 : L.getD g 0 = L.getD (smAt n J k).1 0
    · exact (h.conn f g hf' hg' (c1.trans c2.symm)).mono mono
    · rw [if_pos c1, if_neg c2] at e
      exact (((h.conn f _ hf' hf c1).mono mono).trans edge).trans ((h.conn _ g hg hg' e).mono mono)
    · rw [if_neg c1, if_pos c2] at e
      exact (((h.conn f _ hf' hg e).mono mono).trans (edge.symm Adj.symm)).trans ((h.conn _ g hf hg' c2.symm).mono mono)
    · rw [if_neg c1, if_neg c2] at e
      exact (h.conn f g hf' hg' e).mono mono
theorem Frs.all {L E : List Int} (h : Frs n J L E) (sk : Skin n J) (done : ∀ k : Int, 0 ≤ k → k < (2 * n : Nat) → L.getD (smAt n J k).1 0 = L.getD (oth J (smAt n J k)).1 0) : ∀ f, f < n → L.getD f 0 = L.getD 0 0 := by
  have side : ∀ p : Sd, p.1 < n → p.2 < 4 → L.getD p.1 0 = L.getD (oth J p).1 0 := by
    have one : ∀ p : Sd, p ∈ sms n J → L.getD p.1 0 = L.getD (oth J p).1 0 := fun p hp => by
      obtain ⟨k, hk, e⟩ := List.mem_iff_getElem.mp hp
      have e2 : smAt n J (k : Nat) = p := by
        unfold smAt
        rw [Int.toNat_natCast, List.getD_eq_getElem?_getD, List.getElem?_eq_getElem hk, e]
        rfl
      have := done (k : Nat) (by omega) (by rw [sk.sms_length] at hk; omega)
      rw [e2] at this
      exact this
    intro p h1 h2
    by_cases c : pI p < pI (oth J p)
    · exact one p (mem_sms.mpr ⟨⟨h1, h2⟩, c⟩)
    · obtain ⟨r1, r2⟩ := sk.rng _ _ h1 h2
      have inv : oth J (oth J p) = p := sk.inv _ _ h1 h2
      have ne := sk.ne _ _ h1 h2
      have : oth J p ∈ sms n J := mem_sms.mpr ⟨⟨r1, r2⟩, by
        show pI (oth J p) < pI (oth J (oth J p))
        rw [inv]
        rw [pI_lt] at c ⊢
        have : ¬ ((oth J p).1 = p.1 ∧ (oth J p).2 = p.2) := fun ⟨z1, z2⟩ => ne (Prod.ext z1 z2)
        omega⟩
      have q := one _ this
      rw [inv] at q
      exact q.symm
  intro f
  induction f using Nat.strongRecOn with
  | ind f ih =>
    intro hf
    by_cases h0 : f = 0
    · rw [h0]
    · obtain ⟨i, hi, hlt⟩ := sk.con f (by omega) hf
      have e := side (f, i) hf hi
      have e2 := ih (J f i).1 hlt (by omega)
      exact e.trans e2
structure Tre (n : Nat) (J : Nat → Nat → Sd) (E : List Int) : Prop where
  inb : Inb n E
  pot : ∀ f0, ∃ Pt : Nat → Pl, Pt f0 = ⟨0, 0, 0⟩ ∧ (∀ f, 0 ≤ (Pt f).t ∧ (Pt f).t < 4) ∧ ∀ k ∈ E, Bes Pt J (smAt n J k)
  conn : ∀ f g, f < n → g < n → Cn (Adj n J E) f g
theorem Frs.tre {L E E' : List Int} (h : Frs n J L E) (sk : Skin n J) (done : ∀ k : Int, 0 ≤ k → k < (2 * n : Nat) → L.getD (smAt n J k).1 0 = L.getD (oth J (smAt n J k)).1 0) (hE : ∀ k, k ∈ E' ↔ k ∈ E) : Tre n J E' := by
  have all := h.all sk done
  refine ⟨fun k hk => h.inb k ((hE k).mp hk), fun f0 => ?_, fun f g hf hg => (h.conn f g hf hg ((all f hf).trans (all g hg).symm)).mono fun a b ⟨k, hk, q⟩ => ⟨k, (hE k).mpr hk, q⟩⟩
  obtain ⟨Pt, ht, hb⟩ := h.pot
  obtain ⟨r, a, b, hr, em⟩ := mo_to (ht f0) (q := ⟨0, 0, 0⟩) (by decide)
  refine ⟨fun f => mo r a b (Pt f), em, fun f => mo_t (ht f), fun k hk => ?_⟩
  have q := hb k ((hE k).mp hk)
  unfold Bes at q ⊢
  dsimp only
  rw [nxt_mo hr, q]
theorem Bes.back {Pt : Nat → Pl} {p : Sd} (h : Bes Pt J p) (ht : ∀ f, 0 ≤ (Pt f).t ∧ (Pt f).t < 4) (h2 : p.2 < 4) (h3 : (oth J p).2 < 4) : nxt (Pt (oth J p).1) (oth J p).2 p.2 = Pt p.1 := by
  unfold Bes at h
  rw [← h]
  exact nxt_back (ht _) (by omega) (by omega)
end
end Ve
namespace Ve
open PySem PySem.Spec L2
def Gi (g : Nat → D) (ks : List Nat) : List (D × D) := ks.map fun k => (D.int (k : Nat), g k)
theorem look_Gi (g : Nat → D) : ∀ (ks : List Nat) (a : Nat), look (Gi g ks) (.int (a : Nat)) = if a ∈ ks then some (g a) else none
  | [], a => rfl
  | c :: cs, a => by
    show (if D.same (.int (c : Nat)) (.int (a : Nat)) = true then some (g c) else look (Gi g cs) (.int (a : Nat))) = _
    rw [look_Gi g cs a]
    by_cases h : c = a
    · subst h
      rw [if_pos (same_iff.mpr rfl), if_pos List.mem_cons_self]
    · have hn : ¬ D.same (.int (c : Nat)) (.int (a : Nat)) = true := fun z => h (by have := D.int.inj (same_iff.mp z); omega)
      rw [if_neg hn]
      by_cases h2 : a ∈ cs
      · rw [if_pos h2, if_pos (List.mem_cons_of_mem _ h2)]
      · rw [if_neg h2, if_neg (fun z => by
          rcases List.mem_cons.mp z with z | z
          · exact h z.symm
          · exact h2 z)]
theorem dKind_Gi (g : Nat → D) (ks : List Nat) (a : Nat) : dKind (Gi g ks) (.int (a : Nat)) = true := by
  cases ks <;> rfl
theorem putD_Gi (g : Nat → D) : ∀ (ks : List Nat) (a : Nat), a ∉ ks → putD (Gi g ks) (.int (a : Nat)) (g a) = Gi g (ks ++ [a])
  | [], a, _ => rfl
  | c :: cs, a, h => by
    show (if D.same (.int (c : Nat)) (.int (a : Nat)) = true then _ else (D.int (c : Nat), g c) :: putD (Gi g cs) (.int (a : Nat)) (g a)) = _
    have hn : ¬ D.same (.int (c : Nat)) (.int (a : Nat)) = true := fun z => h (by have := D.int.inj (same_iff.mp z); rw [show a = c by omega]; exact List.mem_cons_self)
    rw [if_neg hn, putD_Gi g cs a fun z => h (List.mem_cons_of_mem _ z)]
    rfl
section
variable {hp : Hd} {q a : Nat} {g : Nat → D} {ks : List Nat}
theorem inB_Gi (h : hp[q]? = some (.dic (Gi g ks))) : inB (.int (a : Nat)) (.ref q) hp = some (decide (a ∈ ks)) := by
  show (match hp[q]? with
      | some (.lst ys) => inL hp (.int (a : Nat)) ys
      | some o => match dicOf o with
        | some kvs => if dKind kvs (.int (a : Nat)) = true then some (look kvs (.int (a : Nat))).isSome else none
        | none => none
      | none => none) = _
  rw [h]
  show (if dKind (Gi g ks) (.int (a : Nat)) = true then some (look (Gi g ks) (.int (a : Nat))).isSome else none) = _
  rw [if_pos (dKind_Gi g ks a), look_Gi]
  by_cases h2 : a ∈ ks
  · rw [if_pos h2, decide_eq_true h2]
    rfl
  · rw [if_neg h2, decide_eq_false h2]
    rfl
theorem gIn_Gi (h : hp[q]? = some (.dic (Gi g ks))) : gIn (.int (a : Nat)) (.ref q) hp = some (.bl (decide (a ∈ ks)), hp) := by
  unfold gIn
  rw [inB_Gi h]
theorem gNotIn_Gi (h : hp[q]? = some (.dic (Gi g ks))) : gNotIn (.int (a : Nat)) (.ref q) hp = some (.bl (!decide (a ∈ ks)), hp) := by
  unfold gNotIn
  rw [inB_Gi h]
theorem gIx_Gi (h : hp[q]? = some (.dic (Gi g ks))) (ha : a ∈ ks) : gIx (.ref q) (.int (a : Nat)) hp = some (g a, hp) := by
  unfold gIx
  dsimp only
  rw [h]
  show (if dKind (Gi g ks) (.int (a : Nat)) = true then (match look (Gi g ks) (.int (a : Nat)) with
    | some d => some (d, hp)
    | none => none) else none) = _
  rw [if_pos (dKind_Gi g ks a), look_Gi, if_pos ha]
theorem gSet_Gi (h : hp[q]? = some (.dic (Gi g ks))) (hn : a ∉ ks) (hl : ks.length < 1000) : gSet (.ref q) (.int (a : Nat)) (g a) hp = some (hp.set q (.dic (Gi g (ks ++ [a])))) := by
  unfold gSet
  dsimp only
  rw [h]
  dsimp only
  have hz : (Gi g ks).length < sizeLine := by
    unfold Gi
    rw [List.length_map, sizeLine_eq]
    omega
  rw [dKind_Gi, decide_eq_true hz, Bool.and_self, if_pos rfl, putD_Gi g ks a hn]
theorem nrO_Gi (hg : ∀ k, nr (g k) = true) : nrO (.dic (Gi g ks)) = true := by
  show kvAll _ (Gi g ks) = true
  induction ks with
  | nil => rfl
  | cons k ks ih =>
    show (D.all _ (.int (k : Nat)) && D.all _ (g k) && kvAll _ (Gi g ks)) = true
    rw [ih, show D.all (fun _ => false) (g k) = true from hg k]
    rfl
end
def eK (n : Nat) (J : Nat → Nat → Sd) (k : Int) : D := .tup [.int k, T (smI J (smAt n J k))]
def eKE (n : Nat) (J : Nat → Nat → Sd) : EqE 3 (eK n J) := ⟨fun k => .tuple [.int k, .tuple ((smI J (smAt n J k)).map PyData.int)],
  fun hp m k => by
    have := mapO_int (hp := hp) (n := m) (smI J (smAt n J k))
    show (mapO (pyF hp (m + 2)) [.int k, T (smI J (smAt n J k))]).map PyData.tuple = _
    unfold T
    simp only [mapO, pyF, this]
    rfl,
  fun k => by
    have := EqE.int.canAll (smI J (smAt n J k))
    rw [PyData.canLay0, PyData.canLayAll0, PyData.canLayAll0, PyData.canLay0, PyData.canLay0, PyData.canLayAll0, show PyData.canLayAll0 ((smI J (smAt n J k)).map PyData.int) = true from this]
    rfl,
  fun k => by
    have := EqE.int.depAll (smI J (smAt n J k))
    rw [PyData.depth, PyData.depthAll, PyData.depthAll, PyData.depth, PyData.depth, PyData.depthAll]
    show max 0 (max (PyData.depthAll ((smI J (smAt n J k)).map EqE.int.py) + 1) 0) + 1 < 3
    omega,
  by decide,
  fun a b => by
    constructor
    · intro h
      rw [PyData.eqv, PyData.eqvAll, Bool.and_eq_true] at h
      exact EqE.int.eqv a b |>.mp h.1
    · intro h
      subst h
      rw [PyData.eqv, PyData.eqvAll, PyData.eqvAll, PyData.eqvAll, PyData.eqv, PyData.eqv]
      have := (EqE.int.eqvAll (smI J (smAt n J a)) (smI J (smAt n J a))).mpr rfl
      rw [show PyData.eqvAll ((smI J (smAt n J a)).map PyData.int) ((smI J (smAt n J a)).map PyData.int) = true from this]
      simp⟩
theorem enumD_sm {n : Nat} {J : Nat → Nat → Sd} (sk : Skin n J) : enumD (smD n J) = ((List.range (2 * n)).map fun k : Nat => (k : Int)).map (eK n J) := by
  refine List.ext_getElem? fun k => ?_
  have hl := sk.sms_length
  simp only [enumD, List.getElem?_map, List.getElem?_zipIdx]
  by_cases h : k < 2 * n
  · rw [List.getElem?_range h]
    have hk : k < (sms n J).length := by omega
    have e : (smD n J)[k]? = some (T (smI J (smAt n J (k : Nat)))) := by
      unfold smD smAt
      rw [List.getElem?_map, List.getElem?_map, List.getElem?_eq_getElem hk, Int.toNat_natCast, List.getD_eq_getElem?_getD, List.getElem?_eq_getElem hk]
      rfl
    rw [e]
    simp [eK]
  · have e : (smD n J)[k]? = none := List.getElem?_eq_none (by unfold smD; rw [List.length_map, List.length_map]; omega)
    rw [e, List.getElem?_eq_none (by rw [List.length_range]; omega)]
    rfl
end Ve
namespace Ve
open PySem PySem.Spec L2
theorem rgD_nat (n : Nat) : rgD 0 (n : Nat) = ((List.range n).map fun k : Nat => (k : Int)).map D.int := by
  unfold rgD
  rw [List.map_map, show ((n : Nat) - 0 : Int).toNat = n by omega]
  refine List.map_congr_left fun k _ => ?_
  show D.int (0 + (k : Int)) = D.int (k : Int)
  rw [Int.zero_add]
theorem mLRg1_nat {fa : AE} {ls : Ls} {hp hp1 : Hd} {n : Nat} (e : fa ls hp = some (.int (n : Nat), hp1)) (hn : n ≤ 10000) : mLRg1 fa ls hp = some (((List.range n).map fun k : Nat => (k : Int)).map D.int, hp1) := by
  rw [mLRg1_s, e]
  dsimp only
  rw [if_pos (by unfold rgOk; omega), rgD_nat]
end Ve
namespace Ve
open PySem PySem.Spec L2
section
variable {n : Nat} {J : Nat → Nat → Sd} {E : List Int}
def stp (n : Nat) (J : Nat → Nat → Sd) (K : List Nat) (k : Int) : List Nat :=
  if (smAt n J k).1 ∈ K ∧ (oth J (smAt n J k)).1 ∉ K then K ++ [(oth J (smAt n J k)).1] else if (oth J (smAt n J k)).1 ∈ K ∧ (smAt n J k).1 ∉ K then K ++ [(smAt n J k).1] else K
theorem stp_sub (K : List Nat) (k : Int) : ∀ f ∈ K, f ∈ stp n J K k := fun f hf => by
  unfold stp
  split
  · exact List.mem_append_left _ hf
  · split
    · exact List.mem_append_left _ hf
    · exact hf
theorem stp_nodup {K : List Nat} (k : Int) (h : K.Nodup) : (stp n J K k).Nodup := by
  unfold stp
  split
  · rename_i c
    exact List.nodup_append.mpr ⟨h, by simp, fun a ha b hb e => c.2 (by rw [← List.mem_singleton.mp hb, ← e]; exact ha)⟩
  · split
    · rename_i c
      exact List.nodup_append.mpr ⟨h, by simp, fun a ha b hb e => c.2 (by rw [← List.mem_singleton.mp hb, ← e]; exact ha)⟩
    · exact h
theorem stp_lt (sk : Skin n J) {K : List Nat} {k : Int} (hk : 0 ≤ k ∧ k < (2 * n : Nat)) (h : ∀ f ∈ K, f < n) : ∀ f ∈ stp n J K k, f < n := fun f hf => by
  obtain ⟨a, _, b, _⟩ := sk.sm hk
  unfold stp at hf
  split at hf
  · rcases List.mem_append.mp hf with z | z
    · exact h f z
    · rw [List.mem_singleton.mp z]; exact b
  · split at hf
    · rcases List.mem_append.mp hf with z | z
      · exact h f z
      · rw [List.mem_singleton.mp z]; exact a
    · exact h f hf
theorem stp_len (K : List Nat) (k : Int) : K.length ≤ (stp n J K k).length ∧ (stp n J K k).length ≤ K.length + 1 := by
  unfold stp
  split
  · rw [List.length_append]; exact ⟨by omega, Nat.le_refl _⟩
  · split
    · rw [List.length_append]; exact ⟨by omega, Nat.le_refl _⟩
    · exact ⟨Nat.le_refl _, by omega⟩
theorem stp_grow {K : List Nat} {k : Int} (h : ¬ ((smAt n J k).1 ∈ K ↔ (oth J (smAt n J k)).1 ∈ K)) : (stp n J K k).length = K.length + 1 := by
  unfold stp
  by_cases a : (smAt n J k).1 ∈ K <;> by_cases b : (oth J (smAt n J k)).1 ∈ K
  · exact absurd ⟨fun _ => b, fun _ => a⟩ h
  · rw [if_pos ⟨a, b⟩, List.length_append]; rfl
  · rw [if_neg (fun z => a z.1), if_pos ⟨b, a⟩, List.length_append]; rfl
  · exact absurd ⟨fun z => absurd z a, fun z => absurd z b⟩ h
theorem foldl_stp_len : ∀ (E : List Int) (K : List Nat), K.length ≤ (E.foldl (stp n J) K).length
  | [], K => Nat.le_refl _
  | k :: E, K => Nat.le_trans (stp_len K k).1 (foldl_stp_len E _)
theorem round_grow : ∀ (E : List Int) (K : List Nat), (E.foldl (stp n J) K).length = K.length → ∀ k ∈ E, ((smAt n J k).1 ∈ K ↔ (oth J (smAt n J k)).1 ∈ K)
  | [], K, _, k, hk => by cases hk
  | e :: E, K, h, k, hk => by
    rw [List.foldl_cons] at h
    have h1 := foldl_stp_len (n := n) (J := J) E (stp n J K e)
    have h2 := stp_len (n := n) (J := J) K e
    by_cases c : (smAt n J e).1 ∈ K ↔ (oth J (smAt n J e)).1 ∈ K
    · have es : stp n J K e = K := by
        unfold stp
        rw [if_neg (fun z => z.2 (c.mp z.1)), if_neg (fun z => z.2 (c.mpr z.1))]
      rcases List.mem_cons.mp hk with z | z
      · rw [z]; exact c
      · rw [es] at h
        exact round_grow E K h k z
    · have := stp_grow c
      omega
theorem Tre.full (tr : Tre n J E) {K : List Nat} {f0 : Nat} (h0 : f0 ∈ K) (hK : ∀ f ∈ K, f < n) (cl : ∀ k ∈ E, ((smAt n J k).1 ∈ K ↔ (oth J (smAt n J k)).1 ∈ K)) : ∀ f, f < n → f ∈ K := fun f hf =>
  (tr.conn f0 f (hK f0 h0) hf).closed (S := fun x => x ∈ K) h0 fun x y hx ⟨k, hk, h⟩ => by
    rcases h with ⟨a, b⟩ | ⟨a, b⟩
    · rw [b]; exact (cl k hk).mp (by rw [← a]; exact hx)
    · rw [a]; exact (cl k hk).mpr (by rw [← b]; exact hx)
def rnds (n : Nat) (J : Nat → Nat → Sd) (E : List Int) : Nat → List Nat → List Nat
  | 0, K => K
  | r + 1, K => E.foldl (stp n J) (rnds n J E r K)
structure Met (n : Nat) (f0 : Nat) (K : List Nat) : Prop where
  nd : K.Nodup
  lt : ∀ f ∈ K, f < n
  has : f0 ∈ K
theorem Met.stp (sk : Skin n J) {f0 : Nat} {K : List Nat} {k : Int} (hk : 0 ≤ k ∧ k < (2 * n : Nat)) (h : Met n f0 K) : Met n f0 (stp n J K k) := ⟨stp_nodup k h.nd, stp_lt sk hk h.lt, stp_sub K k f0 h.has⟩
theorem Met.fold (sk : Skin n J) {f0 : Nat} : ∀ (E : List Int) (K : List Nat), Inb n E → Met n f0 K → Met n f0 (E.foldl (Ve.stp n J) K)
  | [], K, _, h => h
  | k :: E, K, hi, h => Met.fold sk E _ (fun z hz => hi z (List.mem_cons_of_mem _ hz)) (h.stp sk (hi k List.mem_cons_self))
theorem Met.len {f0 : Nat} {K : List Nat} (h : Met n f0 K) : K.length ≤ n := by
  have := nodup_len h.nd (m := List.range n) fun f hf => List.mem_range.mpr (h.lt f hf)
  rwa [List.length_range] at this
theorem Met.rnds (sk : Skin n J) (tr : Tre n J E) {f0 : Nat} {K : List Nat} (h : Met n f0 K) : ∀ r, Met n f0 (rnds n J E r K)
  | 0 => h
  | r + 1 => Met.fold sk E _ tr.inb (Met.rnds sk tr h r)
theorem rnds_all (sk : Skin n J) (tr : Tre n J E) {f0 : Nat} {K : List Nat} (h : Met n f0 K) : ∀ f, f < n → f ∈ rnds n J E n K := by
  have step : ∀ r, (∀ f, f < n → f ∈ rnds n J E r K) ∨ r + 1 ≤ (rnds n J E r K).length := by
    intro r
    induction r with
    | zero => exact .inr (List.length_pos_of_mem h.has)
    | succ r ih =>
      have m := h.rnds sk tr r
      rcases ih with ih | ih
      · refine .inl fun f hf => ?_
        have sub : ∀ (E : List Int) (K : List Nat), ∀ f ∈ K, f ∈ E.foldl (stp n J) K := by
          intro E
          induction E with
          | nil => intro K f hf; exact hf
          | cons k E ih => intro K f hf; exact ih _ f (stp_sub K k f hf)
        exact sub E _ f (ih f hf)
      · have g := foldl_stp_len (n := n) (J := J) E (rnds n J E r K)
        by_cases c : (E.foldl (stp n J) (rnds n J E r K)).length = (rnds n J E r K).length
        · have cl := round_grow E _ c
          have full := tr.full m.has m.lt cl
          refine .inl fun f hf => ?_
          have sub : ∀ (E : List Int) (K : List Nat), ∀ f ∈ K, f ∈ E.foldl (stp n J) K := by
            intro E
            induction E with
            | nil => intro K f hf; exact hf
            | cons k E ih => intro K f hf; exact ih _ f (stp_sub K k f hf)
          exact sub E _ f (full f hf)
        · refine .inr ?_
          show r + 1 + 1 ≤ (E.foldl (stp n J) (rnds n J E r K)).length
          omega
  rcases step n with h2 | h2
  · exact h2
  · have := (h.rnds sk tr n).len
    omega
def tb1 (n : Nat) (J : Nat → Nat → Sd) (k : Int) (f : Nat) : List Nat := (if (smAt n J k).1 = f then [(smAt n J k).2] else []) ++ (if (oth J (smAt n J k)).1 = f then [(oth J (smAt n J k)).2] else [])
def tbl (n : Nat) (J : Nat → Nat → Sd) (E : List Int) (f : Nat) : List Nat := E.flatMap fun k => tb1 n J k f
theorem mem_tbl {f i : Nat} : i ∈ tbl n J E f ↔ ∃ k ∈ E, (f, i) = smAt n J k ∨ (f, i) = oth J (smAt n J k) := by
  unfold tbl
  rw [List.mem_flatMap]
  constructor
  · rintro ⟨k, hk, h⟩
    refine ⟨k, hk, ?_⟩
    unfold tb1 at h
    rcases List.mem_append.mp h with h | h
    · split at h
      · rename_i e
        exact .inl (by rw [List.mem_singleton.mp h, ← e])
      · cases h
    · split at h
      · rename_i e
        exact .inr (by rw [List.mem_singleton.mp h, ← e])
      · cases h
  · rintro ⟨k, hk, h⟩
    refine ⟨k, hk, ?_⟩
    unfold tb1
    rcases h with h | h
    · rw [← h]; simp
    · rw [← h]; simp
theorem tbl_len (f : Nat) : ∀ E : List Int, (tbl n J E f).length ≤ 2 * E.length
  | [] => Nat.zero_le _
  | k :: E => by
    have := tbl_len f E
    have h : (tb1 n J k f).length ≤ 2 := by
      unfold tb1
      rw [List.length_append]
      split <;> split <;> simp
    unfold tbl at *
    rw [List.flatMap_cons, List.length_append, List.length_cons]
    omega
def gof (J : Nat → Nat → Sd) (f : Nat) (K : List Nat) (i : Nat) : List Nat := if (J f i).1 ∈ K then K else K ++ [(J f i).1]
end
end Ve
set_option maxHeartbeats 1000000
namespace L2
open PySem PySem.Spec PyProof.Rows
section
variable {X : Cx} {pins : List (Addr × Obj)} {σ : St} {H : Hp} {s : Shared} {a b : Addr} {r : Value} {d : V} {A : Around} {E : Value → Shared → Prop}
theorem d_setdK {kvs : List (Key × V)} {k : Key} {u : Value} {Q : Value → Shared → Prop} (I : Inv X pins σ H s) (e : H a = some (.dK kvs)) (ry : RelV (kV k) u) (rd : RelV d r) (hl : kvs.length < sizeLine)
    (h1 : ∀ v, valV kvs k = some v → ∀ (w' : Value) (s' : Shared), Inv X pins σ H s' → RelV v w' → Q w' s') (h2 : valV kvs k = none → ∀ (w' : Value) (s' : Shared), Inv X pins σ (upd H a (.dK (putK kvs k d))) s' → RelV d w' → Q w' s') :
    wpAny (model X.prog X.w) A (call (.builtin "dict.setdefault") [.ref a, u, r]) Q E s := by
  obtain ⟨z, hd, vs, rel, dd⟩ := dk_of I.hok e
  have hz : vs.length ≤ sizeLine := by
    rw [← rel.length]
    exact z
  refine call_meetsIn PySem.F.slot_dict_setdefault dd.typeIs PySem.F.entry_dict_setdefault (PySem.F.args_dict_setdefault_3 _ _ _) (kt_meets_setdefault (mixKind X.prog X.w) a (kV_is ry) hd r) ⟨vs, dd, hz, fun v hv => ?_, fun hn h' dd' hs => ?_⟩
  · have q := rel.val k
    rw [hv] at q
    cases q0 : valV kvs k with
    | none =>
      rw [q0] at q
      exact (show False from q).elim
    | some v0 =>
      rw [q0] at q
      exact h1 v0 q0 _ _ (I.tok _) q
  · have q := rel.val k
    rw [hn] at q
    cases q0 : valV kvs k with
    | some v0 =>
      rw [q0] at q
      exact (show False from q).elim
    | none =>
      have hl2 : (putK kvs k d).length ≤ sizeLine := by
        have := length_putK kvs k d
        omega
      have he : ∃ q, h'.get? a = some q := let ⟨q, _, _, hq, _⟩ := dd'; ⟨q, hq⟩
      exact h2 q0 _ _ (d_write (t' := s.toks + 1) I (by rw [e]; exact True.intro) hs he (dk_new hl2 hd (rel.put k rd) dd')) rd
theorem d_setdT {kvs : List (List Key × V)} {k : List Key} {Q : Value → Shared → Prop} (hu : A.units + 1 < cLine) (I : Inv X pins σ H s) (e : H a = some (.dT kvs)) (eb : H b = some (.tup (k.map kV))) (rd : RelV d r) (hl : kvs.length < sizeLine)
    (h1 : ∀ v, valV kvs k = some v → ∀ (w' : Value) (s' : Shared), Inv X pins σ H s' → RelV v w' → Q w' s') (h2 : valV kvs k = none → ∀ (w' : Value) (s' : Shared), Inv X pins σ (upd H a (.dT (putK kvs k d))) s' → RelV d w' → Q w' s') :
    wpAny (model X.prog X.w) A (call (.builtin "dict.setdefault") [.ref a, .ref b, r]) Q E s := by
  obtain ⟨z, hd, xs, rel, dd⟩ := dt_of I.hok e
  have hz : xs.length ≤ sizeLine := by rw [← Paired.length rel]; exact z
  refine call_setdefault_heap (hsz := hz) (tupleKind_room_in1 hu) (key_of I.hok eb) hd dd (fun p hp => ?_) (fun hn h' dd' hs => ?_)
  · have q := rel.val k
    rw [hp] at q
    cases q0 : valV kvs k with
    | none =>
      rw [q0] at q
      exact (show False from q).elim
    | some v0 =>
      rw [q0] at q
      exact h1 v0 q0 _ _ (I.tok _) q
  · have q := rel.val k
    rw [hn] at q
    cases q0 : valV kvs k with
    | some v0 =>
      rw [q0] at q
      exact (show False from q).elim
    | none =>
      have hl2 : (putK kvs k d).length ≤ sizeLine := by
        have := length_putK kvs k d
        omega
      obtain ⟨q, es, ep, hq, g2, g3, g4, _, g5⟩ := dd'
      refine h2 q0 _ _ (d_write I (by rw [e]; exact True.intro) hs ⟨q, hq⟩ ⟨hl2, hd, _, (rel.put k eb rd).keeps fun c ys ec => ?_, q, es, ep, hq, g2, g3, g4, g5⟩) rd
      rw [upd_ne (ne_of ec e (fun z => nomatch z))]
      exact ec
end
theorem Inv.frzTv {X : Cx} {pins : List (Addr × Obj)} {σ : St} {H : Hp} {s : Shared} {d : Addr} {o : Obj} {kvs : List (List Key × V)} (I : Inv X pins σ H s) (h : H d = some (.frz o (.dT kvs))) :
    (d == sysModules) = false ∧ s.heap.get? d = some o ∧ o.ExactDict ∧ ∃ (es : Array DictEntry) (ep : Nat), o.data = .dict es ep ∧ es.size = kvs.length ∧
      ∀ (i : Nat) (k : List Key) (v : V), kvs[i]? = some (k, v) → ∃ (en : DictEntry), es[i]? = some en ∧ RelV v en.val := by
  obtain ⟨hd, z, hs, xs, pr, o', es, ep, ho, hx, hdt, he, _⟩ := I.hok d _ h
  rw [hd] at ho
  cases ho
  refine ⟨hs, hd, hx, es, ep, hdt, ?_, fun i k v e => ?_⟩
  · have l1 : es.size = xs.length := size_of_entries he
    have l2 : kvs.length = xs.length := Paired.length pr
    omega
  · obtain ⟨b, hb, e1, e2, e3⟩ := paired_get pr e
    have q := entry_at he i
    rw [hb] at q
    exact ⟨_, q, e3⟩
def Itdt (d : Addr) (o : Obj) (kvs : List (List Key × V)) : It :=
  ⟨fun i H => H d = some (.frz o (.dT kvs)) ∧ i < kvs.length, fun i H x H' => H' = H ∧ ∃ k, kvs[i]? = some (k, x), fun i H => H d = some (.frz o (.dT kvs)) ∧ kvs.length ≤ i⟩
section
variable {P : Program} {w : World} {K : PySem.W.Frag} {tg : Expr} {d : Addr} {o : Obj} {es : Array DictEntry} {ep : Nat}
theorem turn_valsT {kvs : List (List Key × V)} (it : Addr) (hod : o.data = .dict es ep) : Turn P w K tg (Itdt d o kvs) [it] it (fun i h => h.IsValIter it d i kvs.length ep) where
  mem := by simp
  obj := fun i h st b hb => by
    have e : b = it := by simpa using hb
    subst e
    obtain ⟨oi, e, c, dd⟩ := st
    exact ⟨oi, e, fun v z => by rw [dd] at z; cases z⟩
  keep := fun i h h' st k => st.at fun oi e => k it (by simp) oi e
  item := by
    intro X hP hw hK hc i pins s σ H E I hf st hg
    subst hP hw hK
    obtain ⟨hd, hi⟩ := hg
    obtain ⟨f0, f1, f2, f3, f4, f5⟩ := hf it (by simp)
    obtain ⟨hs, hgd, hx, es', ep', hdt, hsz, ent⟩ := I.frzTv hd
    obtain ⟨rfl, rfl⟩ := dict_ep hod hdt
    obtain ⟨⟨k, v⟩, hkv⟩ : ∃ p, kvs[i]? = some p := ⟨kvs[i], List.getElem?_eq_getElem hi⟩
    obtain ⟨en, hen, ru⟩ := ent i k v hkv
    rw [← hsz] at st
    have hi' : i < es'.size := by omega
    rw [Array.getElem?_eq_getElem hi'] at hen
    cases hen
    refine wpAny_pyNext_values_item_raw st ⟨o, hgd, hx, hdt⟩ hi' fun h' st' sb => ?_
    have I1 : Inv X pins σ H { s with heap := h' } := I.turned (t' := s.toks) (fun b ob hb e => (sb.2 b hb).trans e) f0 f1 f3 f4 f5
    obtain ⟨oi, e, c, dd⟩ := id st'
    refine ⟨_, rfl, go_of (s := { s with heap := h' }) e c dd (by decide) ⟨v, H, I1, ru, ⟨rfl, k, hkv⟩, ?_, fun b hb => (hf b hb).1⟩⟩
    show h'.IsValIter it d (i + 1) kvs.length _
    rw [← hsz]
    exact st'
  done := by
    intro X hP hw hK hc i pins s σ H E I hf st hg
    subst hP hw hK
    obtain ⟨hd, hi⟩ := hg
    obtain ⟨f0, f1, f2, f3, f4, f5⟩ := hf it (by simp)
    obtain ⟨hs, hgd, hx, es', ep', hdt, hsz, ent⟩ := I.frzTv hd
    obtain ⟨rfl, rfl⟩ := dict_ep hod hdt
    rw [← hsz] at st
    exact wpAny_pyNext_values_end_raw (I.ok.hd hc) st ⟨o, hgd, hx, hdt⟩ (by omega) fun h' eb => ⟨rfl, I.turned (t' := s.toks) (fun b ob hb e => eb b ob hb e) f0 f1 f3 f4 f5⟩
  self := fun A i s Q E st h => wpAny_pyIter_valiter st h
end
def iValsF (td : TE) : TI := fun σ H R => td σ H fun x H1 => ∃ d, x = .ref d ∧ (((∃ kvs, H1 d = some (.dK kvs) ∧ ∀ od, R (Itd d od kvs) (upd H1 d (.frz od (.dK kvs)))) ∨ ∃ kvs, H1 d = some (.dT kvs) ∧ ∀ od, R (Itdt d od kvs) (upd H1 d (.frz od (.dT kvs)))) ∨
  ((∃ od kvs, H1 d = some (.frz od (.dK kvs)) ∧ R (Itd d od kvs) H1) ∨ ∃ od kvs, H1 d = some (.frz od (.dT kvs)) ∧ R (Itdt d od kvs) H1))
section
variable {X : Cx} {tg e : Expr} {td : TE} {apos cpos : Pos}
theorem valsK_run {pins : List (Addr × Obj)} {σ : St} {H1 : Hp} {s1 : Shared} {R : It → Hp → Prop} {d : Addr} {o : Obj} {kvs : List (Key × V)} (I1 : Inv X pins σ H1 s1) (hd : H1 d = some (.frz o (.dK kvs))) (q : R (Itd d o kvs) H1) :
    s1.TypeIs (.ref d) "dict" ∧ (∀ b, Value.ref d = .ref b → ∃ ob, s1.heap.get? b = some ob ∧ ob.dict = none) ∧ wpAny (model X.prog X.w) X.A (callWith cpos (.builtin "dict.values") [.ref d] [] []) (fun v s => wpAny (model X.prog X.w) X.A (pyIter v) (PIE X pins σ tg R) X.xe s) X.xe s1 := by
  obtain ⟨hs, hgd, hx, es, ep, vs, hdt, hsz, kv, hm⟩ := I1.frzK hd
  have hl : kvs.length = vs.length := Paired.length kv
  refine ⟨hm.dictOf.typeIs, hm.dictOf.mapOf.noDict, ?_⟩
  have I2 : Inv X pins σ H1 { s1 with heap := s1.heap.push { cls := .type "dict_values", data := .fields #[.ref d] } } := I1.kept (t' := s1.toks) fun b ob q => Heap.get?_push_of_some _ q
  have fin : wpAny (model X.prog X.w) X.A (pyIter (.ref s1.heap.objs.size)) (PIE X pins σ tg R) X.xe { s1 with heap := s1.heap.push { cls := .type "dict_values", data := .fields #[.ref d] } } := by
    refine wpAny_pyIter_values (d := d) (knd := mixKind X.prog X.w) ⟨_, Heap.get?_push_size _ rfl, rfl, rfl⟩ (hm.push _) (pi_one (tk := s1.toks) I2 _ (turn_vals _ hdt) ⟨_, Heap.get?_push_size _ rfl, rfl, ?_⟩ q)
    rw [hl] <;> rfl
  exact method_meetsIn F.slot_dict_values F.entry_dict_values rfl (PySem.evalArgs_none ⟨rfl, hm.dictOf.typeIs, F.args_dict_values_1 _, _, meets_dict_values (mixKind X.prog X.w) d hs, ⟨vs, hm.dictOf⟩, fin⟩)
theorem valsT_run {pins : List (Addr × Obj)} {σ : St} {H1 : Hp} {s1 : Shared} {R : It → Hp → Prop} {d : Addr} {o : Obj} {kvs : List (List Key × V)} (I1 : Inv X pins σ H1 s1) (hd : H1 d = some (.frz o (.dT kvs))) (q : R (Itdt d o kvs) H1) :
    s1.TypeIs (.ref d) "dict" ∧ (∀ b, Value.ref d = .ref b → ∃ ob, s1.heap.get? b = some ob ∧ ob.dict = none) ∧ wpAny (model X.prog X.w) X.A (callWith cpos (.builtin "dict.values") [.ref d] [] []) (fun v s => wpAny (model X.prog X.w) X.A (pyIter v) (PIE X pins σ tg R) X.xe s) X.xe s1 := by
  obtain ⟨hs, hgd, hx, es, ep, hdt, hsz, ent⟩ := I1.frzTv hd
  have raw : s1.heap.DictRaw d es ep := ⟨o, hgd, hx, hdt⟩
  refine ⟨raw.typeIs, fun b z => by cases z; exact ⟨o, hgd, hx.2.1⟩, ?_⟩
  have I2 : Inv X pins σ H1 { s1 with heap := s1.heap.push { cls := .type "dict_values", data := .fields #[.ref d] } } := I1.kept (t' := s1.toks) fun b ob q => Heap.get?_push_of_some _ q
  have fin : wpAny (model X.prog X.w) X.A (pyIter (.ref s1.heap.objs.size)) (PIE X pins σ tg R) X.xe { s1 with heap := s1.heap.push { cls := .type "dict_values", data := .fields #[.ref d] } } := by
    refine wpAny_pyIter_values_raw (d := d) (es := es) (ep := ep) ⟨_, Heap.get?_push_size _ rfl, rfl, rfl⟩ (raw.at fun o q => Heap.get?_push_of_some _ q) (pi_one (tk := s1.toks) I2 _ (turn_valsT _ hdt) ⟨_, Heap.get?_push_size _ rfl, rfl, ?_⟩ q)
    rw [← hsz] <;> rfl
  exact method_meetsIn F.slot_dict_values F.entry_dict_values rfl (PySem.evalArgs_none ⟨rfl, raw.typeIs, F.args_dict_values_1 _, _, meets_dict_values_raw d hs, ⟨es, ep, raw⟩, fin⟩)
theorem pi_valsF (he : PE X e td) (hbase : attributeBase e "values" X.env (eval e X.env) = eval e X.env := by rfl) (hline : (apos.endLine == cpos.line) = true := by rfl) : PI X tg (.Call (.Attribute e "values" apos) [] [] cpos) (iValsF td) := by
  refine ⟨fun pins s σ H R I h => ?_⟩
  refine wpAny_Call_method (T := "dict") (id := "dict.values") hbase rfl hline F.plainAttrs_dict F.slot_dict_values F.type_dict_values (thn (he.run pins s σ H _ I h) fun u s1 ⟨x, H1, I0, rx, d, ex, q⟩ => ?_)
  subst ex
  obtain rfl : u = Value.ref d := rx
  rcases q with (⟨kvs, hd0, q⟩ | ⟨kvs, hd0, q⟩) | (⟨od, kvs, hd0, q⟩ | ⟨od, kvs, hd0, q⟩)
  · obtain ⟨o, I1⟩ := I0.lock hd0 True.intro
    exact valsK_run I1 upd_same (q o)
  · obtain ⟨o, I1⟩ := I0.lock hd0 True.intro
    exact valsT_run I1 upd_same (q o)
  · exact valsK_run I0 hd0 q
  · exact valsT_run I0 hd0 q
end
end L2
namespace Ve
open PySem PySem.Spec L2
def gSetd (x : D) (ds : List D) (hp : Hd) : Option (D × Hd) := match x, ds with
  | .ref n, [y, z] => match hp[n]? with
    | some (.dic kvs) => if (dKind kvs y && decide (kvs.length < sizeLine)) = true then match look kvs y with
        | some v => some (v, hp)
        | none => some (z, hp.set n (.dic (putD kvs y z)))
      else none
    | _ => none
  | _, _ => none
def isDc : D → Hd → Bool
  | .ref n, hp => match hp[n]? with
    | some (.dic _) => true
    | _ => false
  | _, _ => false
theorem isDc_some {d : D} {hp : Hd} (h : isDc d hp = true) : ∃ n kvs, d = .ref n ∧ hp[n]? = some (.dic kvs) := by
  unfold isDc at h
  split at h
  · rename_i n
    split at h
    · rename_i xs e
      exact ⟨n, _, rfl, e⟩
    · cases h
  · cases h
theorem isDc_ty {X : Cx} {H : Hp} {μ : List Addr} {hp : Hd} {d : D} {v : V} (rh : RelH X.K H μ hp) (r : Rp X.K H μ d v) (h : isDc d hp = true) : tyV X.K "dict" v H := by
  obtain ⟨n, kvs, rfl, e⟩ := isDc_some h
  obtain ⟨a, ea, rfl⟩ := r.refE
  obtain ⟨_, ⟨vs, ev, _⟩ | ⟨vs, ev, _⟩⟩ := rh.dic ea e
  · exact .inr (.inr (.inl ⟨rfl, .inl ⟨_, ev⟩⟩))
  · exact .inr (.inr (.inl ⟨rfl, .inr ⟨_, ev⟩⟩))
section
variable {X : Cx} {e : Expr} {es : List Expr} {fr : AA} {fa : AE} {tg : Expr}
theorem t_setd (hu : X.A.units + 1 < cLine) : MtR X "dict.setdefault" (RM X.K gSetd) := fun pins s σ H x xs v us Q I rx rxs ⟨hp, μ, dx, ds, d, hp', rh, r1, rs, e, q⟩ => by
  unfold gSetd at e
  split at e
  · rename_i n y z
    split at e
    · rename_i kvs eh
      split at e
      · rename_i hk
        rw [Bool.and_eq_true] at hk
        have hl := of_decide_eq_true hk.2
        obtain ⟨vy, vz, rfl, ry, rz⟩ := rs.two
        obtain ⟨a, ea, rfl⟩ := r1.refE
        obtain ⟨H1, I1, x1, rh1, nd, c⟩ := dic_kind I rh ea eh hk.1
        cases rx
        obtain ⟨uy, uz, rfl, rly, rlz⟩ : ∃ uy uz, us = [uy, uz] ∧ RelV vy uy ∧ RelV vz uz := by
          cases rxs with
          | cons p t =>
            cases t with
            | cons p2 t2 =>
              cases t2
              exact ⟨_, _, rfl, p, p2⟩
        rcases c with ⟨nt, vs, ev, r⟩ | ⟨⟨ks, rfl⟩, vs, ev, r⟩
        · obtain ⟨k', ek⟩ := dKind_leaf hk.1 nt
          have hv := ry.keyV ek
          subst hv
          have lk := r.look ek
          refine d_setdK I1 ev rly rlz (by rw [r.len]; exact hl) (fun v' hv' w' s' I2 rw' => ?_) fun hn w' s' I2 rw' => ?_
          · rw [hv'] at lk
            cases q0 : look kvs y with
            | none =>
              rw [q0] at lk
              exact (show False from lk).elim
            | some d0 =>
              rw [q0] at e lk
              cases e
              exact ⟨v', H1, I2, rw', q _ H1 μ x1 rh1 lk⟩
          · rw [hn] at lk
            cases q0 : look kvs y with
            | some d0 =>
              rw [q0] at lk
              exact (show False from lk).elim
            | none =>
              rw [q0] at e
              cases e
              have x0 : Mon μ H1 μ (upd H1 a (.dK (putK vs k' vz))) := ⟨⟨[], by simp⟩, fun b xs e => by rw [upd_ne (fun z => by subst z; rw [ev] at e; cases e)]; exact e, fun b ob xs e => by rw [upd_ne (fun z => by subst z; rw [ev] at e; cases e)]; exact e⟩
              obtain ⟨r2, x2⟩ := rh1.put (o := .dic (putD kvs y d)) (u := .dK (putK vs k' vz)) ea ⟨nd.put, .inl ⟨_, rfl, (r.put ek (rz.ext x1) nd).mon x0⟩⟩
              exact ⟨vz, _, I2, rw', q _ _ μ (x1.trans x2) r2 ((rz.ext x1).mon x0)⟩
        · obtain ⟨⟨k', ek⟩, _⟩ := dKind_tup hk.1
          obtain ⟨b, ws, rfl, hb, rs⟩ := (ry.ext x1).tupE
          have := rs.keysV ek
          subst this
          obtain rfl : uy = Value.ref b := rly
          have lk := r.look ek
          refine d_setdT hu I1 ev hb rlz (by rw [r.len]; exact hl) (fun v' hv' w' s' I2 rw' => ?_) fun hn w' s' I2 rw' => ?_
          · rw [hv'] at lk
            cases q0 : look kvs (.tup ks) with
            | none =>
              rw [q0] at lk
              exact (show False from lk).elim
            | some d0 =>
              rw [q0] at e lk
              cases e
              exact ⟨v', H1, I2, rw', q _ H1 μ x1 rh1 lk⟩
          · rw [hn] at lk
            cases q0 : look kvs (.tup ks) with
            | some d0 =>
              rw [q0] at lk
              exact (show False from lk).elim
            | none =>
              rw [q0] at e
              cases e
              have x0 : Mon μ H1 μ (upd H1 a (.dT (putK vs k' vz))) := ⟨⟨[], by simp⟩, fun b xs e => by rw [upd_ne (fun z => by subst z; rw [ev] at e; cases e)]; exact e, fun b ob xs e => by rw [upd_ne (fun z => by subst z; rw [ev] at e; cases e)]; exact e⟩
              obtain ⟨r2, x2⟩ := rh1.put (o := .dic (putD kvs (.tup ks) d)) (u := .dT (putK vs k' vz)) ea ⟨nd.put, .inr ⟨_, rfl, (r.put ek (rz.ext x1) nd).mon x0⟩⟩
              exact ⟨vz, _, I2, rw', q _ _ μ (x1.trans x2) r2 ((rz.ext x1).mon x0)⟩
      · cases e
    · cases e
  · cases e
theorem de_dm {name : Str} {id : String} {o : Expr} {fo : AE} {apos cpos : Pos} {g : D → List D → Hd → Option (D × Hd)} (slot : Slot "dict" name id) (hty : typeOf (.builtin id) = pure (.type "method_descriptor")) (hm : MtR X id (RM X.K g)) (ho : DE X o fo) (ha : DA X (e :: es) fr)
    (hbase : attributeBase o name X.env (eval o X.env) = eval o X.env := by rfl)
    (hfew : ((backTo cpos (starEach (e :: es) X.env)).all (fun x => !x.1) && (backToKw cpos (keywordEach [] X.env)).all (fun x => x.1.isSome)
      && decide ((e :: es).length + ([] : List Keyword).length + (if ([] : List Keyword).isEmpty then 0 else 1) < 30)) = true := by rfl)
    (hline : (apos.endLine == cpos.line) = true := by rfl) (hs : starEach (e :: es) X.env = (false, eval e X.env) :: starEach es X.env := by rfl) (hplain : (backTo cpos (starEach es X.env)).any (·.1) = false := by rfl) :
    DE X (.Call (.Attribute o name apos) (e :: es) [] cpos) (mMet isDc fo fr g) :=
  PE.imp (pe_bm PySem.F.plainAttrs_dict slot hty hm ho ha hbase hfew hline hs hplain) fun σ H Q ⟨ls, hp, μ, d, hp', rl, rh, e, q⟩ => by
    unfold mMet at e
    split at e
    · rename_i x hp1 e1
      split at e
      · rename_i hck
        split at e
        · rename_i ds hp2 e2
          exact ⟨ls, hp, μ, x, hp1, rl, rh, e1, fun v1 H1 μ1 x1 rh1 r1 => ⟨isDc_ty rh1 r1 hck, ls, hp1, μ1, ds, hp2, rl.ext x1, rh1, e2, fun vs H2 μ2 x2 rh2 r2 =>
            ⟨hp2, μ2, x, ds, d, hp', rh2, r1.ext x2, r2, e, fun v H3 μ3 x3 rh3 r3 => q v H3 μ3 ((x1.trans x2).trans x3) rh3 r3⟩⟩⟩
        · cases e
      · cases e
    · cases e
def mIV (f : AE) : AI := fun ls hp => match f ls hp with
  | some (.ref n, hp1) => match hp1[n]? with
    | some (.dic kvs) => some (kvs.map (·.2), [], hp1.set n (.dicL kvs))
    | some (.dicL kvs) => some (kvs.map (·.2), [], hp1)
    | _ => none
  | _ => none
theorem di_vals {apos cpos : Pos} (h : DE X e fa) (hbase : attributeBase e "values" X.env (eval e X.env) = eval e X.env := by rfl) (hline : (apos.endLine == cpos.line) = true := by rfl) : DI X tg (.Call (.Attribute e "values" apos) [] [] cpos) (mIV fa) :=
  PI.imp (pi_valsF h hbase hline) fun σ H R ⟨ls, hp, μ, items, gd, hp', rl, rh, e, q⟩ => by
    unfold mIV at e
    split at e
    · rename_i n hp1 e1
      split at e
      · rename_i kvs eh
        cases e
        refine ⟨ls, hp, μ, _, hp1, rl, rh, e1, fun v H1 μ1 x1 rh1 r1 => ?_⟩
        obtain ⟨a0, ea0, rfl⟩ := r1.refE
        obtain ⟨a, u, ea, ev, mu, n1, n2, kt, lk⟩ := lock_in rh1 eh
        have ea1 : a = a0 := Option.some.inj (ea.symm.trans ea0)
        subst ea1
        obtain ⟨nd, rk⟩ := rh1.dic ea eh
        refine ⟨a, rfl, .inl ?_⟩
        rcases rk with ⟨vs, ev2, rk⟩ | ⟨vs, ev2, rk⟩
        · rw [ev] at ev2
          cases ev2
          refine .inl ⟨vs, ev, fun od => ?_⟩
          obtain ⟨rh2, x2⟩ := lk od
          refine q _ _ μ1 (x1.trans x2) rh2 ?_
          intro i H2 μ2 hp2 x3 rh3 _
          have e3 : H2 a = some (.frz od (.dK vs)) := x3.scrs _ _ _ upd_same
          refine ⟨fun hi => ⟨e3, by rw [rk.len]; simpa using hi⟩, fun hi => ⟨⟨e3, by rw [rk.len]; simpa using hi⟩, fun x H3 hy => ?_⟩⟩
          obtain ⟨rfl, k, e4⟩ := hy
          obtain ⟨p, e5, e6, e7⟩ := rk.at_ e4
          exact ⟨p.2, by rw [List.getElem?_map, e5]; rfl, Ext.refl, rh3, (e7.ext x2).ext x3⟩
        · rw [ev] at ev2
          cases ev2
          refine .inr ⟨vs, ev, fun od => ?_⟩
          obtain ⟨rh2, x2⟩ := lk od
          refine q _ _ μ1 (x1.trans x2) rh2 ?_
          intro i H2 μ2 hp2 x3 rh3 _
          have e3 : H2 a = some (.frz od (.dT vs)) := x3.scrs _ _ _ upd_same
          refine ⟨fun hi => ⟨e3, by rw [rk.len]; simpa using hi⟩, fun hi => ⟨⟨e3, by rw [rk.len]; simpa using hi⟩, fun x H3 hy => ?_⟩⟩
          obtain ⟨rfl, k, e4⟩ := hy
          obtain ⟨p, ds, e5, e6, e7, e8⟩ := rk.at_ e4
          exact ⟨p.2, by rw [List.getElem?_map, e5]; rfl, Ext.refl, rh3, (e8.ext x2).ext x3⟩
      · rename_i kvs eh
        cases e
        refine ⟨ls, hp, μ, _, _, rl, rh, e1, fun v H1 μ1 x1 rh1 r1 => ?_⟩
        obtain ⟨a, ea, rfl⟩ := r1.refE
        obtain ⟨nd, rk⟩ := rh1.dicL ea eh
        refine ⟨a, rfl, .inr ?_⟩
        rcases rk with ⟨od, vs, ev, rk⟩ | ⟨od, vs, ev, rk⟩
        · refine .inl ⟨od, vs, ev, q _ _ μ1 x1 rh1 ?_⟩
          intro i H2 μ2 hp2 x3 rh3 _
          have e3 : H2 a = some (.frz od (.dK vs)) := x3.scrs _ _ _ ev
          refine ⟨fun hi => ⟨e3, by rw [rk.len]; simpa using hi⟩, fun hi => ⟨⟨e3, by rw [rk.len]; simpa using hi⟩, fun x H3 hy => ?_⟩⟩
          obtain ⟨rfl, k, e4⟩ := hy
          obtain ⟨p, e5, e6, e7⟩ := rk.at_ e4
          exact ⟨p.2, by rw [List.getElem?_map, e5]; rfl, Ext.refl, rh3, e7.ext x3⟩
        · refine .inr ⟨od, vs, ev, q _ _ μ1 x1 rh1 ?_⟩
          intro i H2 μ2 hp2 x3 rh3 _
          have e3 : H2 a = some (.frz od (.dT vs)) := x3.scrs _ _ _ ev
          refine ⟨fun hi => ⟨e3, by rw [rk.len]; simpa using hi⟩, fun hi => ⟨⟨e3, by rw [rk.len]; simpa using hi⟩, fun x H3 hy => ?_⟩⟩
          obtain ⟨rfl, k, e4⟩ := hy
          obtain ⟨p, ds, e5, e6, e7, e8⟩ := rk.at_ e4
          exact ⟨p.2, by rw [List.getElem?_map, e5]; rfl, Ext.refl, rh3, e8.ext x3⟩
      · cases e
    · cases e
end
end Ve
namespace Ve
open PySem PySem.Spec L2
theorem perm_same {α : Type} [DecidableEq α] : ∀ {a b : List α}, a.Nodup → b.Nodup → (∀ k, k ∈ a ↔ k ∈ b) → a.Perm b
  | [], b, _, _, h => by
    cases b with
    | nil => exact List.Perm.nil
    | cons y b => exact absurd ((h y).mpr List.mem_cons_self) (by simp)
  | x :: a, b, ha, hb, h => by
    obtain ⟨hx, ha2⟩ := List.nodup_cons.mp ha
    have xb := (h x).mp List.mem_cons_self
    refine ((perm_same ha2 (hb.erase x) fun k => ?_).cons x).trans (List.perm_cons_erase xb).symm
    rw [hb.mem_erase_iff]
    constructor
    · intro hk
      exact ⟨fun e => hx (e ▸ hk), (h k).mp (List.mem_cons_of_mem _ hk)⟩
    · rintro ⟨h1, h2⟩
      rcases List.mem_cons.mp ((h k).mpr h2) with z | z
      · exact absurd z h1
      · exact z
def prsTo (fs : List Nat) (j : Nat) : List Sd := (List.range j).flatMap fun i => (fs.drop (i + 1)).map fun b => (fs.getD i 0, b)
def prs (fs : List Nat) : List Sd := prsTo fs fs.length
theorem prsTo_succ (fs : List Nat) (j : Nat) : prsTo fs (j + 1) = prsTo fs j ++ (fs.drop (j + 1)).map fun b => (fs.getD j 0, b) := by
  unfold prsTo
  rw [List.range_succ, List.flatMap_append, List.flatMap_singleton]
theorem prsTo_len (fs : List Nat) : ∀ j, (prsTo fs j).length ≤ j * fs.length
  | 0 => Nat.zero_le _
  | j + 1 => by
    rw [prsTo_succ, List.length_append, List.length_map, List.length_drop, Nat.succ_mul]
    have := prsTo_len fs j
    omega
theorem getD_at {fs : List Nat} {i : Nat} (h : i < fs.length) : fs.getD i 0 = fs[i] := by
  rw [List.getD_eq_getElem?_getD, List.getElem?_eq_getElem h]
  rfl
theorem mem_prs {fs : List Nat} (hs : fs.Pairwise (· < ·)) {p : Sd} : p ∈ prs fs ↔ p.1 ∈ fs ∧ p.2 ∈ fs ∧ p.1 < p.2 := by
  unfold prs prsTo
  rw [List.mem_flatMap]
  constructor
  · rintro ⟨i, hi, hp⟩
    have hi := List.mem_range.mp hi
    obtain ⟨b, hb, rfl⟩ := List.mem_map.mp hp
    obtain ⟨k, hk, e⟩ := List.mem_iff_getElem.mp hb
    rw [List.length_drop] at hk
    rw [List.getElem_drop] at e
    dsimp only
    rw [getD_at hi, ← e]
    exact ⟨List.getElem_mem _, List.getElem_mem _, List.pairwise_iff_getElem.mp hs i (i + 1 + k) hi (by omega) (by omega)⟩
  · rintro ⟨h1, h2, h3⟩
    obtain ⟨i, hi, e1⟩ := List.mem_iff_getElem.mp h1
    obtain ⟨j, hj, e2⟩ := List.mem_iff_getElem.mp h2
    have hij : i < j := by
      rcases Nat.lt_trichotomy i j with z | z | z
      · exact z
      · subst z
        rw [e1] at e2
        omega
      · have := List.pairwise_iff_getElem.mp hs j i hj hi z
        omega
    refine ⟨i, List.mem_range.mpr hi, List.mem_map.mpr ⟨p.2, ?_, ?_⟩⟩
    · rw [← e2]
      refine List.mem_iff_getElem.mpr ⟨j - (i + 1), by rw [List.length_drop]; omega, ?_⟩
      rw [List.getElem_drop]
      congr 1
      omega
    · rw [getD_at hi, e1]
theorem prs_sorted {fs : List Nat} (hs : fs.Pairwise (· < ·)) : (prs fs).Pairwise fun p q => pI p < pI q := by
  unfold prs prsTo
  rw [List.pairwise_flatMap]
  constructor
  · intro i hi
    rw [List.pairwise_map]
    exact (hs.drop (i := i + 1)).imp fun {x y} h => show pI (fs.getD i 0, x) < pI (fs.getD i 0, y) from pI_lt.mpr (.inr ⟨rfl, h⟩)
  · refine List.Pairwise.imp_of_mem (fun {a b} ha hb h x hx y hy => ?_) (List.pairwise_lt_range (n := fs.length))
    obtain ⟨_, _, rfl⟩ := List.mem_map.mp hx
    obtain ⟨_, _, rfl⟩ := List.mem_map.mp hy
    have ha := List.mem_range.mp ha
    have hb := List.mem_range.mp hb
    refine pI_lt.mpr (.inl ?_)
    dsimp only
    rw [getD_at ha, getD_at hb]
    exact List.pairwise_iff_getElem.mp hs a b ha hb h
def grp (n : Nat) (s : Nat → List Int) (q : List Int) : List Nat := (List.range n).filter fun f => decide (s f = q)
theorem mem_grp {n : Nat} {s : Nat → List Int} {q : List Int} {f : Nat} : f ∈ grp n s q ↔ f < n ∧ s f = q := by
  unfold grp
  rw [List.mem_filter, List.mem_range, decide_eq_true_eq]
theorem grp_sorted (n : Nat) (s : Nat → List Int) (q : List Int) : (grp n s q).Pairwise (· < ·) := (List.pairwise_lt_range (n := n)).filter _
theorem grp_len (n : Nat) (s : Nat → List Int) (q : List Int) : (grp n s q).length ≤ n := by
  have := List.length_filter_le (fun f => decide (s f = q)) (List.range n)
  rwa [List.length_range] at this
theorem grp_succ (n : Nat) (s : Nat → List Int) (q : List Int) : grp (n + 1) s q = if s n = q then grp n s q ++ [n] else grp n s q := by
  unfold grp
  rw [List.range_succ, List.filter_append]
  by_cases h : s n = q
  · rw [if_pos h, List.filter_cons, if_pos (decide_eq_true h)]
    rfl
  · rw [if_neg h, List.filter_cons, if_neg (by simpa using h)]
    simp
def sqI (Pt : Nat → Pl) (f : Nat) : List Int := [(Pt f).x, (Pt f).y]
theorem flatMap_congr' {α β : Type} {f g : α → List β} : ∀ {l : List α}, (∀ x ∈ l, f x = g x) → l.flatMap f = l.flatMap g
  | [], _ => rfl
  | x :: l, h => by rw [List.flatMap_cons, List.flatMap_cons, h x List.mem_cons_self, flatMap_congr' fun y hy => h y (List.mem_cons_of_mem _ hy)]
def sqs (n : Nat) (s : Nat → List Int) : List (List Int) := ddp ((List.range n).map s)
theorem sqs_succ (n : Nat) (s : Nat → List Int) : sqs (n + 1) s = addC (sqs n s) (s n) := by
  unfold sqs ddp
  rw [List.range_succ, List.map_append, List.foldl_append]
  rfl
theorem mem_sqs {n : Nat} {s : Nat → List Int} {q : List Int} : q ∈ sqs n s ↔ ∃ f, f < n ∧ s f = q := by
  unfold sqs
  rw [ddp_mem, List.mem_map]
  exact ⟨fun ⟨f, a, b⟩ => ⟨f, List.mem_range.mp a, b⟩, fun ⟨f, a, b⟩ => ⟨f, List.mem_range.mpr a, b⟩⟩
theorem sqs_len (n : Nat) (s : Nat → List Int) : (sqs n s).length ≤ n := by
  have := ddp_len ((List.range n).map s)
  rwa [List.length_map, List.length_range] at this
def dueP (n : Nat) (s : Nat → List Int) : List Sd := (List.range n).flatMap fun f => (((List.range (n - (f + 1))).map fun k => f + 1 + k).filter fun g => decide (s f = s g)).map fun g => (f, g)
def allP (n : Nat) (s : Nat → List Int) : List Sd := (sqs n s).flatMap fun q => prs (grp n s q)
theorem mem_dueP {n : Nat} {s : Nat → List Int} {p : Sd} : p ∈ dueP n s ↔ p.1 < p.2 ∧ p.2 < n ∧ s p.1 = s p.2 := by
  unfold dueP
  rw [List.mem_flatMap]
  constructor
  · rintro ⟨f, hf, hp⟩
    obtain ⟨g, hg, rfl⟩ := List.mem_map.mp hp
    obtain ⟨g1, g2⟩ := List.mem_filter.mp hg
    obtain ⟨k, hk, rfl⟩ := List.mem_map.mp g1
    have := List.mem_range.mp hk
    have := List.mem_range.mp hf
    exact ⟨by dsimp only; omega, by dsimp only; omega, of_decide_eq_true g2⟩
  · rintro ⟨h1, h2, h3⟩
    exact ⟨p.1, List.mem_range.mpr (by omega), List.mem_map.mpr ⟨p.2, List.mem_filter.mpr ⟨List.mem_map.mpr ⟨p.2 - (p.1 + 1), List.mem_range.mpr (by omega), by omega⟩, decide_eq_true h3⟩, rfl⟩⟩
theorem dueP_sorted (n : Nat) (s : Nat → List Int) : (dueP n s).Pairwise fun p q => pI p < pI q := by
  unfold dueP
  rw [List.pairwise_flatMap]
  constructor
  · intro f hf
    rw [List.pairwise_map]
    refine (List.Pairwise.filter (R := fun x y : Nat => x < y) _ ?_).imp fun {x y} h => show pI (f, x) < pI (f, y) from pI_lt.mpr (.inr ⟨rfl, h⟩)
    rw [List.pairwise_map]
    exact (List.pairwise_lt_range (n := n - (f + 1))).imp fun h => by omega
  · refine (List.pairwise_lt_range (n := n)).imp fun {a b} h x hx y hy => ?_
    obtain ⟨_, _, rfl⟩ := List.mem_map.mp hx
    obtain ⟨_, _, rfl⟩ := List.mem_map.mp hy
    exact pI_lt.mpr (.inl h)
theorem mem_allP {n : Nat} {s : Nat → List Int} {p : Sd} : p ∈ allP n s ↔ p.1 < p.2 ∧ p.2 < n ∧ s p.1 = s p.2 := by
  unfold allP
  rw [List.mem_flatMap]
  constructor
  · rintro ⟨q, hq, hp⟩
    obtain ⟨a, b, c⟩ := (mem_prs (grp_sorted n s q)).mp hp
    obtain ⟨_, a2⟩ := mem_grp.mp a
    obtain ⟨b1, b2⟩ := mem_grp.mp b
    exact ⟨c, b1, a2.trans b2.symm⟩
  · rintro ⟨h1, h2, h3⟩
    exact ⟨s p.1, mem_sqs.mpr ⟨p.1, by omega, rfl⟩, (mem_prs (grp_sorted n s _)).mpr ⟨mem_grp.mpr ⟨by omega, rfl⟩, mem_grp.mpr ⟨h2, h3.symm⟩, h1⟩⟩
theorem pIlt_ne {p q : Sd} (h : pI p < pI q) : p ≠ q := fun e => by
  subst e
  rw [pI_lt] at h
  omega
theorem allP_nodup (n : Nat) (s : Nat → List Int) : (allP n s).Nodup := by
  unfold allP
  show List.Pairwise (· ≠ ·) _
  rw [List.pairwise_flatMap]
  constructor
  · intro q _
    exact (prs_sorted (grp_sorted n s q)).imp pIlt_ne
  · refine (show List.Pairwise (· ≠ ·) (sqs n s) from ddp_nodup _).imp fun {a b} h x hx y hy e => ?_
    subst e
    obtain ⟨a1, _⟩ := (mem_prs (grp_sorted n s a)).mp hx
    obtain ⟨b1, _⟩ := (mem_prs (grp_sorted n s b)).mp hy
    exact h ((mem_grp.mp a1).2.symm.trans (mem_grp.mp b1).2)
theorem allP_perm (n : Nat) (s : Nat → List Int) : (allP n s).Perm (dueP n s) :=
  perm_same (allP_nodup n s) ((dueP_sorted n s).imp pIlt_ne) fun k => by rw [mem_allP, mem_dueP]
theorem sort_allP (n : Nat) (s : Nat → List Int) : sortC ((allP n s).map pI) = (dueP n s).map pI := by
  rw [sortC_eq_of_perm ((allP_perm n s).map pI)]
  refine sortC_self ?_
  rw [List.pairwise_map]
  exact (dueP_sorted n s).imp fun h => List.le_of_lt h
section
variable {hp : Hd} {n : Nat} {a : List Int} {g : List Int → D} {cs : List (List Int)}
theorem gSetd_Gd (h : hp[n]? = some (.dic (Gd' g cs))) (hl : cs.length < 1000) (z : D) (hz : a ∉ cs → z = g a) : gSetd (.ref n) [T a, z] hp = some (g a, if a ∈ cs then hp else hp.set n (.dic (Gd' g (cs ++ [a])))) := by
  unfold gSetd
  dsimp only
  rw [h]
  dsimp only
  have hz2 : (Gd' g cs).length < sizeLine := by
    unfold Gd'
    rw [List.length_map, sizeLine_eq]
    omega
  rw [dKind_Gd, decide_eq_true hz2, Bool.and_self, if_pos rfl, look_Gd]
  by_cases hm : a ∈ cs
  · rw [if_pos hm, if_pos hm]
  · rw [if_neg hm, if_neg hm, hz hm]
    dsimp only
    rw [putD_Gd]
    unfold addC
    rw [if_neg hm]
end
theorem Gd_congr {g g' : List Int → D} {cs : List (List Int)} (h : ∀ c ∈ cs, g c = g' c) : Gd' g cs = Gd' g' cs := List.map_congr_left fun c hc => by rw [h c hc]
theorem isDc_of {hp : Hd} {n : Nat} {kvs : List (D × D)} (h : hp[n]? = some (.dic kvs)) : isDc (.ref n) hp = true := by
  unfold isDc
  dsimp only
  rw [h]
structure Sqs (hp : Hd) (dq : Nat) (s : Nat → List Int) (k : Nat) (ρ : List Int → Nat) : Prop where
  dic : hp[dq]? = some (.dic (Gd' (fun q => .ref (ρ q)) (sqs k s)))
  row : ∀ q ∈ sqs k s, dq < ρ q ∧ hp[ρ q]? = some (.lst ((grp k s q).map fun f : Nat => D.int (f : Nat)))
  inj : ∀ q ∈ sqs k s, ∀ q' ∈ sqs k s, ρ q = ρ q' → q = q'
theorem gSrtO_Gi {hp : Hd} {p : Nat} {g : Nat → D} {K : List Nat} (h : hp[p]? = some (.dic (Gi g K))) : gSrtO (.ref p) hp = some ((sortI (K.map fun k : Nat => (k : Int))).map D.int, hp) := by
  unfold gSrtO
  have e : seqOfL (.ref p) hp = none := by
    unfold seqOfL
    simp only [h]
    unfold lstOf
    simp only [h]
  rw [e]
  dsimp only
  have e2 : keysOf (.ref p) hp = some ((K.map fun k : Nat => (k : Int)).map D.int) := by
    unfold keysOf
    simp only [h]
    unfold Gi
    rw [List.map_map, List.map_map]
    rfl
  rw [e2]
  exact gSrt_I _
theorem sortI_range {K : List Nat} {n : Nat} (nd : K.Nodup) (h : ∀ f, f ∈ K ↔ f < n) : sortI (K.map fun k : Nat => (k : Int)) = (List.range n).map fun k : Nat => (k : Int) := by
  have perm : K.Perm (List.range n) := perm_same nd List.nodup_range fun k => by rw [h k, List.mem_range]
  have p2 := (sortI_perm (K.map fun k : Nat => (k : Int))).trans (perm.map fun k : Nat => (k : Int))
  have s1 : (sortI (K.map fun k : Nat => (k : Int))).Pairwise (· < ·) := by
    have nd2 : (sortI (K.map fun k : Nat => (k : Int))).Nodup := by
      refine p2.nodup_iff.mpr ?_
      show List.Pairwise (· ≠ ·) _
      rw [List.pairwise_map]
      exact (List.pairwise_lt_range (n := n)).imp fun h => by omega
    exact (sortI_sorted _).imp₂ (fun a b h1 h2 => by omega) nd2
  refine lt_unique s1 ?_ fun k => p2.mem_iff
  rw [List.pairwise_map]
  exact (List.pairwise_lt_range (n := n)).imp fun h => by omega
end Ve
namespace Ve
open PySem PySem.Spec L2
theorem mExt_of {fa : AE} {fl : AA} {ls : Ls} {hp hp1 hp2 : Hd} {n : Nat} {ds xs : List D} (e1 : fa ls hp = some (.ref n, hp1)) (c : isL (.ref n) hp1 = true) (e2 : fl ls hp1 = some (ds, hp2)) (h : hp2[n]? = some (.lst xs)) (hl : xs.length + ds.length ≤ 1000000) : mExt fa fl ls hp = some (.non, hp2.set n (.lst (xs ++ ds))) := by
  rw [mExt_s, e1]
  dsimp only
  rw [if_pos c, e2]
  dsimp only
  unfold onL
  dsimp only
  rw [h]
  dsimp only
  rw [if_pos (by rw [sizeLine_eq]; omega)]
theorem cutD_from (ds : List D) (k : Nat) (h : k ≤ ds.length) : cutD ds (some ((k : Nat) : Int)) none = ds.drop k := by
  unfold cutD
  rw [HT.sIx_nat, HT.sIx_none, Nat.min_eq_left h]
  exact List.take_of_length_le (by rw [List.length_drop]; omega)
theorem mSl_from {fa fb : AE} {ls : Ls} {hp hp1 hp2 : Hd} {n k : Nat} {xs : List D} (e1 : fa ls hp = some (.ref n, hp1)) (e2 : fb ls hp1 = some (.int (k : Nat), hp2)) (h : hp2[n]? = some (.lst xs)) (hk : k ≤ xs.length) : mSl fa (some fb) none ls hp = some (.ref hp2.length, hp2 ++ [.lst (xs.drop k)]) := by
  rw [mSl_s, e1]
  dsimp only
  rw [mPo_s, e2]
  dsimp only
  rw [mPo_n]
  dsimp only
  unfold gSl
  dsimp only
  rw [h]
  dsimp only
  rw [cutD_from xs k hk]
theorem enumD_ints (fs : List Nat) : enumD (fs.map fun f : Nat => D.int (f : Nat)) = (List.range fs.length).map fun i : Nat => D.tup [.int (i : Nat), .int ((fs.getD i 0 : Nat) : Int)] := by
  refine List.ext_getElem? fun k => ?_
  simp only [enumD, List.getElem?_map, List.getElem?_zipIdx]
  by_cases h : k < fs.length
  · rw [List.getElem?_range h, List.getElem?_eq_getElem h]
    show some (D.tup [.int ((0 + k : Nat) : Int), .int ((fs[k] : Nat) : Int)]) = some (D.tup [.int ((k : Nat) : Int), .int ((fs.getD k 0 : Nat) : Int)])
    rw [getD_at h, Nat.zero_add]
  · rw [List.getElem?_eq_none (by omega), List.getElem?_eq_none (by rw [List.length_range]; omega)]
    rfl
theorem flat_len {α : Type} {f : α → List Sd} {m : Nat} : ∀ d : List α, (∀ x ∈ d, (f x).length ≤ m) → (d.flatMap f).length ≤ d.length * m
  | [], _ => Nat.zero_le _
  | x :: d, h => by
    rw [List.flatMap_cons, List.length_append, List.length_cons, Nat.succ_mul]
    have := flat_len d fun y hy => h y (List.mem_cons_of_mem _ hy)
    have := h x List.mem_cons_self
    omega
theorem pot_two {n : Nat} {J : Nat → Nat → Sd} {E : List Int} (sk : Skin n J) (tr : Tre n J E) {P Q : Nat → Pl} (hP : ∀ f, 0 ≤ (P f).t ∧ (P f).t < 4) (hQ : ∀ f, 0 ≤ (Q f).t ∧ (Q f).t < 4) (bP : ∀ k ∈ E, Bes P J (smAt n J k)) (bQ : ∀ k ∈ E, Bes Q J (smAt n J k)) :
    ∃ r a b, (0 ≤ r ∧ r < 4) ∧ ∀ f, f < n → Q f = mo r a b (P f) := by
  obtain ⟨r, a, b, hr, em⟩ := mo_to (hP 0) (hQ 0)
  refine ⟨r, a, b, hr, fun f hf => ?_⟩
  refine (tr.conn 0 f sk.pos hf).closed (S := fun x => Q x = mo r a b (P x)) em.symm fun x y hx ⟨k, hk, h⟩ => ?_
  obtain ⟨s1, s2, s3, s4⟩ := sk.sm (tr.inb k hk)
  have p1 := bP k hk
  have q1 := bQ k hk
  rcases h with ⟨rfl, rfl⟩ | ⟨rfl, rfl⟩
  · unfold Bes at p1 q1
    rw [← p1, ← q1, hx, nxt_mo hr]
  · rw [← p1.back hP s2 s4, ← q1.back hQ s2 s4, hx, nxt_mo hr]
theorem mo_sq {r a b : Int} {p q : Pl} : ([(mo r a b p).x, (mo r a b p).y] = [(mo r a b q).x, (mo r a b q).y]) ↔ [p.x, p.y] = [q.x, q.y] := by
  simp only [List.cons.injEq, and_true]
  unfold mo
  split
  · dsimp only; omega
  · split
    · dsimp only; omega
    · split
      · dsimp only; omega
      · dsimp only; omega
theorem dueP_congr {n : Nat} {s t : Nat → List Int} (h : ∀ f g, f < n → g < n → (s f = s g ↔ t f = t g)) : dueP n s = dueP n t := by
  unfold dueP
  refine flatMap_congr' fun f hf => ?_
  have hf := List.mem_range.mp hf
  congr 1
  refine List.filter_congr fun g hg => ?_
  obtain ⟨k, hk, rfl⟩ := List.mem_map.mp hg
  have := List.mem_range.mp hk
  exact decide_eq_decide.mpr (h f _ hf (by omega))
theorem due_two {n : Nat} {J : Nat → Nat → Sd} {E : List Int} (sk : Skin n J) (tr : Tre n J E) {P Q : Nat → Pl} (hP : ∀ f, 0 ≤ (P f).t ∧ (P f).t < 4) (hQ : ∀ f, 0 ≤ (Q f).t ∧ (Q f).t < 4) (bP : ∀ k ∈ E, Bes P J (smAt n J k)) (bQ : ∀ k ∈ E, Bes Q J (smAt n J k)) : dueP n (sqI P) = dueP n (sqI Q) := by
  obtain ⟨r, a, b, hr, e⟩ := pot_two sk tr hP hQ bP bQ
  refine dueP_congr fun f g hf hg => ?_
  unfold sqI
  rw [e f hf, e g hg]
  exact mo_sq.symm
end Ve
namespace Ve
open PySem PySem.Spec L2
open PySem.W (Tup Datum DatumOrd listLt minOf minD_map)
structure Tot {α : Type} (lt : α → α → Bool) : Prop where
  irr : ∀ a, lt a a = false
  tra : ∀ a b c, lt a b = true → lt b c = true → lt a c = true
  tri : ∀ a b, lt a b = false → lt b a = false → a = b
theorem Tot.int : Tot (DatumOrd.lt : Int → Int → Bool) :=
  ⟨fun a => decide_eq_false (Int.lt_irrefl a), fun a b c h1 h2 => decide_eq_true (Int.lt_trans (of_decide_eq_true h1) (of_decide_eq_true h2)), fun a b h1 h2 => by
    have h1 := of_decide_eq_false h1
    have h2 := of_decide_eq_false h2
    omega⟩
section
variable {α : Type} [DecidableEq α] [DatumOrd α]
theorem Tot.list (h : Tot (DatumOrd.lt : α → α → Bool)) : Tot (listLt : List α → List α → Bool) := by
  refine ⟨fun a => ?_, ?_, ?_⟩
  · induction a with
    | nil => rfl
    | cons x xs ih => rw [listLt, if_pos rfl, ih]
  · intro a
    induction a with
    | nil =>
      intro b c h1 h2
      cases b with
      | nil => cases h1
      | cons y ys => cases c with
        | nil => cases h2
        | cons z zs => rfl
    | cons x xs ih =>
      intro b c h1 h2
      cases b with
      | nil => cases h1
      | cons y ys => cases c with
        | nil => cases h2
        | cons z zs =>
          rw [listLt] at h1 h2 ⊢
          by_cases e1 : x = y
          · rw [if_pos e1] at h1
            by_cases e2 : y = z
            · rw [if_pos e2] at h2
              rw [if_pos (e1.trans e2)]
              exact ih _ _ h1 h2
            · rw [if_neg e2] at h2
              rw [if_neg (by rw [e1]; exact e2), e1]
              exact h2
          · rw [if_neg e1] at h1
            by_cases e2 : y = z
            · rw [if_neg (by rw [← e2]; exact e1), ← e2]
              exact h1
            · rw [if_neg e2] at h2
              have q := h.tra _ _ _ h1 h2
              rw [if_neg (fun e => by rw [e, h.irr] at q; cases q)]
              exact q
  · intro a
    induction a with
    | nil =>
      intro b h1 h2
      cases b with
      | nil => rfl
      | cons y ys => cases h1
    | cons x xs ih =>
      intro b h1 h2
      cases b with
      | nil => cases h2
      | cons y ys =>
        rw [listLt] at h1 h2
        by_cases e : x = y
        · rw [if_pos e] at h1
          rw [if_pos e.symm] at h2
          rw [e, ih _ h1 h2]
        · rw [if_neg e] at h1
          rw [if_neg (fun z => e z.symm)] at h2
          exact absurd (h.tri _ _ h1 h2) e
theorem Tot.tup (h : Tot (DatumOrd.lt : α → α → Bool)) : Tot (DatumOrd.lt : Tup α → Tup α → Bool) := by
  have l := h.list
  refine ⟨fun a => l.irr a.items, fun a b c h1 h2 => l.tra _ _ _ h1 h2, fun a b h1 h2 => ?_⟩
  have := l.tri _ _ h1 h2
  cases a
  cases b
  exact congrArg Tup.mk this
theorem minOf_mem (x : α) : ∀ xs : List α, minOf x xs ∈ x :: xs := fun xs => by
  unfold minOf
  induction xs generalizing x with
  | nil => exact List.mem_cons_self
  | cons y ys ih =>
    rw [List.foldl_cons]
    by_cases h : DatumOrd.lt y x = true
    · rw [if_pos h]
      exact List.mem_cons_of_mem _ (ih y)
    · rw [if_neg h]
      rcases List.mem_cons.mp (ih x) with z | z
      · rw [z]; exact List.mem_cons_self
      · exact List.mem_cons_of_mem _ (List.mem_cons_of_mem _ z)
theorem minOf_le (h : Tot (DatumOrd.lt : α → α → Bool)) (x : α) : ∀ xs : List α, ∀ y ∈ x :: xs, DatumOrd.lt y (minOf x xs) = false := fun xs => by
  unfold minOf
  induction xs generalizing x with
  | nil =>
    intro y hy
    rw [List.mem_singleton.mp hy]
    exact h.irr x
  | cons y ys ih =>
    intro w hw
    rw [List.foldl_cons]
    by_cases c : DatumOrd.lt y x = true
    · rw [if_pos c]
      have q := ih y
      rcases List.mem_cons.mp hw with z | z
      · subst z
        cases e : DatumOrd.lt w (List.foldl (fun a y => if DatumOrd.lt y a = true then y else a) y ys) with
        | false => rfl
        | true =>
          have := h.tra _ _ _ c e
          rw [q y List.mem_cons_self] at this
          cases this
      · exact q w z
    · rw [if_neg c]
      have q := ih x
      rcases List.mem_cons.mp hw with z | z
      · rw [z]; exact q x List.mem_cons_self
      · rcases List.mem_cons.mp z with z | z
        · subst z
          cases e : DatumOrd.lt w (List.foldl (fun a y => if DatumOrd.lt y a = true then y else a) x ys) with
          | false => rfl
          | true =>
            have q2 := q x List.mem_cons_self
            have c' : DatumOrd.lt w x = false := by simpa using c
            cases e2 : DatumOrd.lt (List.foldl (fun a y => if DatumOrd.lt y a = true then y else a) x ys) x with
            | false =>
              have := h.tri _ _ q2 e2
              rw [← this, c'] at e
              cases e
            | true =>
              have := h.tra _ _ _ e e2
              rw [c'] at this
              cases this
        · exact q w (List.mem_cons_of_mem _ z)
theorem minOf_same (h : Tot (DatumOrd.lt : α → α → Bool)) {x y : α} {xs ys : List α} (e : ∀ k, k ∈ x :: xs ↔ k ∈ y :: ys) : minOf x xs = minOf y ys :=
  h.tri _ _ (minOf_le h y ys _ ((e _).mp (minOf_mem x xs))) (minOf_le h x xs _ ((e _).mpr (minOf_mem y ys)))
end
abbrev T2 := Tup (Tup Int)
def toT2 (b : List (List Int)) : T2 := ⟨b.map fun a => ⟨a⟩⟩
def ofT2 (t : T2) : List (List Int) := t.items.map fun a => a.items
theorem of_to (b : List (List Int)) : ofT2 (toT2 b) = b := by
  unfold ofT2 toT2
  rw [List.map_map]
  exact List.map_id' b
theorem tot2 : Tot (DatumOrd.lt : T2 → T2 → Bool) := Tot.int.tup.tup
def minT : List (List (List Int)) → List (List Int)
  | [] => []
  | b :: bs => ofT2 (minOf (toT2 b) (bs.map toT2))
theorem minT_same {l l' : List (List (List Int))} (hn : l ≠ []) (e : ∀ k, k ∈ l ↔ k ∈ l') : minT l = minT l' := by
  cases l with
  | nil => exact absurd rfl hn
  | cons b bs =>
    cases l' with
    | nil => exact absurd ((e b).mp List.mem_cons_self) (by simp)
    | cons c cs =>
      show ofT2 (minOf (toT2 b) (bs.map toT2)) = ofT2 (minOf (toT2 c) (cs.map toT2))
      rw [minOf_same tot2 (fun k => ?_)]
      have : ∀ (x : List (List Int)) (xs : List (List (List Int))), k ∈ toT2 x :: xs.map toT2 ↔ ∃ a ∈ x :: xs, toT2 a = k := fun x xs => by
        rw [← List.map_cons, List.mem_map]
      rw [this, this]
      exact ⟨fun ⟨a, h1, h2⟩ => ⟨a, (e a).mp h1, h2⟩, fun ⟨a, h1, h2⟩ => ⟨a, (e a).mpr h1, h2⟩⟩
theorem toD_T2 (b : List (List Int)) : Datum.toD (toT2 b) = PyData.tuple (b.map fun a => PyData.tuple (a.map PyData.int)) := by
  show PyData.tuple ((b.map fun a => (⟨a⟩ : Tup Int)).map Datum.toD) = _
  rw [List.map_map]
  rfl
theorem mapO_TT {hp : Hd} {n : Nat} : ∀ bs : List (List (List Int)), mapO (pyF hp (n + 3)) (bs.map TT) = some (bs.map fun b => Datum.toD (toT2 b))
  | [] => rfl
  | b :: bs => by
    have e : pyF hp (n + 3) (TT b) = some (Datum.toD (toT2 b)) := by
      rw [toD_T2]
      show (mapO (pyF hp (n + 2)) (b.map T)).map PyData.tuple = _
      rw [mapO_T]
      rfl
    rw [List.map_cons, List.map_cons, mapO, e, mapO_TT bs]
theorem plainDs_T : ∀ b : List (List Int), plainDs (b.map T) = true
  | [] => rfl
  | a :: b => by
    show (plainDs (a.map D.int) && plainDs (b.map T)) = true
    rw [plainDs_I, plainDs_T b]
    rfl
theorem plainDs_TT : ∀ bs : List (List (List Int)), plainDs (bs.map TT) = true
  | [] => rfl
  | b :: bs => by
    show (plainDs (b.map T) && plainDs (bs.map TT)) = true
    rw [plainDs_T, plainDs_TT bs]
    rfl
theorem pyF_TT {hp : Hd} {n : Nat} (b : List (List Int)) : pyF hp (n + 3) (TT b) = some (Datum.toD (toT2 b)) := by
  rw [toD_T2]
  show (mapO (pyF hp (n + 2)) (b.map T)).map PyData.tuple = _
  rw [mapO_T]
  rfl
theorem to_of (t : T2) : toT2 (ofT2 t) = t := by
  cases t with
  | mk items =>
    unfold toT2 ofT2
    congr 1
    rw [List.map_map]
    exact List.map_id' items
theorem decD_T2 (t : T2) : decD (Datum.toD t) = some (TT (ofT2 t)) := by
  have e := pyF_TT (hp := []) (n := 12) (ofT2 t)
  rw [to_of] at e
  exact dec_enc 15 _ _ (plainDs_T (ofT2 t)) e
theorem alikeB_T2 (l : List T2) : alikeB (l.map Datum.toD) = true := by
  unfold alikeB
  rw [Bool.and_eq_true, List.all_eq_true, List.all_eq_true]
  refine ⟨fun x hx => ?_, fun x hx => ?_⟩
  · rw [List.all_eq_true]
    intro y hy
    obtain ⟨a, _, rfl⟩ := List.mem_map.mp hx
    obtain ⟨b, _, rfl⟩ := List.mem_map.mp hy
    exact DatumOrd.alike a b
  · obtain ⟨a, _, rfl⟩ := List.mem_map.mp hx
    rfl
theorem gBestL_TT {hp : Hd} {l : List (List (List Int))} (hn : l ≠ []) : gBestL false (l.map TT) hp = some (TT (minT l), hp) := by
  cases l with
  | nil => exact absurd rfl hn
  | cons b bs =>
    have e : bestD false ((b :: bs).map TT) hp = some (TT (minT (b :: bs))) := by
      unfold bestD
      rw [mapO_TT (n := 12)]
      have em : ((b :: bs).map fun b => Datum.toD (toT2 b)) = ((b :: bs).map toT2).map Datum.toD := by rw [List.map_map]; rfl
      have d := PySem.W.depthAll_map ((b :: bs).map toT2)
      have ha := alikeB_T2 ((b :: bs).map toT2)
      rw [em]
      show (if (plainDs ((b :: bs).map TT) && (alikeB (((b :: bs).map toT2).map Datum.toD) && decide (PyData.depthAll (((b :: bs).map toT2).map Datum.toD) ≤ 40))) = true then decD (PySem.W.minD (Datum.toD (toT2 b)) ((bs.map toT2).map Datum.toD)) else none) = _
      have d2 : Datum.depth T2 ≤ 40 := by decide
      rw [plainDs_TT, ha, decide_eq_true (Nat.le_trans d d2), if_pos (by rfl), minD_map, decD_T2]
      rfl
    unfold gBestL
    rw [e]
theorem gBest1_TT {hp : Hd} {n : Nat} {l : List (List (List Int))} (h : hp[n]? = some (.lst (l.map TT))) (hn : l ≠ []) : gBest1 false [.ref n] hp = some (TT (minT l), hp) := by
  have e : seqOfL (.ref n) hp = some (l.map TT) := by
    unfold seqOfL lstOf
    simp only [h]
  show (match seqOfL (.ref n) hp with
    | some ds => gBestL false ds hp
    | none => none) = _
  rw [e]
  exact gBestL_TT hn
end Ve
namespace Ve
open PySem PySem.Spec L2
def Two (cs : List (List Int)) : Prop := ∀ c ∈ cs, ∃ x y : Int, c = [x, y]
def sub2 (a b : Int) (c : List Int) : List Int := [c.getD 0 0 - a, c.getD 1 0 - b]
def tn (c : List Int) : List Int := [-(c.getD 1 0), c.getD 0 0]
def hm (cs : List (List Int)) : List (List Int) := sortC (cs.map (sub2 (mnC cs 0) (mnC cs 1)))
theorem two_sub {cs : List (List Int)} (a b : Int) : Two (cs.map (sub2 a b)) := fun c hc => by
  obtain ⟨d, _, rfl⟩ := List.mem_map.mp hc
  exact ⟨_, _, rfl⟩
theorem two_tn {cs : List (List Int)} : Two (cs.map tn) := fun c hc => by
  obtain ⟨d, _, rfl⟩ := List.mem_map.mp hc
  exact ⟨_, _, rfl⟩
theorem two_hm {cs : List (List Int)} : Two (hm cs) := fun c hc => two_sub _ _ c ((sortC_perm _).mem_iff.mp hc)
theorem hm_ne {cs : List (List Int)} (h : cs ≠ []) : hm cs ≠ [] := fun e => by
  have := (sortC_perm (cs.map (sub2 (mnC cs 0) (mnC cs 1)))).length_eq
  unfold hm at e
  rw [e, List.length_map] at this
  exact h (List.length_eq_zero_iff.mp this.symm)
theorem hm_len (cs : List (List Int)) : (hm cs).length = cs.length := by
  unfold hm
  rw [(sortC_perm _).length_eq, List.length_map]
theorem mnC_sub {cs : List (List Int)} (hne : cs ≠ []) (a b : Int) : mnC (cs.map (sub2 a b)) 0 = mnC cs 0 - a ∧ mnC (cs.map (sub2 a b)) 1 = mnC cs 1 - b := by
  have key : ∀ (i : Nat) (s : Int), (∀ c : List Int, (sub2 a b c).getD i 0 = c.getD i 0 - s) → mnC (cs.map (sub2 a b)) i = mnC cs i - s := fun i s hs => by
    obtain ⟨⟨l, hl, e⟩, h2⟩ := mnC_is hne i
    refine mnC_eq ⟨_, List.mem_map.mpr ⟨l, hl, rfl⟩, ?_⟩ fun m hm => ?_
    · rw [hs, e]
    · obtain ⟨m0, hm0, rfl⟩ := List.mem_map.mp hm
      have := h2 m0 hm0
      rw [hs]
      omega
  exact ⟨key 0 a fun c => rfl, key 1 b fun c => rfl⟩
theorem sub_sub2 (a b c d : Int) (l : List Int) : sub2 a b (sub2 c d l) = sub2 (a + c) (b + d) l := by
  show [l.getD 0 0 - c - a, l.getD 1 0 - d - b] = [l.getD 0 0 - (a + c), l.getD 1 0 - (b + d)]
  congr 1
  · omega
  · congr 1
    omega
theorem hm_sub {cs : List (List Int)} (hne : cs ≠ []) (a b : Int) : hm (cs.map (sub2 a b)) = hm cs := by
  obtain ⟨e0, e1⟩ := mnC_sub hne a b
  unfold hm
  rw [e0, e1, List.map_map]
  congr 1
  refine List.map_congr_left fun l _ => ?_
  show sub2 _ _ (sub2 a b l) = _
  rw [sub_sub2]
  congr 1 <;> omega
theorem hm_perm {cs ds : List (List Int)} (h : cs.Perm ds) : hm cs = hm ds := by
  unfold hm
  rw [mnC_perm h, mnC_perm h]
  exact sortC_eq_of_perm (h.map _)
def Rm (A B : List (List Int)) : Prop := ∃ a b, A.Perm (B.map (sub2 a b))
theorem Rm.hm {A B : List (List Int)} (hne : B ≠ []) : Rm A B → Ve.hm A = Ve.hm B := fun ⟨a, b, h⟩ => (hm_perm h).trans (hm_sub hne a b)
theorem Rm.home (B : List (List Int)) : Rm (Ve.hm B) B := ⟨_, _, sortC_perm _⟩
theorem tn_sub (a b : Int) (c : List Int) : tn (sub2 a b c) = sub2 (-b) a (tn c) := by
  show [-(c.getD 1 0 - b), c.getD 0 0 - a] = [-(c.getD 1 0) - -b, c.getD 0 0 - a]
  congr 1
  omega
theorem Rm.tn {A B : List (List Int)} : Rm A B → Rm (A.map Ve.tn) (B.map Ve.tn) := fun ⟨a, b, h⟩ => ⟨-b, a, by
  have := h.map Ve.tn
  rw [List.map_map] at this ⊢
  rw [show (sub2 (-b) a ∘ Ve.tn) = Ve.tn ∘ sub2 a b from funext fun c => (tn_sub a b c).symm]
  exact this⟩
def tns : Nat → List (List Int) → List (List Int)
  | 0, cs => cs
  | k + 1, cs => (tns k cs).map tn
theorem tns_ne {cs : List (List Int)} (h : cs ≠ []) : ∀ k, tns k cs ≠ []
  | 0 => h
  | k + 1 => fun e => tns_ne h k (List.map_eq_nil_iff.mp e)
theorem Rm.tns {A B : List (List Int)} (h : Rm A B) : ∀ k, Rm (Ve.tns k A) (Ve.tns k B)
  | 0 => h
  | k + 1 => (Rm.tns h k).tn
theorem tns_add (j : Nat) : ∀ (k : Nat) (cs : List (List Int)), tns k (tns j cs) = tns (j + k) cs
  | 0, cs => rfl
  | k + 1, cs => congrArg (List.map tn) (tns_add j k cs)
theorem tns_four {cs : List (List Int)} (h : Two cs) : tns 4 cs = cs := by
  show (((cs.map tn).map tn).map tn).map tn = cs
  rw [List.map_map, List.map_map, List.map_map]
  refine (List.map_congr_left fun c hc => ?_).trans (List.map_id' cs)
  obtain ⟨x, y, rfl⟩ := h c hc
  show [-(-(x : Int)), -(-y)] = [x, y]
  congr 1
  · omega
  · congr 1
    omega
def orb (cs : List (List Int)) : List (List (List Int)) := (List.range 4).map fun k => hm (tns k cs)
def orb1 (cs : List (List Int)) : List (List (List Int)) := (List.range 4).map fun k => hm (tns (k + 1) cs)
theorem tns_mod {cs : List (List Int)} (h : Two cs) (k : Nat) : tns k cs = tns (k % 4) cs := by
  have : ∀ m, tns (4 * m + k % 4) cs = tns (k % 4) cs := by
    intro m
    induction m with
    | zero => rw [Nat.mul_zero, Nat.zero_add]
    | succ m ih =>
      rw [show 4 * (m + 1) + k % 4 = 4 + (4 * m + k % 4) by omega, ← tns_add 4 (4 * m + k % 4) cs, tns_four h, ih]
  have e := this (k / 4)
  rw [show 4 * (k / 4) + k % 4 = k by omega] at e
  exact e
theorem orb_same {s one : List (List Int)} (hs : Two s) (hn : s ≠ []) (h : ∃ k, Rm one (tns k s)) : ∀ b, b ∈ orb1 one ↔ b ∈ orb s := by
  obtain ⟨k, h⟩ := h
  have e : ∀ j, hm (tns j one) = hm (tns (k + j) s) := fun j => by
    rw [← tns_add k j s]
    exact (h.tns j).hm (tns_ne (tns_ne hn k) j)
  intro b
  unfold orb orb1
  rw [List.mem_map, List.mem_map]
  constructor
  · rintro ⟨j, hj, rfl⟩
    refine ⟨(k + (j + 1)) % 4, List.mem_range.mpr (by omega), ?_⟩
    rw [e, ← tns_mod hs]
  · rintro ⟨j, hj, rfl⟩
    have hj := List.mem_range.mp hj
    refine ⟨(j + 4 - k % 4 + 3) % 4, List.mem_range.mpr (by omega), ?_⟩
    rw [e, tns_mod hs (k + ((j + 4 - k % 4 + 3) % 4 + 1)), show (k + ((j + 4 - k % 4 + 3) % 4 + 1)) % 4 = j by omega]
theorem orb_min {s one : List (List Int)} (hs : Two s) (hn : s ≠ []) (h : one = s ∨ one ∈ orb s) : minT (orb1 one) = minT (orb s) := by
  refine minT_same (by unfold orb1; simp) (orb_same hs hn ?_)
  rcases h with rfl | h
  · exact ⟨0, 0, 0, by
      show one.Perm (one.map (sub2 0 0))
      rw [(List.map_congr_left fun c hc => by
        obtain ⟨x, y, rfl⟩ := hs c hc
        show [x - 0, y - 0] = [x, y]
        rw [Int.sub_zero, Int.sub_zero] : one.map (sub2 0 0) = one.map id), List.map_id]⟩
  · unfold orb at h
    obtain ⟨k, _, rfl⟩ := List.mem_map.mp h
    exact ⟨k, Rm.home _⟩
end Ve
namespace Lw
open PySem PySem.Spec L2 Ve
def k_STEPS : D := (.wt [(.wt [(.int (1)), (.int (0))]), (.wt [(.int (0)), (.int (1))]), (.wt [(.int (-1)), (.int (0))]), (.wt [(.int (0)), (.int (-1))])])

@[simp] def b_L_hand_2 : AS :=
    (sRet (mNew (mLst (mCons (m2 (mVar 2) (mAs (mCons (m2 (mVar 2) (m2 (mC (.int 10)) (mC (.int 18)) gPow) gGe) mNil) gInt) gMul) (mCons (m2 (m2 (m2 (mVar 2) (mC (.int 2305843009213693951)) gMod) (m2 (mC (.int 7919)) (mVar 1) gMul) gAdd) (mC (.int 3)) gAdd) (mCons (mC (.int 0)) mNil))))))
@[simp] def b_L_hand_1 : AS :=
    sSeq (sIf (mT (m2 (mVar 1) (mAs (mCons (mVar 0) mNil) gLen) gLt)) (sSet 2 (m2 (mVar 0) (mVar 1) gIx)) sNext)
    b_L_hand_2
def b_L_hand : AS :=
    sSeq (sSet 2 (mC (.int 0)))
    b_L_hand_1
def m_L_hand : List D → Hd → Option (D × Hd) := mDef 3 b_L_hand

def c_L_hand := cN m_L_hand
theorem con_L_hand : Cl c_L_hand m_L_hand := cl_cN _
@[simp] def b_L_take_6 : AS :=
    (sRet (m2 (m2 (m2 (mVar 4) (mC (.int 97)) gDiv) (m2 (mVar 4) (mC (.int 1000033)) gDiv) gAdd) (mVar 1) gMod))
@[simp] def b_L_take_5 : AS :=
    sSeq (sSet 4 (m2 (m2 (mVar 4) (mVar 5) gMul) (mC (.int 2305843009213693907)) gMod))
    b_L_take_6
@[simp] def b_L_take_4 : AS :=
    sSeq (sSet 5 (m2 (m2 (m2 (mVar 4) (mC (.int 1000003)) gMod) (m2 (mVar 3) (mC (.int 99991)) gMul) gAdd) (mC (.int 11)) gAdd))
    b_L_take_5
@[simp] def b_L_take_3 : AS :=
    sSeq (sSet 4 (m2 (m2 (m2 (mVar 0) (mC (.int 1)) gIx) (m2 (m2 (mC (.int 48271)) (m2 (m2 (mC (.int 2)) (mVar 3) gMul) (mVar 3) gMul) gAdd) (m2 (mC (.int 65537)) (mVar 3) gMul) gAdd) gMul) (mC (.int 2305843009213693921)) gMod))
    b_L_take_4
@[simp] def b_L_take_2 : AS :=
    sSeq (sSet 3 (m2 (mVar 0) (mC (.int 2)) gIx))
    b_L_take_3
@[simp] def b_L_take_1 : AS :=
    sSeq (sStore (m2 (m2 (mVar 0) (mC (.int 2)) gIx) (mC (.int 1)) gAdd) (mVar 0) (mC (.int 2)))
    b_L_take_2
def b_L_take : AS :=
    sSeq (sIf (mT (m2 (m2 (mVar 0) (mC (.int 0)) gIx) (mC (.int 0)) gGt)) (sSeq (sAsgM (tTp ((tSub (mVar 0) (mC (.int 0))) :: ((tNm 2) :: []))) (mTup (mCons (m2 (m2 (mVar 0) (mC (.int 0)) gIx) (mVar 1) gDiv) (mCons (m2 (m2 (mVar 0) (mC (.int 0)) gIx) (mVar 1) gMod) mNil))))
    (sRet (mVar 2))) sNext)
    b_L_take_1
def m_L_take : List D → Hd → Option (D × Hd) := mDef 6 b_L_take

def c_L_take := c1V m_L_take
theorem con_L_take : Cl c_L_take m_L_take := cl_c1V _
def Hand (T : Nat) (o : O) : Prop := ∃ a b t : Int, o = .lst [.int a, .int b, .int t] ∧ 0 ≤ a ∧ 0 ≤ b ∧ b < 2 ^ 62 ∧ 0 ≤ t ∧ t ≤ T
theorem Hand.mono {T T' : Nat} {o : O} (h : Hand T o) (hT : T ≤ T') : Hand T' o := by
  obtain ⟨a, b, t, e, h1, h2, h3, h4, h5⟩ := h
  exact ⟨a, b, t, e, h1, h2, h3, h4, by omega⟩
theorem Hand.nr {T : Nat} {o : O} (h : Hand T o) : nrO o = true := by
  obtain ⟨a, b, t, rfl, _⟩ := h
  rfl
theorem hand_ok (ns : List Int) (k : Nat) (hk : k < 100) (hp : Hd) : ∃ o, c_L_hand [.scr ns, .int k] hp = some (.ref hp.length, hp ++ [o]) ∧ Hand 0 o := by
  have key : ∀ cell : Int, ∃ a b : Int, 0 ≤ a ∧ 0 ≤ b ∧ b < 2 ^ 62 ∧ a = cell * (if decide ((10 : Int) ^ 18 ≤ cell) = true then 1 else 0) ∧ b = cell % 2305843009213693951 + 7919 * k + 3 := by
    intro cell
    have h1 := Int.emod_nonneg cell (show (2305843009213693951 : Int) ≠ 0 by decide)
    have h2 := Int.emod_lt_of_pos cell (show (0 : Int) < 2305843009213693951 by decide)
    refine ⟨_, _, ?_, ?_, ?_, rfl, rfl⟩
    · split
      · rename_i h
        have := of_decide_eq_true h
        omega
      · omega
    · omega
    · omega
  have run : ∃ o g, m_L_hand [.scr ns, .int k] [] = some (.ref 0, o :: g) ∧ Hand 0 o := by
    by_cases hl : (k : Int) < (ns.length : Int)
    · have hk2 : k < ns.length := by omega
      obtain ⟨a, b, h1, h2, h3, ea, eb⟩ := key ns[k]
      refine ⟨.lst [.int a, .int b, .int 0], [], ?_, a, b, 0, rfl, h1, h2, h3, by omega, by omega⟩
      have hix : atI ns (k : Int) = some ns[k] := atI_nat (List.getElem?_eq_getElem hk2)
      have hb : decide ((k : Int) < (ns.length : Int)) = true := decide_eq_true hl
      have c1 : cMul ns[k] (if decide ((10 : Int) ^ 18 ≤ ns[k]) = true then 1 else 0) = true := cMul_of (.inr (by split <;> omega))
      have c2 : cMul 7919 (k : Int) = true := cMul_of (.inl (by omega))
      rw [ea, eb]
      simp [m_L_hand, b_L_hand, stD, hk2, gIx, hix, gLen, gPow, cPow, gInt, gMul_int, gMod_int, c1, c2, sizeLine_eq] at c1 c2 ⊢
      simp [gMul_int c1]
    · obtain ⟨a, b, h1, h2, h3, ea, eb⟩ := key 0
      refine ⟨.lst [.int a, .int b, .int 0], [], ?_, a, b, 0, rfl, h1, h2, h3, by omega, by omega⟩
      have hb : decide ((k : Int) < (ns.length : Int)) = false := decide_eq_false hl
      have c1 : cMul 0 (if decide ((10 : Int) ^ 18 ≤ 0) = true then 1 else 0) = true := by decide
      have c2 : cMul 7919 (k : Int) = true := cMul_of (.inl (by omega))
      rw [ea, eb]
      simp [m_L_hand, b_L_hand, stD, show ¬ k < ns.length by omega, gIx, gLen, gPow, cPow, gInt, gMul_int, gMod_int, c1, c2, sizeLine_eq] at c1 c2 ⊢
      simp [gMul_int c1]
  obtain ⟨o, g, e, ho⟩ := run
  refine ⟨o, ?_, ho⟩
  simp [c_L_hand, cN, nrs, D.alls, D.all, e, ho.nr]

theorem take_run (T : Nat) (hT : T < 1000000) (o : O) (h : Hand T o) (many : Int) (h1 : 0 < many) (h2 : many < 1073741824) : ∃ r o' g, m_L_take [.ref 0, .int many] [o] = some (.int r, o' :: g) ∧ 0 ≤ r ∧ r < many ∧ Hand (T + 1) o' := by
  obtain ⟨a, b, t, rfl, ha, hb, hb2, ht, ht2⟩ := h
  have cd : cDiv a many = true := cDiv_of ⟨h1, h2⟩
  by_cases hz : 0 < a
  · refine ⟨a % many, .lst [.int (a / many), .int b, .int t], [], ?_, Int.emod_nonneg _ (by omega), Int.emod_lt_of_pos _ h1, a / many, b, t, rfl, Int.ediv_nonneg ha (by omega), hb, hb2, ht, by omega⟩
    simp [m_L_take, b_L_take, stD, sAsgM_s, tTp_s, tTps_nil, tTps_cons, tNm_s, tSub_s, sizeLine_eq, gIx, atI, ixN, hz, gMod_int h1, gDiv_int cd, gSet]
  · have q1 : cMul 2 (t + 1) = true := cMul_of (.inl (by omega))
    have q2 : cMul (2 * (t + 1)) (t + 1) = true := cMul_of (.inl (by omega))
    have q3 : cMul 65537 (t + 1) = true := cMul_of (.inl (by omega))
    have q4 : cMul b (48271 + 2 * (t + 1) * (t + 1) + 65537 * (t + 1)) = true := cMul_of (.inl (by omega))
    have q5 : cMul (t + 1) 99991 = true := cMul_of (.inl (by omega))
    let mx := b * (48271 + 2 * (t + 1) * (t + 1) + 65537 * (t + 1)) % 2305843009213693921
    have hm1 : 0 ≤ mx := Int.emod_nonneg _ (by decide)
    have hm2 : mx < 2305843009213693921 := Int.emod_lt_of_pos _ (by decide)
    let ot := mx % 1000003 + (t + 1) * 99991 + 11
    have q6 : cMul mx ot = true := cMul_of (.inl (by omega))
    let m2' := mx * ot % 2305843009213693907
    have hn1 : 0 ≤ m2' := Int.emod_nonneg _ (by decide)
    have d1 : cDiv m2' 97 = true := cDiv_of (by omega)
    have d2 : cDiv m2' 1000033 = true := cDiv_of (by omega)
    refine ⟨(m2' / 97 + m2' / 1000033) % many, .lst [.int a, .int b, .int (t + 1)], [], ?_, Int.emod_nonneg _ (by omega), Int.emod_lt_of_pos _ h1, a, b, t + 1, rfl, ha, hb, hb2, by omega, by omega⟩
    simp only [mx, ot, m2'] at q6 d1 d2 ⊢
    simp [m_L_take, b_L_take, stD, sAsgM_s, tTp_s, tTps_nil, tTps_cons, tNm_s, tSub_s, sizeLine_eq, gIx, atI, ixN, hz, gMod_int h1, gMod_int, gMul_int q1, gMul_int q2, gMul_int q3, gMul_int q4, gMul_int q5, gMul_int q6, gDiv_int d1, gDiv_int d2, gSet]
theorem take_ok (T : Nat) (hT : T < 1000000) (hp : Hd) (n : Nat) (o : O) (e : hp[n]? = some o) (h : Hand T o) (many : Int) (h1 : 0 < many) (h2 : many < 1073741824) :
    ∃ r o', c_L_take [.ref n, .int many] hp = some (.int r, hp.set n o') ∧ 0 ≤ r ∧ r < many ∧ Hand (T + 1) o' := by
  obtain ⟨r, o', g, e1, e2, e3, h'⟩ := take_run T hT o h many h1 h2
  refine ⟨r, o', ?_, e2, e3, h'⟩
  simp [c_L_take, c1V, e, nrs, D.alls, D.all, h.nr, h'.nr, e1]
def b_L_pick : AS :=
    (sRet (m2 (mVar 1) (mAs (mCons (mVar 0) (mCons (mAs (mCons (mVar 1) mNil) gLen) mNil)) (ar 2 c_L_take)) gIx))
def m_L_pick : List D → Hd → Option (D × Hd) := mDef 2 b_L_pick
abbrev c_L_pick := m_L_pick

theorem pick_ok (T : Nat) (hT : T < 1000000) (hp : Hd) (n s : Nat) (hns : n ≠ s) (o : O) (e : hp[n]? = some o) (h : Hand T o) (xs : List D) (es : hp[s]? = some (.lst xs)) (h0 : xs ≠ []) (h1 : xs.length < 1073741824) :
    ∃ (i : Nat) (hi : i < xs.length) (o' : O), c_L_pick [.ref n, .ref s] hp = some (xs[i], hp.set n o') ∧ Hand (T + 1) o' := by
  have hl : 0 < xs.length := List.length_pos_iff.mpr h0
  obtain ⟨r, o', e1, e2, e3, h'⟩ := take_ok T hT hp n o e h (xs.length : Int) (by omega) (by omega)
  have hr : r.toNat < xs.length := by omega
  refine ⟨r.toNat, hr, o', ?_, h'⟩
  have hix : atI xs r = some xs[r.toNat] := by
    have := atI_nat (xs := xs) (j := r.toNat) (List.getElem?_eq_getElem hr)
    rwa [Int.toNat_of_nonneg e2] at this
  simp [c_L_pick, m_L_pick, b_L_pick, stD, gLen, es, e1, gIx, List.getElem?_set_ne hns, hix]

def E1_L_left : AE :=
    (mTup (mCons (mVar 3) (mCons (mVar 4) mNil)))
def C1_L_left : AA :=
    (mLc (mR1 (mCons (mC (.int 4)) mNil)) (.nm 4) [4] (mT (m2 (m2 (m2 (mVar 0) (mVar 3) gIx) (mVar 4) gIx) (mC .non) gIs)) E1_L_left)
def B1_L_left : AS :=
    (sDrop (mExt (mVar 2) C1_L_left))
def F1_L_left : AS := (sForI (mR1 (mCons (mVar 1) mNil)) (.nm 3) B1_L_left)
@[simp] def b_L_left_2 : AS :=
    (sRet (mVar 2))
@[simp] def b_L_left_1 : AS :=
    sSeq F1_L_left
    b_L_left_2
def b_L_left : AS :=
    sSeq (sSet 2 (mNew (mLst mNil)))
    b_L_left_1
def m_L_left : List D → Hd → Option (D × Hd) := mDef 5 b_L_left
abbrev c_L_left := m_L_left

theorem left_ok {hp : Hd} {r0 R n m : Nat} {P : PJ} (h : RowsAt hp r0 R n P) (hm : m ≤ n) (hn : n ≤ 100) : m_L_left [.ref R, .int (m : Nat)] hp = some (.ref hp.length, hp ++ [.lst ((opn P m).map fun p => T (pI p))]) := by
  obtain ⟨ls', hp', e, ⟨v3, v4, rfl, rfl⟩⟩ := sForI_pre (fi := mR1 (mCons (mVar 1) mNil)) (t := .nm 3) (b := B1_L_left) (gd := []) (items := List.range m) (hp1 := hp ++ [.lst []]) (hp := hp ++ [.lst []])
    (ls := [some (.ref R), some (.int (m : Nat)), some (.ref hp.length), none, none]) (fun i : Nat => D.int (i : Nat))
    (fun d ls hp' => ∃ v3 v4, ls = [some (.ref R), some (.int (m : Nat)), some (.ref hp.length), v3, v4] ∧ hp' = hp ++ [.lst ((opnL P d).map fun p => T (pI p))])
    (mR1_nat (j := m) rfl (by omega)) (fun _ _ _ _ => rfl) ⟨_, _, rfl, rfl⟩ (by
      rintro d f r ls hp' ed ⟨v3, v4, rfl, rfl⟩
      have hf : f < m := by
        have : f ∈ List.range m := by rw [ed]; simp
        exact List.mem_range.mp this
      have hd : d.length < m := by
        have := congrArg List.length ed
        rw [List.length_range, List.length_append, List.length_cons] at this
        omega
      have h' := h.old (l := [.lst ((opnL P d).map fun p => T (pI p))])
      have e1 := mLc_typed (fi := mR1 (mCons (mC (.int 4)) mNil)) (t := .nm 4) (own := [4]) (tt := mT (m2 (m2 (m2 (mVar 0) (mVar 3) gIx) (mVar 4) gIx) (mC .non) gIs)) (te := E1_L_left)
        (ls := [some (.ref R), some (.int (m : Nat)), some (.ref hp.length), some (.int (f : Nat)), v4]) (fun i : Nat => D.int (i : Nat)) (List.range 4) (fun i => (P f i).isNone) (fun i => T (pI (f, i)))
        (mR1_nat (j := 4) (hp := hp ++ [.lst ((opnL P d).map fun p => T (pI p))]) rfl (by decide)) (by rw [List.length_range, sizeLine_eq]; decide) rfl (fun i hi => by
          have hi := List.mem_range.mp hi
          refine ⟨_, asg_nm, ?_, fun _ => ?_⟩
          · have g1 := gIx_refN (j := f) h'.lst (x := .ref (r0 + f)) (by rw [List.getElem?_map, List.getElem?_range (by omega)]; rfl)
            have g2 := gIx_refN (j := i) (h'.row f (by omega)) (prow_at P f hi)
            simp only [mVar_s, mC_s, m2_s, m1_s, mT_s, mNil_s, mCons_s, mAs_s, ar_s, mNew_s, mTup_s, mLst_s, sNext_s, sSeq_s, sDrop_s, sRet_s, sIf_s2, sSet_s, sAsg_s, sPar_s, sStore_s, gAdd_int, gSub_int, gLt_int, gLe_int, gGt_int, gGe_int, gNeg_int, gEq_int, gNe_int,
 mIfE_s2, mAnd_s2, mOr_s2, mNot_s, mAndV_s2, mOrV_s2, mNotV_s, mChain_s2, mChain3_s, mL_s, m2L_s, mMet_s, mExt_s, mExtO_s, mIsi_s, mSl_s, mPo_n, mPo_s, mCat_s, mCatOL_s, mCatLO_s, mCatOO_s, mLRg1_s, mLRg2_s, mTRg1_s, mTRg2_s, mRep_s, sAsgL_s, sPar3_s, sAug_s, sBrk_s, sCnt_s, sRetN_s, tYesD_s, mSorted_s, mSortedL_s, mIS_s, mIL_s, mList_s, sAsgM_s, tNm_s, tSub_s, tTp_s, tTps_nil, tTps_cons, mDict0_s, asg_nm, asg_tp, asg_tpT, asgs_nil, asgs_cons, mDef_s,
 List.getElem?_cons_zero, List.getElem?_cons_succ, List.set_cons_zero, List.set_cons_succ, List.length_cons, List.length_nil, List.cons_append, List.nil_append, List.map_cons, List.map_nil, if_true, if_false, reduceIte, reduceCtorEq, Bool.false_eq_true, Bool.true_eq_false, decide_eq_true_eq, decide_true, decide_false, Bool.not_true, Bool.not_false, Nat.reduceAdd, Nat.reduceLeDiff, Nat.reduceLT, Nat.reduceEqDiff, Int.reduceLT, Int.reduceLE, Int.reduceAdd, Int.reduceSub, Int.reduceMul, Int.reduceNeg, isL, onL, gAppend, gPop, Ve.gTup, sizeLine_eq, wipeL, g1, g2, gIs_oD]
          · simp only [mVar_s, mC_s, m2_s, m1_s, mT_s, mNil_s, mCons_s, mAs_s, ar_s, mNew_s, mTup_s, mLst_s, sNext_s, sSeq_s, sDrop_s, sRet_s, sIf_s2, sSet_s, sAsg_s, sPar_s, sStore_s, gAdd_int, gSub_int, gLt_int, gLe_int, gGt_int, gGe_int, gNeg_int, gEq_int, gNe_int,
 mIfE_s2, mAnd_s2, mOr_s2, mNot_s, mAndV_s2, mOrV_s2, mNotV_s, mChain_s2, mChain3_s, mL_s, m2L_s, mMet_s, mExt_s, mExtO_s, mIsi_s, mSl_s, mPo_n, mPo_s, mCat_s, mCatOL_s, mCatLO_s, mCatOO_s, mLRg1_s, mLRg2_s, mTRg1_s, mTRg2_s, mRep_s, sAsgL_s, sPar3_s, sAug_s, sBrk_s, sCnt_s, sRetN_s, tYesD_s, mSorted_s, mSortedL_s, mIS_s, mIL_s, mList_s, sAsgM_s, tNm_s, tSub_s, tTp_s, tTps_nil, tTps_cons, mDict0_s, asg_nm, asg_tp, asg_tpT, asgs_nil, asgs_cons, mDef_s,
 List.getElem?_cons_zero, List.getElem?_cons_succ, List.set_cons_zero, List.set_cons_succ, List.length_cons, List.length_nil, List.cons_append, List.nil_append, List.map_cons, List.map_nil, if_true, if_false, reduceIte, reduceCtorEq, Bool.false_eq_true, Bool.true_eq_false, decide_eq_true_eq, decide_true, decide_false, Bool.not_true, Bool.not_false, Nat.reduceAdd, Nat.reduceLeDiff, Nat.reduceLT, Nat.reduceEqDiff, Int.reduceLT, Int.reduceLE, Int.reduceAdd, Int.reduceSub, Int.reduceMul, Int.reduceNeg, isL, onL, gAppend, gPop, Ve.gTup, sizeLine_eq, wipeL, E1_L_left]
            rfl)
      have il := isL_of (hp := hp ++ [.lst ((opnL P d).map fun p => T (pI p))]) (n := hp.length) hget_new
      have hsz : ((opnL P d).map fun p => T (pI p)).length + (((List.range 4).filter fun i => (P f i).isNone).map fun i => T (pI (f, i))).length ≤ sizeLine := by
        have h1 := opnL_len P d
        have h2 := List.length_filter_le (fun i => (P f i).isNone) (List.range 4)
        rw [List.length_range] at h2
        rw [List.length_map, List.length_map, sizeLine_eq]
        omega
      have on := onL_of (hp := hp ++ [.lst ((opnL P d).map fun p => T (pI p))]) (n := hp.length) (d := .non) (g := fun xs => if xs.length + (((List.range 4).filter fun i => (P f i).isNone).map fun i => T (pI (f, i))).length ≤ sizeLine then some (D.non, xs ++ ((List.range 4).filter fun i => (P f i).isNone).map fun i => T (pI (f, i))) else none) hget_new (if_pos hsz)
      have e1' : C1_L_left [some (.ref R), some (.int (m : Nat)), some (.ref hp.length), some (.int (f : Nat)), v4] (hp ++ [.lst ((opnL P d).map fun p => T (pI p))]) = _ := e1
      refine ⟨_, _, _, asg_nm, .inl (by
        unfold B1_L_left
        simp only [sDrop_s, mExt_s, mVar_s, List.getElem?_cons_zero, List.getElem?_cons_succ, List.set_cons_succ, List.set_cons_zero, il, if_true, e1', on]
        rfl), _, _, rfl, ?_⟩
      rw [List.set_append_right _ _ (Nat.le_refl _), Nat.sub_self, List.set_cons_zero]
      unfold opnL
      rw [List.flatMap_append, List.map_append, List.flatMap_singleton, List.map_map]
      rfl)
  have e' : F1_L_left [some (.ref R), some (.int (m : Nat)), some (.ref hp.length), none, none] (hp ++ [.lst []]) = some (.nx, _, _) := e
  rw [opnL_range] at e'
  exact def_of (sSeq_of (sSet_of (mNew_of (ds := []) rfl)) (sSeq_of e' (ret_of (mVar_of rfl))))
end Lw
namespace Lw
open PySem PySem.Spec L2 Ve
def E1_L_skin : AE :=
    (mNew (mRep (mLst (mCons (mC .non) mNil)) (mC (.int 4))))
def C1_L_skin : AA :=
    (mLc (mR1 (mCons (mVar 1) mNil)) (.nm 3) [3] tYesD E1_L_skin)
@[simp] def B1_L_skin_2 : AS :=
    (sAsgM (tTp ((tSub (m2 (mVar 2) (mVar 3) gIx) (mVar 6)) :: ((tSub (m2 (mVar 2) (mVar 4) gIx) (mVar 5)) :: []))) (mTup (mCons (mTup (mCons (mVar 4) (mCons (mVar 5) mNil))) (mCons (mTup (mCons (mVar 3) (mCons (mVar 6) mNil))) mNil))))
@[simp] def B1_L_skin_1 : AS :=
    sSeq (sSet 6 (mAs (mCons (mVar 0) (mCons (mC (.int 4)) mNil)) (ar 2 c_L_take)))
    B1_L_skin_2
def B1_L_skin : AS :=
    sSeq (sAsg (.tp ((.nm 4) :: ((.nm 5) :: []))) (mAs (mCons (mVar 0) (mCons (mAs (mCons (mVar 2) (mCons (mVar 3) mNil)) (ar 2 c_L_left)) mNil)) (ar 2 c_L_pick)))
    B1_L_skin_1
def F1_L_skin : AS := (sForI (mR2 (mCons (mC (.int 1)) (mCons (mVar 1) mNil))) (.nm 3) B1_L_skin)
@[simp] def B2_L_skin_2 : AS :=
    (sAsgM (tTp ((tSub (m2 (mVar 2) (mVar 3) gIx) (mVar 6)) :: ((tSub (m2 (mVar 2) (mVar 4) gIx) (mVar 5)) :: []))) (mTup (mCons (mTup (mCons (mVar 4) (mCons (mVar 5) mNil))) (mCons (mTup (mCons (mVar 3) (mCons (mVar 6) mNil))) mNil))))
@[simp] def B2_L_skin_1 : AS :=
    sSeq (sAsg (.tp ((.nm 4) :: ((.nm 5) :: []))) (mMet isL (mVar 7) (mCons (mAs (mCons (mVar 0) (mCons (mAs (mCons (mVar 7) mNil) gLen) mNil)) (ar 2 c_L_take)) mNil) gPopAt))
    B2_L_skin_2
def B2_L_skin : AS :=
    sSeq (sAsg (.tp ((.nm 3) :: ((.nm 6) :: []))) (mMet isL (mVar 7) (mCons (mC (.int 0)) mNil) gPopAt))
    B2_L_skin_1
def W2_L_skin : Nat → AS := sWhile (mT (m2L (mVar 7) (mLst mNil) (gEqL true))) B2_L_skin
def E2_L_skin : AE :=
    (mAs (mCons (mVar 8) mNil) gTupV)
def C2_L_skin : AA :=
    (mLc (mIS (mVar 2)) (.nm 8) [8] tYesD E2_L_skin)
@[simp] def b_L_skin_4 : AS :=
    (sRet (mL C2_L_skin gTup))
@[simp] def b_L_skin_3 : AS :=
    sSeq (W2_L_skin 1000000)
    b_L_skin_4
@[simp] def b_L_skin_2 : AS :=
    sSeq (sSet 7 (mAs (mCons (mVar 2) (mCons (mVar 1) mNil)) (ar 2 c_L_left)))
    b_L_skin_3
@[simp] def b_L_skin_1 : AS :=
    sSeq F1_L_skin
    b_L_skin_2
def b_L_skin : AS :=
    sSeq (sSet 2 (mNew C1_L_skin))
    b_L_skin_1
def m_L_skin : List D → Hd → Option (D × Hd) := mDef 9 b_L_skin

theorem e1_skin (ls : Ls) (hp : Hd) : E1_L_skin ls hp = some (.ref hp.length, hp ++ [.lst [.non, .non, .non, .non]]) := by
  unfold E1_L_skin
  refine mNew_of ?_
  have h : mLst (mCons (mC .non) mNil) ls hp = some ([.non], hp) := by
    rw [mLst_s, cons_of (d := .non) (ds := []) rfl rfl]
    exact if_pos (by rw [sizeLine_eq]; exact Nat.le_of_ble_eq_true rfl)
  rw [mRep_s, h]
  exact if_pos ⟨by omega, by omega, by rw [sizeLine_eq]; exact Nat.le_of_ble_eq_true rfl⟩
theorem none_row (i : Nat) : prow (fun _ _ => none) i = [.non, .non, .non, .non] := rfl
theorem store_ok {hp : Hd} {R n : Nat} {P : PJ} (h : RowsAt hp 1 R n P) {a b : Sd} (hab : a ≠ b) (ha : a.1 < n) (hb : b.1 < n) (hR : n < R) (ha2 : a.2 < 4) (hb2 : b.2 < 4) (v0 v1 v7 v8 : Option D) :
    ∃ hp2, B1_L_skin_2 [v0, v1, some (.ref R), some (.int (a.1 : Nat)), some (.int (b.1 : Nat)), some (.int (b.2 : Nat)), some (.int (a.2 : Nat)), v7, v8] hp = some (.nx, [v0, v1, some (.ref R), some (.int (a.1 : Nat)), some (.int (b.1 : Nat)), some (.int (b.2 : Nat)), some (.int (a.2 : Nat)), v7, v8], hp2) ∧
      RowsAt hp2 1 R n (upJ P a b) ∧ (∀ k, (∀ f, f < n → k ≠ 1 + f) → hp2[k]? = hp[k]?) ∧ hp2.length = hp.length := by
  obtain ⟨hp1, hp2, e1, h1, e2, h2, h3, h4⟩ := h.two hab ha hb (fun f hf => by omega) ha2 hb2
  refine ⟨hp2, ?_, h2, h3, h4⟩
  have g1 := h.at_ ha
  have g2 := h1.at_ hb
  have e1' : gSet (.ref (1 + a.1)) (.int (a.2 : Nat)) (.tup [.int (b.1 : Nat), .int (b.2 : Nat)]) hp = some hp1 := e1
  have e2' : gSet (.ref (1 + b.1)) (.int (b.2 : Nat)) (.tup [.int (a.1 : Nat), .int (a.2 : Nat)]) hp1 = some hp2 := e2
  unfold B1_L_skin_2
  simp only [mVar_s, mC_s, m2_s, m1_s, mT_s, mNil_s, mCons_s, mAs_s, ar_s, mNew_s, mTup_s, mLst_s, sNext_s, sSeq_s, sDrop_s, sRet_s, sIf_s2, sSet_s, sAsg_s, sPar_s, sStore_s, gAdd_int, gSub_int, gLt_int, gLe_int, gGt_int, gGe_int, gNeg_int, gEq_int, gNe_int,
 mIfE_s2, mAnd_s2, mOr_s2, mNot_s, mAndV_s2, mOrV_s2, mNotV_s, mChain_s2, mChain3_s, mL_s, m2L_s, mMet_s, mExt_s, mExtO_s, mIsi_s, mSl_s, mPo_n, mPo_s, mCat_s, mCatOL_s, mCatLO_s, mCatOO_s, mLRg1_s, mLRg2_s, mTRg1_s, mTRg2_s, mRep_s, sAsgL_s, sPar3_s, sAug_s, sBrk_s, sCnt_s, sRetN_s, tYesD_s, mSorted_s, mSortedL_s, mIS_s, mIL_s, mList_s, sAsgM_s, tNm_s, tSub_s, tTp_s, tTps_nil, tTps_cons, mDict0_s, asg_nm, asg_tp, asg_tpT, asgs_nil, asgs_cons, mDef_s,
 List.getElem?_cons_zero, List.getElem?_cons_succ, List.set_cons_zero, List.set_cons_succ, List.length_cons, List.length_nil, List.cons_append, List.nil_append, List.map_cons, List.map_nil, if_true, if_false, reduceIte, reduceCtorEq, Bool.false_eq_true, Bool.true_eq_false, decide_eq_true_eq, decide_true, decide_false, Bool.not_true, Bool.not_false, Nat.reduceAdd, Nat.reduceLeDiff, Nat.reduceLT, Nat.reduceEqDiff, Int.reduceLT, Int.reduceLE, Int.reduceAdd, Int.reduceSub, Int.reduceMul, Int.reduceNeg, isL, onL, gAppend, gPop, Ve.gTup, sizeLine_eq, Nat.zero_le, g1, e1', g2, e2']
def Sk1 (T0 n k : Nat) (ls : Ls) (hp : Hd) : Prop := ∃ P o v3 v4 v5 v6, ls = [some (.ref 0), some (.int (n : Nat)), some (.ref (n + 1)), v3, v4, v5, v6, none, none] ∧ RowsAt hp 1 (n + 1) n P ∧ hp[0]? = some o ∧ Hand (T0 + 2 * k) o ∧ PM n P ∧ (∀ f i, 1 + k ≤ f → P f i = none) ∧ (opn P (1 + k)).length = 2 * (1 + k) + 2 ∧ Lnk (1 + k) P ∧ n + 2 ≤ hp.length
theorem skin_step1 (T0 : Nat) (hT : T0 + 1000 < 1000000) {n k : Nat} (hn : n ≤ 100) (hd : k < n - 1) {ls : Ls} {hp : Hd} (h : Sk1 T0 n k ls hp) : ∃ ls2 hp2, B1_L_skin (ls.set 3 (some (.int ((1 + k : Nat) : Int)))) hp = some (.nx, ls2, hp2) ∧ Sk1 T0 n (k + 1) ls2 hp2 := by
  obtain ⟨P, o, v3, v4, v5, v6, rfl, rw_, g0, ho, pm, fr, len, lk, hl2⟩ := h
  have e1 := left_ok (m := 1 + k) rw_ (by omega) hn
  have ne : ((opn P (1 + k)).map fun p => T (pI p)) ≠ [] := fun z => by
    have := congrArg List.length z
    rw [List.length_map, len] at this
    simp at this
  have lel := opn_le P (1 + k)
  obtain ⟨q, hq, o1, e2, ho1⟩ := pick_ok (T0 + 2 * k) (by omega) (hp ++ [.lst ((opn P (1 + k)).map fun p => T (pI p))]) 0 hp.length (by omega) o (hget_old g0) ho _ hget_new ne (by rw [List.length_map]; omega)
  rw [List.length_map] at hq
  obtain ⟨⟨g, j⟩, hb⟩ : ∃ b, (opn P (1 + k))[q] = b := ⟨_, rfl⟩
  have hbm : (g, j) ∈ opn P (1 + k) := hb ▸ List.getElem_mem hq
  obtain ⟨⟨hg, hj⟩, hno⟩ := mem_opn.mp hbm
  dsimp only at hg hj hno
  rw [List.getElem_map, hb] at e2
  have g1 : ((hp ++ [O.lst ((opn P (1 + k)).map fun p => T (pI p))]).set 0 o1)[0]? = some o1 := hset_same (hget_old g0)
  have rw1 : RowsAt ((hp ++ [O.lst ((opn P (1 + k)).map fun p => T (pI p))]).set 0 o1) 1 (n + 1) n P := rw_.old.set (by omega) (fun f _ => by omega)
  have hl1 : ((hp ++ [O.lst ((opn P (1 + k)).map fun p => T (pI p))]).set 0 o1).length = hp.length + 1 := by rw [List.length_set, List.length_append]; rfl
  have a1 : sAsg (.tp ((.nm 4) :: ((.nm 5) :: []))) (mAs (mCons (mVar 0) (mCons (mAs (mCons (mVar 2) (mCons (mVar 3) mNil)) (ar 2 c_L_left)) mNil)) (ar 2 c_L_pick)) [some (.ref 0), some (.int (n : Nat)), some (.ref (n + 1)), some (.int ((1 + k : Nat) : Int)), v4, v5, v6, none, none] hp
      = some (.nx, [some (.ref 0), some (.int (n : Nat)), some (.ref (n + 1)), some (.int ((1 + k : Nat) : Int)), some (.int (g : Nat)), some (.int (j : Nat)), v6, none, none], (hp ++ [O.lst ((opn P (1 + k)).map fun p => T (pI p))]).set 0 o1) := by
    refine asg_of (call_of (cons_of (mVar_of rfl) (cons_of (call_of (cons_of (mVar_of rfl) (cons_of (mVar_of rfl) rfl)) rfl e1) rfl)) rfl e2) ?_
    rw [asg_tpT]
    rfl
  generalize (hp ++ [O.lst ((opn P (1 + k)).map fun p => T (pI p))]).set 0 o1 = hp1 at g1 rw1 hl1 a1
  obtain ⟨q, o2, e3, q1, q2, ho2⟩ := take_ok _ (by omega) hp1 0 o1 g1 ho1 4 (by decide) (by decide)
  obtain ⟨i, rfl⟩ := Int.eq_ofNat_of_zero_le q1
  have hi : i < 4 := by omega
  have a2 : sSet 6 (mAs (mCons (mVar 0) (mCons (mC (.int 4)) mNil)) (ar 2 c_L_take)) [some (.ref 0), some (.int (n : Nat)), some (.ref (n + 1)), some (.int ((1 + k : Nat) : Int)), some (.int (g : Nat)), some (.int (j : Nat)), v6, none, none] hp1
      = some (.nx, [some (.ref 0), some (.int (n : Nat)), some (.ref (n + 1)), some (.int ((1 + k : Nat) : Int)), some (.int (g : Nat)), some (.int (j : Nat)), some (.int (i : Nat)), none, none], hp1.set 0 o2) := by
    simp only [mVar_s, mC_s, m2_s, m1_s, mT_s, mNil_s, mCons_s, mAs_s, ar_s, mNew_s, mTup_s, mLst_s, sNext_s, sSeq_s, sDrop_s, sRet_s, sIf_s2, sSet_s, sAsg_s, sPar_s, sStore_s, gAdd_int, gSub_int, gLt_int, gLe_int, gGt_int, gGe_int, gNeg_int, gEq_int, gNe_int,
 mIfE_s2, mAnd_s2, mOr_s2, mNot_s, mAndV_s2, mOrV_s2, mNotV_s, mChain_s2, mChain3_s, mL_s, m2L_s, mMet_s, mExt_s, mExtO_s, mIsi_s, mSl_s, mPo_n, mPo_s, mCat_s, mCatOL_s, mCatLO_s, mCatOO_s, mLRg1_s, mLRg2_s, mTRg1_s, mTRg2_s, mRep_s, sAsgL_s, sPar3_s, sAug_s, sBrk_s, sCnt_s, sRetN_s, tYesD_s, mSorted_s, mSortedL_s, mIS_s, mIL_s, mList_s, sAsgM_s, tNm_s, tSub_s, tTp_s, tTps_nil, tTps_cons, mDict0_s, asg_nm, asg_tp, asg_tpT, asgs_nil, asgs_cons, mDef_s,
 List.getElem?_cons_zero, List.getElem?_cons_succ, List.set_cons_zero, List.set_cons_succ, List.length_cons, List.length_nil, List.cons_append, List.nil_append, List.map_cons, List.map_nil, if_true, if_false, reduceIte, reduceCtorEq, Bool.false_eq_true, Bool.true_eq_false, decide_eq_true_eq, decide_true, decide_false, Bool.not_true, Bool.not_false, Nat.reduceAdd, Nat.reduceLeDiff, Nat.reduceLT, Nat.reduceEqDiff, Int.reduceLT, Int.reduceLE, Int.reduceAdd, Int.reduceSub, Int.reduceMul, Int.reduceNeg, isL, onL, gAppend, gPop, Ve.gTup, sizeLine_eq, e3]
  have rw2 : RowsAt (hp1.set 0 o2) 1 (n + 1) n P := rw1.set (by omega) (fun f _ => by omega)
  have hab : ((1 + k, i) : Sd) ≠ (g, j) := fun z => by
    have := congrArg Prod.fst z
    dsimp only at this
    omega
  have han : P (1 + k) i = none := fr _ _ (Nat.le_refl _)
  obtain ⟨hp3, a3, rw3, fr3, hl3⟩ := store_ok rw2 (a := (1 + k, i)) (b := (g, j)) hab (by dsimp only; omega) (by dsimp only; omega) (by omega) hi hj (some (.ref 0)) (some (.int (n : Nat))) none none
  have g3 : hp3[0]? = some o2 := by
    rw [fr3 0 (fun f _ => by omega)]
    exact hset_same g1
  refine ⟨_, hp3, sSeq_of a1 (sSeq_of a2 a3), upJ P (1 + k, i) (g, j), o2, _, _, _, _, rfl, rw3, g3, ?_, ?_, fun f i' hf => ?_, ?_, ?_, ?_⟩
  · exact ho2.mono (by omega)
  · exact pm.up hab (mem_opn.mpr ⟨⟨by dsimp only; omega, hi⟩, han⟩) (mem_opn.mpr ⟨⟨by dsimp only; omega, hj⟩, hno⟩)
  · rw [upJ_o P (p := (f, i')) (fun z => by have := congrArg Prod.fst z; dsimp only at this; omega) (fun z => by have := congrArg Prod.fst z; dsimp only at this; omega)]
    exact fr f i' (by omega)
  · have h1 := opn_succ (P := P) (m := 1 + k) fun i => fr _ _ (Nat.le_refl _)
    have h2 := opn_up (P := P) (m := 1 + k + 1) (a := (1 + k, i)) (b := (g, j)) (mem_opn.mpr ⟨⟨by dsimp only; omega, hi⟩, han⟩) (mem_opn.mpr ⟨⟨by dsimp only; omega, hj⟩, hno⟩) hab
    rw [show 1 + (k + 1) = 1 + k + 1 by omega]
    omega
  · have lk' := lk.up (a := (1 + k, i)) (b := (g, j)) han hno
    intro f h0 hf
    by_cases hc : f < 1 + k
    · exact lk' f h0 hc
    · have : f = 1 + k := by omega
      subst this
      exact ⟨i, (g, j), hi, upJ_a P _ _, hg⟩
  · rw [hl3, List.length_set]
    omega
def Sk2 (T0 n q : Nat) (st : PJ × List Sd) (ls : Ls) (hp : Hd) : Prop := ∃ o v3 v4 v5 v6, ls = [some (.ref 0), some (.int (n : Nat)), some (.ref (n + 1)), v3, v4, v5, v6, some (.ref q), none] ∧ RowsAt hp 1 (n + 1) n st.1 ∧ hp[0]? = some o ∧ hp[q]? = some (.lst ((st.2.map pI).map T)) ∧ Hand (T0 + 2 * n + (2 * n + 2 - st.2.length)) o ∧ PM n st.1 ∧ Lnk n st.1 ∧ st.2.Nodup ∧ (∀ p, p ∈ st.2 ↔ p ∈ opn st.1 n) ∧ st.2.length % 2 = 0 ∧ st.2.length ≤ 2 * n + 2
theorem skin_step2 (T0 : Nat) (hT : T0 + 1000 < 1000000) {n q : Nat} (hn : n ≤ 100) (hq : n + 1 < q) {st : PJ × List Sd} {ls : Ls} {hp : Hd} (h : Sk2 T0 n q st ls hp) (hne : st.2 ≠ []) : ∃ st2 ls2 hp2, B2_L_skin ls hp = some (.nx, ls2, hp2) ∧ Sk2 T0 n q st2 ls2 hp2 ∧ st2.2.length < st.2.length := by
  obtain ⟨P, L⟩ := st
  obtain ⟨o, v3, v4, v5, v6, rfl, rw_, g0, gq, ho, pm, lk, nd, mem, ev_, le⟩ := h
  dsimp only at *
  cases L with
  | nil => exact absurd rfl hne
  | cons a r =>
    obtain ⟨hao, han⟩ := mem_opn.mp ((mem a).mp List.mem_cons_self)
    obtain ⟨nda, ndr⟩ := List.nodup_cons.mp nd
    have hr : r ≠ [] := fun z => by
      rw [z] at ev_
      simp at ev_
    have hr0 := List.length_pos_iff.mpr hr
    have e1 : gPopAt (.ref q) [.int ((0 : Nat) : Int)] hp = some (T (pI a), hp.set q (.lst ((r.map pI).map T))) := gPopAt_of gq rfl (by omega)
    have g1 : (hp.set q (.lst ((r.map pI).map T)))[q]? = some (.lst ((r.map pI).map T)) := hset_same gq
    have g01 : (hp.set q (.lst ((r.map pI).map T)))[0]? = some o := hset_ne (by omega) g0
    have rw1 : RowsAt (hp.set q (.lst ((r.map pI).map T))) 1 (n + 1) n P := rw_.set (by omega) (fun f hf => by omega)
    have il0 := isL_of gq
    generalize hp.set q (.lst ((r.map pI).map T)) = hp1 at e1 g1 g01 rw1
    have il1 := isL_of g1
    have e2 : gLen [.ref q] hp1 = some (.int (r.length : Nat), hp1) := by
      rw [gLen_lst g1, List.length_map, List.length_map]
    obtain ⟨x, o2, e3, x1, x2, ho2⟩ := take_ok _ (by omega) hp1 0 o g01 ho (r.length : Int) (by omega) (by rw [List.length_cons] at le; omega)
    obtain ⟨k, rfl⟩ := Int.eq_ofNat_of_zero_le x1
    have hk : k < r.length := by omega
    have g2 : (hp1.set 0 o2)[q]? = some (.lst ((r.map pI).map T)) := hset_ne (by omega) g1
    have g02 : (hp1.set 0 o2)[0]? = some o2 := hset_same g01
    have rw2 : RowsAt (hp1.set 0 o2) 1 (n + 1) n P := rw1.set (by omega) (fun f hf => by omega)
    generalize hp1.set 0 o2 = hp2 at e3 g2 g02 rw2
    obtain ⟨b, hb⟩ : ∃ b, r[k] = b := ⟨_, rfl⟩
    have hbr : b ∈ r := hb ▸ List.getElem_mem hk
    have e4 : gPopAt (.ref q) [.int (k : Nat)] hp2 = some (T (pI b), hp2.set q (.lst (((r.eraseIdx k).map pI).map T))) := by
      rw [gPopAt_of g2 (y := T (pI b)) (by rw [List.getElem?_map, List.getElem?_map, List.getElem?_eq_getElem hk, hb]; rfl) (by rw [List.length_cons] at le; omega), eraseIdx_map', eraseIdx_map']
    have g3 : (hp2.set q (.lst (((r.eraseIdx k).map pI).map T)))[q]? = some (.lst (((r.eraseIdx k).map pI).map T)) := hset_same g2
    have g03 : (hp2.set q (.lst (((r.eraseIdx k).map pI).map T)))[0]? = some o2 := hset_ne (by omega) g02
    have rw3 : RowsAt (hp2.set q (.lst (((r.eraseIdx k).map pI).map T))) 1 (n + 1) n P := rw2.set (by omega) (fun f hf => by omega)
    generalize hp2.set q (.lst (((r.eraseIdx k).map pI).map T)) = hp3 at e4 g3 g03 rw3
    obtain ⟨hbo, hbn⟩ := mem_opn.mp ((mem b).mp (List.mem_cons_of_mem _ hbr))
    have hab : a ≠ b := fun z => nda (by rw [z]; exact hbr)
    obtain ⟨hp4, e5, rw4, fr4, hl4⟩ := store_ok rw3 hab hao.1 hbo.1 (by omega) hao.2 hbo.2 (some (.ref 0)) (some (.int (n : Nat))) (some (.ref q)) none
    have hperm := cons_eraseIdx_perm r k hk
    rw [hb] at hperm
    have ndp : (b :: r.eraseIdx k).Nodup := hperm.nodup_iff.mpr ndr
    have hlen : (r.eraseIdx k).length + 1 = r.length := by
      rw [List.length_eraseIdx_of_lt hk]
      omega
    rw [List.length_cons] at ho2 le ev_
    have a1 : sAsg (.tp ((.nm 3) :: ((.nm 6) :: []))) (mMet isL (mVar 7) (mCons (mC (.int 0)) mNil) gPopAt) [some (.ref 0), some (.int (n : Nat)), some (.ref (n + 1)), v3, v4, v5, v6, some (.ref q), none] hp = some (.nx, [some (.ref 0), some (.int (n : Nat)), some (.ref (n + 1)), some (.int (a.1 : Nat)), v4, v5, some (.int (a.2 : Nat)), some (.ref q), none], hp1) := by
      refine asg_of (met_of (mVar_of rfl) il0 (cons_of rfl rfl) e1) ?_
      rw [asg_tpT]
      rfl
    have a2 : sAsg (.tp ((.nm 4) :: ((.nm 5) :: []))) (mMet isL (mVar 7) (mCons (mAs (mCons (mVar 0) (mCons (mAs (mCons (mVar 7) mNil) gLen) mNil)) (ar 2 c_L_take)) mNil) gPopAt) [some (.ref 0), some (.int (n : Nat)), some (.ref (n + 1)), some (.int (a.1 : Nat)), v4, v5, some (.int (a.2 : Nat)), some (.ref q), none] hp1 = some (.nx, [some (.ref 0), some (.int (n : Nat)), some (.ref (n + 1)), some (.int (a.1 : Nat)), some (.int (b.1 : Nat)), some (.int (b.2 : Nat)), some (.int (a.2 : Nat)), some (.ref q), none], hp3) := by
      refine asg_of (met_of (mVar_of rfl) il1 (cons_of (call_of (cons_of (mVar_of rfl) (cons_of (as_of (cons_of (mVar_of rfl) rfl) e2) rfl)) rfl e3) rfl) e4) ?_
      rw [asg_tpT]
      rfl
    refine ⟨(upJ P a b, r.eraseIdx k), _, hp4, sSeq_of a1 (sSeq_of a2 e5), ⟨o2, _, _, _, _, rfl, rw4, ?_, ?_, ?_, pm.up hab ((mem a).mp List.mem_cons_self) ((mem b).mp (List.mem_cons_of_mem _ hbr)), lk.up han hbn, (List.nodup_cons.mp ndp).2, fun p => ?_, ?_, ?_⟩, ?_⟩
    · rw [fr4 0 (fun f _ => by omega)]
      exact g03
    · rw [fr4 q (fun f _ => by omega)]
      exact g3
    · exact ho2.mono (by dsimp only; omega)
    · dsimp only
      have hm2 : p ∈ r ↔ p = b ∨ p ∈ r.eraseIdx k := by rw [← hperm.mem_iff, List.mem_cons]
      constructor
      · intro hp
        have hpr := hm2.mpr (.inr hp)
        have h1 : p ≠ a := fun z => nda (z ▸ hpr)
        have h2 : p ≠ b := fun z => (List.nodup_cons.mp ndp).1 (z ▸ hp)
        obtain ⟨q1, q2⟩ := mem_opn.mp ((mem p).mp (List.mem_cons_of_mem _ hpr))
        exact mem_opn.mpr ⟨q1, by rw [upJ_o P h1 h2]; exact q2⟩
      · intro hp
        obtain ⟨q1, q2⟩ := mem_opn.mp hp
        have h1 : p ≠ a := fun z => by rw [z, upJ_a] at q2; cases q2
        have h2 : p ≠ b := fun z => by rw [z, upJ_b P hab] at q2; cases q2
        rw [upJ_o P h1 h2] at q2
        have := (mem p).mpr (mem_opn.mpr ⟨q1, q2⟩)
        rcases List.mem_cons.mp this with z | z
        · exact absurd z h1
        · exact (hm2.mp z).resolve_left h2
    · dsimp only
      omega
    · dsimp only
      omega
    · dsimp only
      rw [List.length_cons]
      omega
theorem skin_run (T0 : Nat) (hT : T0 + 1000 < 1000000) (o : O) (ho : Hand T0 o) (n : Nat) (h1 : 1 ≤ n) (hn : n ≤ 100) : ∃ J o' g, m_L_skin [.ref 0, .int (n : Nat)] [o] = some (skD n J, o' :: g) ∧ Skin n J ∧ Hand (T0 + 5 * n + 5) o' := by
  obtain ⟨out, hp1, ec, ⟨rfl, rfl⟩⟩ := mLc_pre (fi := mR1 (mCons (mVar 1) mNil)) (t := .nm 3) (own := [3]) (te := E1_L_skin) (gd := []) (items := List.range n) (hp := [o]) (hp1 := [o])
    (ls := [some (.ref 0), some (.int (n : Nat)), none, none, none, none, none, none, none]) (fun i : Nat => D.int (i : Nat))
    (fun d out hp => out = d.map (fun f => D.ref (1 + f)) ∧ hp = o :: d.map fun f => O.lst (prow (fun _ _ => none) f)) (mR1_nat (j := n) rfl (by omega)) (by rw [List.length_range, sizeLine_eq]; omega) (fun _ _ _ _ => rfl) ⟨rfl, rfl⟩ (by
      rintro d x r out hp ed ⟨rfl, rfl⟩
      obtain ⟨rfl, hd⟩ := range_at ed
      refine ⟨_, .ref (1 + d.length), _, asg_nm, ?_, by rw [List.map_append]; rfl, rfl⟩
      simp only [List.set_cons_zero, List.set_cons_succ, wipeL, e1_skin]
      simp [Nat.add_comm, none_row])
  generalize eH : (o :: (List.range n).map fun f => O.lst (prow (fun _ _ => none) f)) = H at ec
  have hl : H.length = n + 1 := by rw [← eH]; simp
  have r0 : RowsAt (H ++ [.lst ((List.range n).map fun f => D.ref (1 + f))]) 1 (n + 1) n (fun _ _ => none) := by
    refine ⟨by rw [← hl]; exact hget_new, fun f hf => hget_old ?_⟩
    rw [← eH, Nat.add_comm, List.getElem?_cons_succ, List.getElem?_map, List.getElem?_range hf]
    rfl
  have g0 : (H ++ [.lst ((List.range n).map fun f => D.ref (1 + f))])[0]? = some o := hget_old (by rw [← eH]; rfl)
  have ec' : C1_L_skin [some (.ref 0), some (.int (n : Nat)), none, none, none, none, none, none, none] [o] = some (_, H) := ec
  have lH0 : (H ++ [O.lst ((List.range n).map fun f => D.ref (1 + f))]).length = n + 2 := by rw [List.length_append, hl]; rfl
  have s0 := sSet_of (i := 2) (mNew_of ec')
  rw [hl] at s0
  generalize H ++ [.lst ((List.range n).map fun f => D.ref (1 + f))] = H0 at r0 g0 lH0 s0
  obtain ⟨ls2, H2, e2, h2⟩ := sForI_pre (fi := mR2 (mCons (mC (.int 1)) (mCons (mVar 1) mNil))) (t := .nm 3) (b := B1_L_skin) (gd := []) (items := List.range (n - 1)) (hp := H0) (hp1 := H0)
    (ls := [some (.ref 0), some (.int (n : Nat)), some (.ref (n + 1)), none, none, none, none, none, none]) (fun k : Nat => D.int ((1 + k : Nat) : Int)) (fun d ls hp => Sk1 T0 n d.length ls hp)
    (mR2_nat (i := 1) (j := n) rfl (by omega)) (fun _ _ _ _ => rfl) ⟨fun _ _ => none, o, _, _, _, _, rfl, r0, g0, ho, (fun f i p _ _ e => nomatch e), (fun _ _ _ => rfl), (by decide), (fun f h0 hf => by simp at hf; omega), (by omega)⟩ (by
      rintro d x r ls hp ed h
      obtain ⟨rfl, hd⟩ := range_at ed
      obtain ⟨ls2, hp2, e, h2⟩ := skin_step1 T0 hT hn hd h
      exact ⟨_, _, _, asg_nm, .inl e, by rw [List.length_append]; exact h2⟩)
  rw [List.length_range] at h2
  obtain ⟨P, o2, v3, v4, v5, v6, rfl, r2, g2, ho2, pm2, _, len2, lk2, l2⟩ := h2
  rw [show 1 + (n - 1) = n by omega] at len2 lk2
  have e3 := left_ok r2 (Nat.le_refl n) hn
  have s3 := sSet_of (i := 7) (call_of (fr := mCons (mVar 2) (mCons (mVar 1) mNil)) (k := 2) (g := c_L_left) (ls := [some (.ref 0), some (.int (n : Nat)), some (.ref (n + 1)), v3, v4, v5, v6, none, none]) (cons_of (mVar_of rfl) (cons_of (mVar_of rfl) rfl)) rfl e3)
  obtain ⟨⟨P', L'⟩, ls4, H4, e4, h4, d4⟩ := sWhile_rel (S := PJ × List Sd) (c := mT (m2L (mVar 7) (mLst mNil) (gEqL true))) (b := B2_L_skin) (Sk2 T0 n H2.length) (fun st => st.2 = []) (fun st => st.2.length) (fun st ls hp h => by
    have h' := h
    obtain ⟨o, v3, v4, v5, v6, rfl, rw_, g0, gq, ho, pm, lk, nd, mem, ev_, le⟩ := h
    have ct := eT.gEqL_nil (by decide) gq true
    have cc : mT (m2L (mVar 7) (mLst mNil) (gEqL true)) [some (.ref 0), some (.int (n : Nat)), some (.ref (n + 1)), v3, v4, v5, v6, some (.ref H2.length), none] hp = some (!(st.2.map pI).isEmpty, hp) := by
      rw [mT_s, m2L_s, mVar_of (d := .ref H2.length) rfl]
      dsimp only
      rw [lst_of nil_of (Nat.zero_le _)]
      dsimp only
      rw [ct]
      rfl
    by_cases hz : st.2 = []
    · refine .inl ⟨?_, hz⟩
      rw [cc, hz]
      rfl
    · refine .inr ⟨?_, ?_⟩
      · rw [cc]
        cases hh : st.2 with
        | nil => exact absurd hh hz
        | cons _ _ => rfl
      · obtain ⟨st2, ls2, hp2, a, b, c⟩ := skin_step2 T0 hT hn (by omega) h' hz
        exact ⟨st2, ls2, hp2, .inl a, b, c⟩) 1000000 (P, opn P n) [some (.ref 0), some (.int (n : Nat)), some (.ref (n + 1)), v3, v4, v5, v6, some (.ref H2.length), none] (H2 ++ [O.lst ((opn P n).map fun p => T (pI p))])
    (by dsimp only; omega) ⟨o2, _, _, _, _, rfl, r2.old, hget_old g2, by rw [List.map_map]; exact hget_new, ho2.mono (by omega), pm2, lk2, opn_nodup P n, fun p => Iff.rfl, by dsimp only; omega, by dsimp only; omega⟩
  obtain ⟨o4, w3, w4, w5, w6, rfl, r4, g4, gq4, ho4, pm4, lk4, nd4, mem4, _, _⟩ := h4
  dsimp only at d4 r4 pm4 lk4 mem4 ho4
  subst d4
  have op4 : opn P' n = [] := by
    cases hh : opn P' n with
    | nil => rfl
    | cons x l =>
      have := (mem4 x).mpr (by rw [hh]; exact List.mem_cons_self)
      cases this
  have sk := skin_of h1 pm4 lk4 op4
  have full : ∀ f i, f < n → i < 4 → P' f i = some (endJ P' f i) := fun f i hf hi => by
    cases e : P' f i with
    | none =>
      have : (f, i) ∈ opn P' n := mem_opn.mpr ⟨⟨hf, hi⟩, e⟩
      rw [op4] at this
      cases this
    | some p => simp [endJ, e]
  have e5 := mLc_typed (fi := mIS (mVar 2)) (t := .nm 8) (own := [8]) (tt := tYesD) (te := E2_L_skin) (ls := [some (.ref 0), some (.int (n : Nat)), some (.ref (n + 1)), w3, w4, w5, w6, some (.ref H2.length), none]) (fun f : Nat => D.ref (1 + f)) (List.range n) (fun _ => true) (fun f => TT (rowI (endJ P') f))
    (mIS_ref (fa := mVar 2) (mVar_of rfl) r4.lst) (by rw [List.length_range, sizeLine_eq]; omega) (gdOk1 r4.lst) (fun f hf => by
      have hf := List.mem_range.mp hf
      refine ⟨_, asg_nm, rfl, fun _ => ?_⟩
      have e : gTupV [.ref (1 + f)] H4 = some (.tup (prow P' f), H4) := by
        show (match seqOfL (.ref (1 + f)) H4 with
          | some ds => some (D.tup ds, H4)
          | none => none) = _
        rw [show seqOfL (.ref (1 + f)) H4 = some (prow P' f) from lstOf_ref (r4.row f hf)]
      have e2 : D.tup (prow P' f) = TT (rowI (endJ P') f) := by
        rw [rowI_tup]
        have h : (List.range 4).map (fun i => oD (P' f i)) = (List.range 4).map (fun i => oD (some (endJ P' f i))) := List.map_congr_left fun i hi => congrArg oD (full f i hf (List.mem_range.mp hi))
        unfold prow
        rw [h]
        rfl
      rw [e2] at e
      exact as_of (cons_of (mVar_of rfl) rfl) e)
  rw [List.filter_eq_self.mpr (fun _ _ => rfl)] at e5
  have e5' : mL C2_L_skin gTup [some (.ref 0), some (.int (n : Nat)), some (.ref (n + 1)), w3, w4, w5, w6, some (.ref H2.length), none] H4 = some (skD n (endJ P'), H4) := by
    rw [skD_tup]
    exact (mL_of e5).trans rfl
  have e4' : W2_L_skin 1000000 [some (.ref 0), some (.int (n : Nat)), some (.ref (n + 1)), v3, v4, v5, v6, some (.ref H2.length), none] (H2 ++ [O.lst ((opn P n).map fun p => T (pI p))]) = _ := e4
  have e2' : F1_L_skin [some (.ref 0), some (.int (n : Nat)), some (.ref (n + 1)), none, none, none, none, none, none] H0 = _ := e2
  cases H4 with
  | nil => cases g4
  | cons o' g =>
    cases g4
    exact ⟨endJ P', _, g, def_of (sSeq_of s0 (sSeq_of e2' (sSeq_of s3 (sSeq_of e4' (ret_of e5'))))), sk, ho4.mono (by dsimp only [List.length_nil]; omega)⟩
def c_L_skin := c1V m_L_skin
theorem con_L_skin : Cl c_L_skin m_L_skin := cl_c1V _
theorem skin_ok (T0 : Nat) (hT : T0 + 1000 < 1000000) (hp : Hd) (k : Nat) (o : O) (e : hp[k]? = some o) (ho : Hand T0 o) (n : Nat) (h1 : 1 ≤ n) (hn : n ≤ 100) : ∃ J o', c_L_skin [.ref k, .int (n : Nat)] hp = some (skD n J, hp.set k o') ∧ Skin n J ∧ Hand (T0 + 5 * n + 5) o' := by
  obtain ⟨J, o', g, em, sk, ho'⟩ := skin_run T0 hT o ho n h1 hn
  exact ⟨J, o', c1V_of e rfl ho.nr em (nr_sk n J) ho'.nr, sk, ho'⟩
def b_L_many : AS :=
    (sRet (mAs (mCons (mVar 0) (mCons (mNew (mLst (mCons (mC (.int 1)) (mCons (mC (.int 2)) (mCons (mC (.int 3)) (mCons (mC (.int 4)) (mCons (mC (.int 5)) (mCons (mC (.int 6)) (mCons (mC (.int 7)) (mCons (m2 (mC (.int 8)) (mAs (mCons (mVar 0) (mCons (mC (.int 5)) mNil)) (ar 2 c_L_take)) gAdd) mNil)))))))))) mNil)) (ar 2 c_L_pick)))
def m_L_many : List D → Hd → Option (D × Hd) := mDef 1 b_L_many
abbrev c_L_many := m_L_many

theorem many_ok (T0 : Nat) (hT : T0 + 1000 < 1000000) (hp : Hd) (k : Nat) (o : O) (e : hp[k]? = some o) (ho : Hand T0 o) : ∃ (n : Nat) (o' : O) (x : O), m_L_many [.ref k] hp = some (.int (n : Nat), (hp.set k o' ++ [x])) ∧ (1 ≤ n ∧ n ≤ 12) ∧ Hand (T0 + 2) o' := by
  have hk := hlt e
  obtain ⟨r, o1, e1, r1, r2, ho1⟩ := take_ok T0 (by omega) hp k o e ho 5 (by decide) (by decide)
  obtain ⟨q, rfl⟩ := Int.eq_ofNat_of_zero_le r1
  have hl : (hp.set k o1).length = hp.length := List.length_set
  obtain ⟨i, hi, o2, e2, ho2⟩ := pick_ok (T0 + 1) (by omega) (hp.set k o1 ++ [.lst [.int 1, .int 2, .int 3, .int 4, .int 5, .int 6, .int 7, .int (8 + (q : Nat))]]) k hp.length (by omega) o1 (hget_old (hset_same e)) ho1 _ (by rw [← hl]; exact hget_new) (by simp) (by show 8 < 1073741824; decide)
  have hn : ∃ n : Nat, ([D.int 1, .int 2, .int 3, .int 4, .int 5, .int 6, .int 7, .int (8 + (q : Nat))] : List D)[i] = .int (n : Nat) ∧ 1 ≤ n ∧ n ≤ 12 := by
    have hi8 : i < 8 := hi
    rcases (show i = 0 ∨ i = 1 ∨ i = 2 ∨ i = 3 ∨ i = 4 ∨ i = 5 ∨ i = 6 ∨ i = 7 by omega) with rfl | rfl | rfl | rfl | rfl | rfl | rfl | rfl
    · exact ⟨1, rfl, by omega⟩
    · exact ⟨2, rfl, by omega⟩
    · exact ⟨3, rfl, by omega⟩
    · exact ⟨4, rfl, by omega⟩
    · exact ⟨5, rfl, by omega⟩
    · exact ⟨6, rfl, by omega⟩
    · exact ⟨7, rfl, by omega⟩
    · exact ⟨8 + q, rfl, by omega⟩
  obtain ⟨n, en, n1, n2⟩ := hn
  rw [en] at e2
  refine ⟨n, o2, .lst [.int 1, .int 2, .int 3, .int 4, .int 5, .int 6, .int 7, .int (8 + (q : Nat))], ?_, ⟨n1, n2⟩, ho2⟩
  have e3 : (hp.set k o1 ++ [O.lst [.int 1, .int 2, .int 3, .int 4, .int 5, .int 6, .int 7, .int (8 + (q : Nat))]]).set k o2 = hp.set k o2 ++ [O.lst [.int 1, .int 2, .int 3, .int 4, .int 5, .int 6, .int 7, .int (8 + (q : Nat))]] := by
    rw [List.set_append_left _ _ (by omega), List.set_set]
  rw [e3, ← hl] at e2
  refine def_of (ret_of (call_of (cons_of (mVar_of rfl) (cons_of (mNew_of (lst_of (cons_of rfl (cons_of rfl (cons_of rfl (cons_of rfl (cons_of rfl (cons_of rfl (cons_of rfl (cons_of (m2_ev rfl (call_of (cons_of (mVar_of rfl) (cons_of rfl rfl)) rfl e1) gAdd_int) rfl)))))))) (by show 8 ≤ 1000; decide))) rfl)) rfl e2))

end Lw
namespace Lw
open PySem PySem.Spec L2 Ve
def B1_seams : AS :=
    (sIf (mT (m2 (mTup (mCons (mVar 2) (mCons (mVar 4) mNil))) (mTup (mCons (mVar 5) (mCons (mVar 6) mNil))) gLt)) (sDrop (mMet isL (mVar 1) (mCons (mTup (mCons (mVar 2) (mCons (mVar 4) (mCons (mVar 5) (mCons (mVar 6) mNil))))) mNil) gAppend)) sNext)
def F1_seams : AS := (sForI (mEnum (mVar 3)) (.tp ((.nm 4) :: ((.tp ((.nm 5) :: ((.nm 6) :: []))) :: []))) B1_seams)
def B2_seams : AS :=
    F1_seams
def F2_seams : AS := (sForI (mEnum (mVar 0)) (.tp ((.nm 2) :: ((.nm 3) :: []))) B2_seams)
@[simp] def b_seams_2 : AS :=
    (sRet (mVar 1))
@[simp] def b_seams_1 : AS :=
    sSeq F2_seams
    b_seams_2
def b_seams : AS :=
    sSeq (sSet 1 (mNew (mLst mNil)))
    b_seams_1
def m_seams : List D → Hd → Option (D × Hd) := mDef 7 b_seams

def c_seams := cN m_seams
theorem con_seams : Cl c_seams m_seams := cl_cN _
theorem seams_step (n : Nat) (J : Nat → Nat → Sd) (f : Nat) (hf : f < n) (hn : n ≤ 130) (X : List Sd) (hX : X.length ≤ 4 * n) (v4 v5 v6 : Option D) :
    ∃ w4 w5 w6, F1_seams [some (skD n J), some (.ref 0), some (.int (f : Nat)), some (TT (rowI J f)), v4, v5, v6] [.lst ((X.map (smI J)).map T)] = some (.nx, [some (skD n J), some (.ref 0), some (.int (f : Nat)), some (TT (rowI J f)), w4, w5, w6], [.lst (((X ++ smf J f (List.range 4)).map (smI J)).map T)]) := by
  obtain ⟨ls', hp', e, w4, w5, w6, rfl, rfl⟩ := sForI_pre (fi := mEnum (mVar 3)) (t := .tp ((.nm 4) :: ((.tp ((.nm 5) :: ((.nm 6) :: []))) :: []))) (b := B1_seams) (gd := []) (items := List.range 4) (hp := [.lst ((X.map (smI J)).map T)]) (hp1 := [.lst ((X.map (smI J)).map T)])
    (ls := [some (skD n J), some (.ref 0), some (.int (f : Nat)), some (TT (rowI J f)), v4, v5, v6]) (fun i : Nat => D.tup [.int (i : Nat), T (pI (J f i))])
    (fun d ls hp => ∃ w4 w5 w6, ls = [some (skD n J), some (.ref 0), some (.int (f : Nat)), some (TT (rowI J f)), w4, w5, w6] ∧ hp = [.lst (((X ++ smf J f d).map (smI J)).map T)])
    (mEnum_row (mVar_of rfl)) (fun _ _ _ _ => rfl) ⟨_, _, _, rfl, by rw [show smf J f [] = [] from rfl, List.append_nil]⟩ (by
      rintro d i r ls hp ed ⟨w4, w5, w6, rfl, rfl⟩
      obtain ⟨rfl, hd⟩ := range_at ed
      have hl : ((X ++ smf J f d).map (smI J)).length ≤ 4 * n + 4 := by
        have := smf_len J f d
        rw [List.length_map, List.length_append]
        omega
      generalize hY : X ++ smf J f d = Y at hl
      have hlt : mT (m2 (mTup (mCons (mVar 2) (mCons (mVar 4) mNil))) (mTup (mCons (mVar 5) (mCons (mVar 6) mNil))) gLt) [some (skD n J), some (.ref 0), some (.int (f : Nat)), some (TT (rowI J f)), some (.int (d.length : Nat)), some (.int ((J f d.length).1 : Nat)), some (.int ((J f d.length).2 : Nat))] [.lst ((Y.map (smI J)).map T)]
          = some (decide (pI (f, d.length) < pI (J f d.length)), [.lst ((Y.map (smI J)).map T)]) :=
        mT_of (m2_ev (tup_of (cons_of (mVar_of rfl) (cons_of (mVar_of rfl) rfl)) (by show 2 ≤ 1000; decide)) (tup_of (cons_of (mVar_of rfl) (cons_of (mVar_of rfl) rfl)) (by show 2 ≤ 1000; decide)) (gLt_T (pI (f, d.length)) (pI (J f d.length))))
      have asg : Tg.asg (.tp ((.nm 4) :: ((.tp ((.nm 5) :: ((.nm 6) :: []))) :: []))) (D.tup [.int (d.length : Nat), T (pI (J f d.length))]) [some (skD n J), some (.ref 0), some (.int (f : Nat)), some (TT (rowI J f)), w4, w5, w6] = some [some (skD n J), some (.ref 0), some (.int (f : Nat)), some (TT (rowI J f)), some (.int (d.length : Nat)), some (.int ((J f d.length).1 : Nat)), some (.int ((J f d.length).2 : Nat))] := by
        simp only [asg_tp, asgs_cons, asgs_nil, asg_nm, asg_tpT, List.set_cons_succ, List.set_cons_zero, pI, List.map_cons, List.map_nil]
      by_cases hc : pI (f, d.length) < pI (J f d.length)
      · refine ⟨_, _, [.lst (((Y ++ [(f, d.length)]).map (smI J)).map T)], asg, .inl (if_ev (hlt.trans (by rw [decide_eq_true hc])) ?_), some (.int (d.length : Nat)), some (.int ((J f d.length).1 : Nat)), some (.int ((J f d.length).2 : Nat)), rfl, ?_⟩
        · rw [List.map_append, List.map_append]
          exact sDrop_of (met_of (hp2 := [.lst ((Y.map (smI J)).map T)]) (mVar_of rfl) (isL_of rfl) (cons_of (tup_of (ds := [.int (f : Nat), .int (d.length : Nat), .int ((J f d.length).1 : Nat), .int ((J f d.length).2 : Nat)]) (cons_of (mVar_of rfl) (cons_of (mVar_of rfl) (cons_of (mVar_of rfl) (cons_of (mVar_of rfl) rfl)))) (by show 4 ≤ 1000; decide)) rfl) (gAppend_of (xs := (Y.map (smI J)).map T) rfl (by rw [List.length_map]; omega)))
        · have : smf J f (d ++ [d.length]) = smf J f d ++ [(f, d.length)] := by
            unfold smf
            rw [List.filter_append, List.map_append, List.filter_cons, if_pos (decide_eq_true hc)]
            rfl
          rw [this, ← List.append_assoc, hY]
      · refine ⟨_, _, _, asg, .inl (if_ev (hlt.trans (by rw [decide_eq_false hc])) rfl), some (.int (d.length : Nat)), some (.int ((J f d.length).1 : Nat)), some (.int ((J f d.length).2 : Nat)), rfl, ?_⟩
        have : smf J f (d ++ [d.length]) = smf J f d := by
          unfold smf
          rw [List.filter_append, List.filter_cons, if_neg (by simpa using hc)]
          simp
        rw [this, hY])
  exact ⟨w4, w5, w6, e⟩
theorem seams_ok {n : Nat} {J : Nat → Nat → Sd} (hn : n ≤ 130) (hp : Hd) : c_seams [skD n J] hp = some (.ref hp.length, hp ++ [.lst (((sms n J).map (smI J)).map T)]) := by
  obtain ⟨ls', hp', e, w2, w3, w4, w5, w6, rfl, rfl⟩ := sForI_pre (fi := mEnum (mVar 0)) (t := .tp ((.nm 2) :: ((.nm 3) :: []))) (b := B2_seams) (gd := []) (items := List.range n) (hp := [.lst []]) (hp1 := [.lst []])
    (ls := [some (skD n J), some (.ref 0), none, none, none, none, none]) (fun f : Nat => D.tup [.int (f : Nat), TT (rowI J f)])
    (fun d ls hp => ∃ w2 w3 w4 w5 w6, ls = [some (skD n J), some (.ref 0), w2, w3, w4, w5, w6] ∧ hp = [.lst (((d.flatMap fun f => smf J f (List.range 4)).map (smI J)).map T)])
    (mEnum_sk (mVar_of rfl)) (fun _ _ _ _ => rfl) ⟨_, _, _, _, _, rfl, rfl⟩ (by
      rintro d f r ls hp ed ⟨w2, w3, w4, w5, w6, rfl, rfl⟩
      obtain ⟨rfl, hd⟩ := range_at ed
      have hl := smfs_len J d
      obtain ⟨x4, x5, x6, e⟩ := seams_step n J d.length hd hn (d.flatMap fun f => smf J f (List.range 4)) (by omega) w4 w5 w6
      have asg : Tg.asg (.tp ((.nm 2) :: ((.nm 3) :: []))) (D.tup [.int (d.length : Nat), TT (rowI J d.length)]) [some (skD n J), some (.ref 0), w2, w3, w4, w5, w6] = some [some (skD n J), some (.ref 0), some (.int (d.length : Nat)), some (TT (rowI J d.length)), w4, w5, w6] := by
        simp only [asg_tp, asgs_cons, asgs_nil, asg_nm, List.set_cons_succ, List.set_cons_zero]
      exact ⟨_, _, _, asg, .inl e, _, _, _, _, _, rfl, by rw [List.flatMap_append, List.flatMap_singleton]⟩)
  rw [smf_range] at e
  have e' : F2_seams [some (skD n J), some (.ref 0), none, none, none, none, none] [.lst []] = _ := e
  exact cN_of (k := 0) (by show (nr (skD n J) && true) = true; rw [nr_sk]; rfl) (def_of (sSeq_of (sSet_of (mNew_of (ds := []) rfl)) (sSeq_of e' (ret_of (mVar_of rfl))))) rfl (nrO_Ts _)

def B1_L_seams : AS :=
    (sIf (mT (m2 (mTup (mCons (mVar 2) (mCons (mVar 4) mNil))) (mTup (mCons (mVar 5) (mCons (mVar 6) mNil))) gLt)) (sDrop (mMet isL (mVar 1) (mCons (mTup (mCons (mVar 2) (mCons (mVar 4) (mCons (mVar 5) (mCons (mVar 6) mNil))))) mNil) gAppend)) sNext)
def F1_L_seams : AS := (sForI (mEnum (mVar 3)) (.tp ((.nm 4) :: ((.tp ((.nm 5) :: ((.nm 6) :: []))) :: []))) B1_L_seams)
def B2_L_seams : AS :=
    F1_L_seams
def F2_L_seams : AS := (sForI (mEnum (mVar 0)) (.tp ((.nm 2) :: ((.nm 3) :: []))) B2_L_seams)
@[simp] def b_L_seams_2 : AS :=
    (sRet (mVar 1))
@[simp] def b_L_seams_1 : AS :=
    sSeq F2_L_seams
    b_L_seams_2
def b_L_seams : AS :=
    sSeq (sSet 1 (mNew (mLst mNil)))
    b_L_seams_1
def m_L_seams : List D → Hd → Option (D × Hd) := mDef 7 b_L_seams

def c_L_seams := cN m_L_seams
theorem con_L_seams : Cl c_L_seams m_L_seams := cl_cN _
theorem L_seams_step (n : Nat) (J : Nat → Nat → Sd) (f : Nat) (hf : f < n) (hn : n ≤ 130) (X : List Sd) (hX : X.length ≤ 4 * n) (v4 v5 v6 : Option D) :
    ∃ w4 w5 w6, F1_L_seams [some (skD n J), some (.ref 0), some (.int (f : Nat)), some (TT (rowI J f)), v4, v5, v6] [.lst ((X.map (smI J)).map T)] = some (.nx, [some (skD n J), some (.ref 0), some (.int (f : Nat)), some (TT (rowI J f)), w4, w5, w6], [.lst (((X ++ smf J f (List.range 4)).map (smI J)).map T)]) := by
  obtain ⟨ls', hp', e, w4, w5, w6, rfl, rfl⟩ := sForI_pre (fi := mEnum (mVar 3)) (t := .tp ((.nm 4) :: ((.tp ((.nm 5) :: ((.nm 6) :: []))) :: []))) (b := B1_L_seams) (gd := []) (items := List.range 4) (hp := [.lst ((X.map (smI J)).map T)]) (hp1 := [.lst ((X.map (smI J)).map T)])
    (ls := [some (skD n J), some (.ref 0), some (.int (f : Nat)), some (TT (rowI J f)), v4, v5, v6]) (fun i : Nat => D.tup [.int (i : Nat), T (pI (J f i))])
    (fun d ls hp => ∃ w4 w5 w6, ls = [some (skD n J), some (.ref 0), some (.int (f : Nat)), some (TT (rowI J f)), w4, w5, w6] ∧ hp = [.lst (((X ++ smf J f d).map (smI J)).map T)])
    (mEnum_row (mVar_of rfl)) (fun _ _ _ _ => rfl) ⟨_, _, _, rfl, by rw [show smf J f [] = [] from rfl, List.append_nil]⟩ (by
      rintro d i r ls hp ed ⟨w4, w5, w6, rfl, rfl⟩
      obtain ⟨rfl, hd⟩ := range_at ed
      have hl : ((X ++ smf J f d).map (smI J)).length ≤ 4 * n + 4 := by
        have := smf_len J f d
        rw [List.length_map, List.length_append]
        omega
      generalize hY : X ++ smf J f d = Y at hl
      have hlt : mT (m2 (mTup (mCons (mVar 2) (mCons (mVar 4) mNil))) (mTup (mCons (mVar 5) (mCons (mVar 6) mNil))) gLt) [some (skD n J), some (.ref 0), some (.int (f : Nat)), some (TT (rowI J f)), some (.int (d.length : Nat)), some (.int ((J f d.length).1 : Nat)), some (.int ((J f d.length).2 : Nat))] [.lst ((Y.map (smI J)).map T)]
          = some (decide (pI (f, d.length) < pI (J f d.length)), [.lst ((Y.map (smI J)).map T)]) :=
        mT_of (m2_ev (tup_of (cons_of (mVar_of rfl) (cons_of (mVar_of rfl) rfl)) (by show 2 ≤ 1000; decide)) (tup_of (cons_of (mVar_of rfl) (cons_of (mVar_of rfl) rfl)) (by show 2 ≤ 1000; decide)) (gLt_T (pI (f, d.length)) (pI (J f d.length))))
      have asg : Tg.asg (.tp ((.nm 4) :: ((.tp ((.nm 5) :: ((.nm 6) :: []))) :: []))) (D.tup [.int (d.length : Nat), T (pI (J f d.length))]) [some (skD n J), some (.ref 0), some (.int (f : Nat)), some (TT (rowI J f)), w4, w5, w6] = some [some (skD n J), some (.ref 0), some (.int (f : Nat)), some (TT (rowI J f)), some (.int (d.length : Nat)), some (.int ((J f d.length).1 : Nat)), some (.int ((J f d.length).2 : Nat))] := by
        simp only [asg_tp, asgs_cons, asgs_nil, asg_nm, asg_tpT, List.set_cons_succ, List.set_cons_zero, pI, List.map_cons, List.map_nil]
      by_cases hc : pI (f, d.length) < pI (J f d.length)
      · refine ⟨_, _, [.lst (((Y ++ [(f, d.length)]).map (smI J)).map T)], asg, .inl (if_ev (hlt.trans (by rw [decide_eq_true hc])) ?_), some (.int (d.length : Nat)), some (.int ((J f d.length).1 : Nat)), some (.int ((J f d.length).2 : Nat)), rfl, ?_⟩
        · rw [List.map_append, List.map_append]
          exact sDrop_of (met_of (hp2 := [.lst ((Y.map (smI J)).map T)]) (mVar_of rfl) (isL_of rfl) (cons_of (tup_of (ds := [.int (f : Nat), .int (d.length : Nat), .int ((J f d.length).1 : Nat), .int ((J f d.length).2 : Nat)]) (cons_of (mVar_of rfl) (cons_of (mVar_of rfl) (cons_of (mVar_of rfl) (cons_of (mVar_of rfl) rfl)))) (by show 4 ≤ 1000; decide)) rfl) (gAppend_of (xs := (Y.map (smI J)).map T) rfl (by rw [List.length_map]; omega)))
        · have : smf J f (d ++ [d.length]) = smf J f d ++ [(f, d.length)] := by
            unfold smf
            rw [List.filter_append, List.map_append, List.filter_cons, if_pos (decide_eq_true hc)]
            rfl
          rw [this, ← List.append_assoc, hY]
      · refine ⟨_, _, _, asg, .inl (if_ev (hlt.trans (by rw [decide_eq_false hc])) rfl), some (.int (d.length : Nat)), some (.int ((J f d.length).1 : Nat)), some (.int ((J f d.length).2 : Nat)), rfl, ?_⟩
        have : smf J f (d ++ [d.length]) = smf J f d := by
          unfold smf
          rw [List.filter_append, List.filter_cons, if_neg (by simpa using hc)]
          simp
        rw [this, hY])
  exact ⟨w4, w5, w6, e⟩
theorem L_seams_ok {n : Nat} {J : Nat → Nat → Sd} (hn : n ≤ 130) (hp : Hd) : c_L_seams [skD n J] hp = some (.ref hp.length, hp ++ [.lst (((sms n J).map (smI J)).map T)]) := by
  obtain ⟨ls', hp', e, w2, w3, w4, w5, w6, rfl, rfl⟩ := sForI_pre (fi := mEnum (mVar 0)) (t := .tp ((.nm 2) :: ((.nm 3) :: []))) (b := B2_L_seams) (gd := []) (items := List.range n) (hp := [.lst []]) (hp1 := [.lst []])
    (ls := [some (skD n J), some (.ref 0), none, none, none, none, none]) (fun f : Nat => D.tup [.int (f : Nat), TT (rowI J f)])
    (fun d ls hp => ∃ w2 w3 w4 w5 w6, ls = [some (skD n J), some (.ref 0), w2, w3, w4, w5, w6] ∧ hp = [.lst (((d.flatMap fun f => smf J f (List.range 4)).map (smI J)).map T)])
    (mEnum_sk (mVar_of rfl)) (fun _ _ _ _ => rfl) ⟨_, _, _, _, _, rfl, rfl⟩ (by
      rintro d f r ls hp ed ⟨w2, w3, w4, w5, w6, rfl, rfl⟩
      obtain ⟨rfl, hd⟩ := range_at ed
      have hl := smfs_len J d
      obtain ⟨x4, x5, x6, e⟩ := L_seams_step n J d.length hd hn (d.flatMap fun f => smf J f (List.range 4)) (by omega) w4 w5 w6
      have asg : Tg.asg (.tp ((.nm 2) :: ((.nm 3) :: []))) (D.tup [.int (d.length : Nat), TT (rowI J d.length)]) [some (skD n J), some (.ref 0), w2, w3, w4, w5, w6] = some [some (skD n J), some (.ref 0), some (.int (d.length : Nat)), some (TT (rowI J d.length)), w4, w5, w6] := by
        simp only [asg_tp, asgs_cons, asgs_nil, asg_nm, List.set_cons_succ, List.set_cons_zero]
      exact ⟨_, _, _, asg, .inl e, _, _, _, _, _, rfl, by rw [List.flatMap_append, List.flatMap_singleton]⟩)
  rw [smf_range] at e
  have e' : F2_L_seams [some (skD n J), some (.ref 0), none, none, none, none, none] [.lst []] = _ := e
  exact cN_of (k := 0) (by show (nr (skD n J) && true) = true; rw [nr_sk]; rfl) (def_of (sSeq_of (sSet_of (mNew_of (ds := []) rfl)) (sSeq_of e' (ret_of (mVar_of rfl))))) rfl (nrO_Ts _)

end Lw
namespace Lw
open PySem PySem.Spec L2 Ve
def E1_L_tree : AE :=
    (mIfE (mT (m2 (mVar 12) (mVar 10) gEq)) (mVar 11) (mVar 12))
def C1_L_tree : AA :=
    (mLc (mIS (mVar 3)) (.nm 12) [12] tYesD E1_L_tree)
@[simp] def B1_L_tree_1 : AS :=
    (sIf (mT (m2 (m2 (mVar 3) (mVar 6) gIx) (m2 (mVar 3) (mVar 8) gIx) gNe)) (sSeq (sAsg (.tp ((.nm 10) :: ((.nm 11) :: []))) (mTup (mCons (m2 (mVar 3) (mVar 6) gIx) (mCons (m2 (mVar 3) (mVar 8) gIx) mNil))))
    (sSeq (sSet 3 (mNew C1_L_tree))
    (sDrop (mMet isL (mVar 4) (mCons (mVar 5) mNil) gAppend)))) sNext)
def B1_L_tree : AS :=
    sSeq (sAsg (.tp ((.nm 5) :: ((.tp ((.nm 6) :: ((.nm 7) :: ((.nm 8) :: ((.nm 9) :: []))))) :: []))) (mMet isL (mVar 2) (mCons (mAs (mCons (mVar 0) (mCons (mAs (mCons (mVar 2) mNil) gLen) mNil)) (ar 2 c_L_take)) mNil) gPopAt))
    B1_L_tree_1
def W1_L_tree : Nat → AS := sWhile (mT (m2L (mVar 2) (mLst mNil) (gEqL true))) B1_L_tree
@[simp] def b_L_tree_4 : AS :=
    (sRet (mL (mSorted (mVar 4)) gTup))
@[simp] def b_L_tree_3 : AS :=
    sSeq (W1_L_tree 1000000)
    b_L_tree_4
@[simp] def b_L_tree_2 : AS :=
    sSeq (sSet 4 (mNew (mLst mNil)))
    b_L_tree_3
@[simp] def b_L_tree_1 : AS :=
    sSeq (sSet 3 (mNew (mLRg1 (mAs (mCons (mVar 1) mNil) gLen))))
    b_L_tree_2
def b_L_tree : AS :=
    sSeq (sSet 2 (mNew (mLEnum (mAs (mCons (mVar 1) mNil) (ar 1 c_L_seams)))))
    b_L_tree_1
def m_L_tree : List D → Hd → Option (D × Hd) := mDef 13 b_L_tree

def c_L_tree := c1V m_L_tree
theorem con_L_tree : Cl c_L_tree m_L_tree := cl_c1V _
def Tw (n : Nat) (J : Nat → Nat → Sd) (T0 : Nat) (st : List Int × List Int × List Int) (ls : Ls) (hp : Hd) : Prop := ∃ o q v5 v6 v7 v8 v9 v10 v11 v12, ls = [some (.ref 0), some (skD n J), some (.ref 2), some (.ref q), some (.ref 4), v5, v6, v7, v8, v9, v10, v11, v12] ∧
  hp[0]? = some o ∧ Hand (T0 + (2 * n - st.1.length)) o ∧ hp[2]? = some (.lst (st.1.map (eK n J))) ∧ hp[q]? = some (.lst (st.2.1.map D.int)) ∧ hp[4]? = some (.lst (st.2.2.map D.int)) ∧ (q ≠ 0 ∧ q ≠ 2 ∧ q ≠ 4) ∧ Frs n J st.2.1 st.2.2 ∧
  (∀ k : Int, 0 ≤ k → k < (2 * n : Nat) → k ∈ st.1 ∨ st.2.1.getD (smAt n J k).1 0 = st.2.1.getD (oth J (smAt n J k)).1 0) ∧ Inb n st.1 ∧ st.1.length + st.2.2.length ≤ 2 * n
theorem tree_step {n : Nat} {J : Nat → Nat → Sd} (sk : Skin n J) (hn : n ≤ 60) (T0 : Nat) (hT : T0 + 1000 < 1000000) {st : List Int × List Int × List Int} {ls : Ls} {hp : Hd} (h : Tw n J T0 st ls hp) (hne : st.1 ≠ []) :
    ∃ st2 ls2 hp2, B1_L_tree ls hp = some (.nx, ls2, hp2) ∧ Tw n J T0 st2 ls2 hp2 ∧ st2.1.length < st.1.length := by
  obtain ⟨R, L, E⟩ := st
  obtain ⟨o, q, v5, v6, v7, v8, v9, v10, v11, v12, rfl, g0, ho, g2, gq, g4, ⟨q0, q2, q4⟩, fr, tr, inb, len⟩ := h
  dsimp only at *
  have hl0 := List.length_pos_iff.mpr hne
  have e1 : gLen [.ref 2] hp = some (.int (R.length : Nat), hp) := by rw [gLen_lst g2, List.length_map]
  obtain ⟨x, o1, e2, x1, x2, ho1⟩ := take_ok _ (by omega) hp 0 o g0 ho (R.length : Int) (by omega) (by omega)
  obtain ⟨i, rfl⟩ := Int.eq_ofNat_of_zero_le x1
  have hi : i < R.length := by omega
  have il2 := isL_of g2
  have g01 : (hp.set 0 o1)[0]? = some o1 := hset_same g0
  have g21 : (hp.set 0 o1)[2]? = some (.lst (R.map (eK n J))) := hset_ne (by decide) g2
  have gq1 : (hp.set 0 o1)[q]? = some (.lst (L.map D.int)) := hset_ne (Ne.symm q0) gq
  have g41 : (hp.set 0 o1)[4]? = some (.lst (E.map D.int)) := hset_ne (by decide) g4
  generalize hp.set 0 o1 = hp1 at e2 g01 g21 gq1 g41
  obtain ⟨k, hk⟩ : ∃ k, R[i] = k := ⟨_, rfl⟩
  have kR : k ∈ R := hk ▸ List.getElem_mem hi
  have e3 : gPopAt (.ref 2) [.int (i : Nat)] hp1 = some (eK n J k, hp1.set 2 (.lst ((R.eraseIdx i).map (eK n J)))) := by
    rw [gPopAt_of g21 (y := eK n J k) (by rw [List.getElem?_map, List.getElem?_eq_getElem hi, hk]; rfl) (by omega), eraseIdx_map']
  have g02 : (hp1.set 2 (.lst ((R.eraseIdx i).map (eK n J))))[0]? = some o1 := hset_ne (by decide) g01
  have g22 : (hp1.set 2 (.lst ((R.eraseIdx i).map (eK n J))))[2]? = some (.lst ((R.eraseIdx i).map (eK n J))) := hset_same g21
  have gq2 : (hp1.set 2 (.lst ((R.eraseIdx i).map (eK n J))))[q]? = some (.lst (L.map D.int)) := hset_ne (Ne.symm q2) gq1
  have g42 : (hp1.set 2 (.lst ((R.eraseIdx i).map (eK n J))))[4]? = some (.lst (E.map D.int)) := hset_ne (by decide) g41
  generalize hp1.set 2 (.lst ((R.eraseIdx i).map (eK n J))) = hp2 at e3 g02 g22 gq2 g42
  have hkr := inb k kR
  obtain ⟨sf, si, sg, sj⟩ := sk.sm hkr
  obtain ⟨p, hp_⟩ : ∃ p, smAt n J k = p := ⟨_, rfl⟩
  rw [hp_] at sf si sg sj
  have Ll := fr.len
  have a1 : sAsg (.tp ((.nm 5) :: ((.tp ((.nm 6) :: ((.nm 7) :: ((.nm 8) :: ((.nm 9) :: []))))) :: []))) (mMet isL (mVar 2) (mCons (mAs (mCons (mVar 0) (mCons (mAs (mCons (mVar 2) mNil) gLen) mNil)) (ar 2 c_L_take)) mNil) gPopAt) [some (.ref 0), some (skD n J), some (.ref 2), some (.ref q), some (.ref 4), v5, v6, v7, v8, v9, v10, v11, v12] hp
      = some (.nx, [some (.ref 0), some (skD n J), some (.ref 2), some (.ref q), some (.ref 4), some (.int k), some (.int (p.1 : Nat)), some (.int (p.2 : Nat)), some (.int ((oth J p).1 : Nat)), some (.int ((oth J p).2 : Nat)), v10, v11, v12], hp2) := by
    refine asg_of (met_of (mVar_of rfl) il2 (cons_of (call_of (cons_of (mVar_of rfl) (cons_of (as_of (cons_of (mVar_of rfl) nil_of) e1) nil_of)) rfl e2) nil_of) e3) ?_
    unfold eK
    rw [hp_]
    simp only [asg_tp, asgs_cons, asgs_nil, asg_nm, asg_tpT, List.set_cons_succ, List.set_cons_zero, smI, pI, oth, List.cons_append, List.nil_append, List.map_cons, List.map_nil]
  have ga := gIx_ints gq2 (a := p.1) (by omega)
  have gb := gIx_ints gq2 (a := (oth J p).1) (by omega)
  have t1 : mT (m2 (m2 (mVar 3) (mVar 6) gIx) (m2 (mVar 3) (mVar 8) gIx) gNe) [some (.ref 0), some (skD n J), some (.ref 2), some (.ref q), some (.ref 4), some (.int k), some (.int (p.1 : Nat)), some (.int (p.2 : Nat)), some (.int ((oth J p).1 : Nat)), some (.int ((oth J p).2 : Nat)), v10, v11, v12] hp2 = some (!(L.getD p.1 0 == L.getD (oth J p).1 0), hp2) :=
    mT_of (m2_ev (m2_ev (mVar_of rfl) (mVar_of rfl) ga) (m2_ev (mVar_of rfl) (mVar_of rfl) gb) gNe_int)
  have perm := cons_eraseIdx_perm R i hi
  rw [hk] at perm
  have lenR : (R.eraseIdx i).length + 1 = R.length := by rw [List.length_eraseIdx_of_lt hi]; omega
  have inb2 : Inb n (R.eraseIdx i) := fun z hz => inb z (perm.mem_iff.mp (List.mem_cons_of_mem _ hz))
  have memR : ∀ z, z ∈ R → z = k ∨ z ∈ R.eraseIdx i := fun z hz => by
    rcases List.mem_cons.mp (perm.mem_iff.mpr hz) with y | y
    · exact .inl y
    · exact .inr y
  have ho2 : Hand (T0 + (2 * n - (R.eraseIdx i).length)) o1 := ho1.mono (by omega)
  by_cases hc : L.getD p.1 0 = L.getD (oth J p).1 0
  · rw [show (L.getD p.1 0 == L.getD (oth J p).1 0) = true by rw [hc]; simp] at t1
    refine ⟨(R.eraseIdx i, L, E), _, hp2, sSeq_of a1 (if_ev t1 rfl), ⟨o1, q, _, _, _, _, _, v10, v11, v12, rfl, g02, ho2, g22, gq2, g42, ⟨q0, q2, q4⟩, fr, fun z z1 z2 => ?_, inb2, by dsimp only; omega⟩, by dsimp only; omega⟩
    rcases tr z z1 z2 with y | y
    · rcases memR z y with w | w
      · right
        rw [w, hp_]
        exact hc
      · exact .inl w
    · exact .inr y
  · have hne2 : (L.getD p.1 0 == L.getD (oth J p).1 0) = false := by simpa using hc
    rw [hne2] at t1
    have a2 : sAsg (.tp ((.nm 10) :: ((.nm 11) :: []))) (mTup (mCons (m2 (mVar 3) (mVar 6) gIx) (mCons (m2 (mVar 3) (mVar 8) gIx) mNil))) [some (.ref 0), some (skD n J), some (.ref 2), some (.ref q), some (.ref 4), some (.int k), some (.int (p.1 : Nat)), some (.int (p.2 : Nat)), some (.int ((oth J p).1 : Nat)), some (.int ((oth J p).2 : Nat)), v10, v11, v12] hp2
        = some (.nx, [some (.ref 0), some (skD n J), some (.ref 2), some (.ref q), some (.ref 4), some (.int k), some (.int (p.1 : Nat)), some (.int (p.2 : Nat)), some (.int ((oth J p).1 : Nat)), some (.int ((oth J p).2 : Nat)), some (.int (L.getD p.1 0)), some (.int (L.getD (oth J p).1 0)), v12], hp2) := by
      refine asg_of (tup_of (cons_of (m2_ev (mVar_of rfl) (mVar_of rfl) ga) (cons_of (m2_ev (mVar_of rfl) (mVar_of rfl) gb) nil_of)) (by show 2 ≤ 1000; decide)) ?_
      simp only [asg_tp, asgs_cons, asgs_nil, asg_nm, List.set_cons_succ, List.set_cons_zero]
    have e4 := mLc_typed (fi := mIS (mVar 3)) (t := .nm 12) (own := [12]) (tt := tYesD) (te := E1_L_tree) (ls := [some (.ref 0), some (skD n J), some (.ref 2), some (.ref q), some (.ref 4), some (.int k), some (.int (p.1 : Nat)), some (.int (p.2 : Nat)), some (.int ((oth J p).1 : Nat)), some (.int ((oth J p).2 : Nat)), some (.int (L.getD p.1 0)), some (.int (L.getD (oth J p).1 0)), v12]) D.int L (fun _ => true) (fun z => D.int (if z = L.getD p.1 0 then L.getD (oth J p).1 0 else z))
      (mIS_ref (mVar_of rfl) gq2) (by rw [sizeLine_eq]; omega) (gdOk1 gq2) (fun z _ => ⟨_, asg_nm, rfl, fun _ => by
        refine ife_ev (b := z == L.getD p.1 0) (mT_of (m2_ev (mVar_of rfl) (mVar_of rfl) gEq_int)) ?_
        by_cases w : z = L.getD p.1 0
        · rw [if_pos w, if_pos (by simpa using w)]
          exact mVar_of rfl
        · rw [if_neg w, if_neg (by simpa using w)]
          exact mVar_of rfl⟩)
    rw [List.filter_eq_self.mpr (fun _ _ => rfl)] at e4
    have e5 : (L.map fun z => D.int (if z = L.getD p.1 0 then L.getD (oth J p).1 0 else z)) = (joinL L p.1 (oth J p).1).map D.int := by
      unfold joinL
      rw [List.map_map]
      rfl
    rw [e5] at e4
    have g43 : (hp2 ++ [O.lst ((joinL L p.1 (oth J p).1).map D.int)])[4]? = some (.lst (E.map D.int)) := hget_old g42
    have ga2 := gAppend_of (d := .int k) g43 (by rw [List.length_map]; omega)
    have l4 := hlt g42
    refine ⟨(R.eraseIdx i, joinL L p.1 (oth J p).1, E ++ [k]), _, _, sSeq_of a1 (if_ev t1 (sSeq_of a2 (sSeq_of (sSet_of (mNew_of e4)) (sDrop_of (met_of (mVar_of rfl) (isL_of g43) (cons_of (mVar_of rfl) nil_of) ga2))))), ⟨o1, hp2.length, _, _, _, _, _, _, _, v12, rfl, hset_ne (by decide) (hget_old g02), ho2, hset_ne (by decide) (hget_old g22), hset_ne (by omega) hget_new, ?_, ⟨by omega, by omega, by omega⟩, ?_, fun z z1 z2 => ?_, inb2, by dsimp only; rw [List.length_append, List.length_singleton]; omega⟩, by dsimp only; omega⟩
    · dsimp only
      rw [hset_same g43, List.map_append]
      rfl
    · have := fr.put sk hkr (by rw [hp_]; exact hc)
      rw [hp_] at this
      exact this
    · dsimp only
      obtain ⟨u1, _, u2, _⟩ := sk.sm ⟨z1, z2⟩
      rcases tr z z1 z2 with y | y
      · rcases memR z y with w | w
        · right
          rw [w, hp_, joinL_at (by omega), joinL_at (by omega), if_pos rfl]
          split <;> rfl
        · exact .inl w
      · right
        rw [joinL_at (by omega), joinL_at (by omega), y]
theorem tree_run {n : Nat} {J : Nat → Nat → Sd} (sk : Skin n J) (hn : n ≤ 60) (T0 : Nat) (hT : T0 + 1000 < 1000000) (o : O) (ho : Hand T0 o) : ∃ E o' g, m_L_tree [.ref 0, skD n J] [o] = some (T E, o' :: g) ∧ Tre n J E ∧ Hand (T0 + 2 * n) o' ∧ E.length ≤ 2 * n := by
  have es := L_seams_ok (n := n) (J := J) (by omega) [o]
  have s2 : sSet 2 (mNew (mLEnum (mAs (mCons (mVar 1) mNil) (ar 1 c_L_seams)))) [some (.ref 0), some (skD n J), none, none, none, none, none, none, none, none, none, none, none] [o] = some (.nx, [some (.ref 0), some (skD n J), some (.ref 2), none, none, none, none, none, none, none, none, none, none], [o, .lst (smD n J), .lst (((List.range (2 * n)).map fun k : Nat => (k : Int)).map (eK n J))]) := by
    have h : mLEnum (mAs (mCons (mVar 1) mNil) (ar 1 c_L_seams)) [some (.ref 0), some (skD n J), none, none, none, none, none, none, none, none, none, none, none] [o] = some (((List.range (2 * n)).map fun k : Nat => (k : Int)).map (eK n J), [o, .lst (smD n J)]) := by
      unfold mLEnum
      rw [show mAs (mCons (mVar 1) mNil) (ar 1 c_L_seams) [some (.ref 0), some (skD n J), none, none, none, none, none, none, none, none, none, none, none] [o] = some (.ref 1, [o, .lst (smD n J)]) from call_of (cons_of (mVar_of rfl) nil_of) rfl es]
      dsimp only
      rw [lstOf_ref (xs := smD n J) rfl]
      dsimp only
      rw [enumD_sm sk]
    exact sSet_of (mNew_of h)
  have s3 : sSet 3 (mNew (mLRg1 (mAs (mCons (mVar 1) mNil) gLen))) [some (.ref 0), some (skD n J), some (.ref 2), none, none, none, none, none, none, none, none, none, none] [o, .lst (smD n J), .lst (((List.range (2 * n)).map fun k : Nat => (k : Int)).map (eK n J))] = some (.nx, [some (.ref 0), some (skD n J), some (.ref 2), some (.ref 3), none, none, none, none, none, none, none, none, none], [o, .lst (smD n J), .lst (((List.range (2 * n)).map fun k : Nat => (k : Int)).map (eK n J)), .lst (((List.range n).map fun k : Nat => (k : Int)).map D.int)]) := by
    have h : mLRg1 (mAs (mCons (mVar 1) mNil) gLen) [some (.ref 0), some (skD n J), some (.ref 2), none, none, none, none, none, none, none, none, none, none] [o, .lst (smD n J), .lst (((List.range (2 * n)).map fun k : Nat => (k : Int)).map (eK n J))] = some (((List.range n).map fun k : Nat => (k : Int)).map D.int, [o, .lst (smD n J), .lst (((List.range (2 * n)).map fun k : Nat => (k : Int)).map (eK n J))]) := by
      exact mLRg1_nat (as_of (cons_of (mVar_of rfl) nil_of) gLen_sk) (by omega)
    exact sSet_of (mNew_of h)
  have hR : ((List.range (2 * n)).map fun k : Nat => (k : Int)).length = 2 * n := by rw [List.length_map, List.length_range]
  obtain ⟨⟨R, L, E⟩, ls4, H4, e4, h4, d4⟩ := sWhile_rel (S := List Int × List Int × List Int) (c := mT (m2L (mVar 2) (mLst mNil) (gEqL true))) (b := B1_L_tree) (Tw n J T0) (fun st => st.1 = []) (fun st => st.1.length) (fun st ls hp h => by
    have h' := h
    obtain ⟨o, q, v5, v6, v7, v8, v9, v10, v11, v12, rfl, g0, ho, g2, gq, g4, hq, fr, tr, inb, len⟩ := h
    have ct := (eKE n J).gEqL_nil (by decide) g2 true
    have cc : mT (m2L (mVar 2) (mLst mNil) (gEqL true)) [some (.ref 0), some (skD n J), some (.ref 2), some (.ref q), some (.ref 4), v5, v6, v7, v8, v9, v10, v11, v12] hp = some (!st.1.isEmpty, hp) := by
      rw [mT_s, m2L_s, mVar_of (d := .ref 2) rfl]
      dsimp only
      rw [lst_of nil_of (Nat.zero_le _)]
      dsimp only
      rw [ct]
      rfl
    by_cases hz : st.1 = []
    · refine .inl ⟨?_, hz⟩
      rw [cc, hz]
      rfl
    · refine .inr ⟨?_, ?_⟩
      · rw [cc]
        cases hh : st.1 with
        | nil => exact absurd hh hz
        | cons _ _ => rfl
      · obtain ⟨st2, ls2, hp2, a, b, c⟩ := tree_step sk hn T0 hT h' hz
        exact ⟨st2, ls2, hp2, .inl a, b, c⟩) 1000000 ((List.range (2 * n)).map fun k : Nat => (k : Int), (List.range n).map fun k : Nat => (k : Int), []) [some (.ref 0), some (skD n J), some (.ref 2), some (.ref 3), some (.ref 4), none, none, none, none, none, none, none, none]
    [o, .lst (smD n J), .lst (((List.range (2 * n)).map fun k : Nat => (k : Int)).map (eK n J)), .lst (((List.range n).map fun k : Nat => (k : Int)).map D.int), .lst []] (by dsimp only; omega)
    ⟨o, 3, _, _, _, _, _, _, _, _, rfl, rfl, ho.mono (by omega), rfl, rfl, rfl, by decide, Frs.start n J, fun k k1 k2 => .inl (List.mem_map.mpr ⟨k.toNat, List.mem_range.mpr (by omega), by omega⟩), fun k hk => by
      obtain ⟨j, hj, rfl⟩ := List.mem_map.mp hk
      have := List.mem_range.mp hj
      omega, by dsimp only [List.length_nil]; omega⟩
  obtain ⟨o4, q, w5, w6, w7, w8, w9, w10, w11, w12, rfl, g0, ho4, g2, gq, g4, hq, fr, tr, inb, len⟩ := h4
  dsimp only at d4 ho4 g4 fr tr
  subst d4
  have tre : Tre n J (sortI E) := fr.tre sk (fun k k1 k2 => (tr k k1 k2).resolve_left (by simp)) fun k => (sortI_perm E).mem_iff
  have e5 : mL (mSorted (mVar 4)) gTup [some (.ref 0), some (skD n J), some (.ref 2), some (.ref q), some (.ref 4), w5, w6, w7, w8, w9, w10, w11, w12] H4 = some (T (sortI E), H4) := by
    refine (mL_of (ds := (sortI E).map D.int) (hp' := H4) ?_).trans rfl
    rw [mSorted_s, mVar_of (d := .ref 4) rfl]
    exact gSrtO_I g4
  have e4' : W1_L_tree 1000000 [some (.ref 0), some (skD n J), some (.ref 2), some (.ref 3), some (.ref 4), none, none, none, none, none, none, none, none] [o, .lst (smD n J), .lst (((List.range (2 * n)).map fun k : Nat => (k : Int)).map (eK n J)), .lst (((List.range n).map fun k : Nat => (k : Int)).map D.int), .lst []] = _ := e4
  cases H4 with
  | nil => cases g0
  | cons o' g =>
    cases g0
    exact ⟨sortI E, _, g, def_of (sSeq_of s2 (sSeq_of s3 (sSeq_of (sSet_of (mNew_of (ds := []) rfl)) (sSeq_of e4' (ret_of e5))))), tre, ho4.mono (by dsimp only [List.length_nil]; omega), by
      have := (sortI_perm E).length_eq
      dsimp only at len
      omega⟩
theorem tree_ok {n : Nat} {J : Nat → Nat → Sd} (sk : Skin n J) (hn : n ≤ 60) (T0 : Nat) (hT : T0 + 1000 < 1000000) (hp : Hd) (k : Nat) (o : O) (e : hp[k]? = some o) (ho : Hand T0 o) : ∃ E o', c_L_tree [.ref k, skD n J] hp = some (T E, hp.set k o') ∧ Tre n J E ∧ Hand (T0 + 2 * n) o' ∧ E.length ≤ 2 * n := by
  obtain ⟨E, o', g, em, tr, ho', le⟩ := tree_run sk hn T0 hT o ho
  exact ⟨E, o', c1V_of e (by show (nr (skD n J) && true) = true; rw [nr_sk]; rfl) ho.nr em (nr_T E) ho'.nr, tr, ho', le⟩

end Lw
namespace Lw
open PySem PySem.Spec L2 Ve
@[simp] def b_L_next_2 : AS :=
    (sRet (mTup (mCons (m2 (mVar 3) (m2 (mNew (mLst (mCons (mC (.int 1)) (mCons (mC (.int 0)) (mCons (m1 (mC (.int 1)) gNeg) (mCons (mC (.int 0)) mNil)))))) (mVar 6) gIx) gAdd) (mCons (m2 (mVar 4) (m2 (mNew (mLst (mCons (mC (.int 0)) (mCons (mC (.int 1)) (mCons (mC (.int 0)) (mCons (m1 (mC (.int 1)) gNeg) mNil)))))) (mVar 6) gIx) gAdd) (mCons (m2 (m2 (m2 (mVar 6) (mC (.int 2)) gAdd) (mVar 2) gSub) (mC (.int 4)) gMod) mNil)))))
@[simp] def b_L_next_1 : AS :=
    sSeq (sSet 6 (m2 (m2 (mVar 1) (mVar 5) gAdd) (mC (.int 4)) gMod))
    b_L_next_2
def b_L_next : AS :=
    sSeq (sAsg (.tp ((.nm 3) :: ((.nm 4) :: ((.nm 5) :: [])))) (mVar 0))
    b_L_next_1
def m_L_next : List D → Hd → Option (D × Hd) := mDef 7 b_L_next

def c_L_next := cV m_L_next
theorem con_L_next : Cl c_L_next m_L_next := cl_cV _
theorem next_ok (p : Pl) (i j : Int) (hp : Hd) : c_L_next [T (plI p), .int i, .int j] hp = some (T (plI (nxt p i j)), hp) := by
  obtain ⟨x, y, t⟩ := p
  obtain ⟨k, hk⟩ : ∃ k, (i + t) % 4 = k := ⟨_, rfl⟩
  have a1 : sAsg (.tp ((.nm 3) :: ((.nm 4) :: ((.nm 5) :: [])))) (mVar 0) [some (T [x, y, t]), some (.int i), some (.int j), none, none, none, none] [] = some (.nx, [some (T [x, y, t]), some (.int i), some (.int j), some (.int x), some (.int y), some (.int t), none], []) := by
    refine asg_of (mVar_of rfl) ?_
    rw [asg_tpT]
    rfl
  have a2 : sSet 6 (m2 (m2 (mVar 1) (mVar 5) gAdd) (mC (.int 4)) gMod) [some (T [x, y, t]), some (.int i), some (.int j), some (.int x), some (.int y), some (.int t), none] [] = some (.nx, [some (T [x, y, t]), some (.int i), some (.int j), some (.int x), some (.int y), some (.int t), some (.int k)], []) :=
    sSet_of (m2_ev (m2_ev (mVar_of rfl) (mVar_of rfl) gAdd_int) mC_of ((gMod_int (by decide)).trans (by rw [hk])))
  have a3 : ∃ g, b_L_next_2 [some (T [x, y, t]), some (.int i), some (.int j), some (.int x), some (.int y), some (.int t), some (.int k)] [] = some (.rt (T (plI (nxt ⟨x, y, t⟩ i j))), [some (T [x, y, t]), some (.int i), some (.int j), some (.int x), some (.int y), some (.int t), some (.int k)], g) := by
    have e : plI (nxt ⟨x, y, t⟩ i j) = [x + dX k, y + dY k, (k + 2 - j) % 4] := by
      show [x + dX ((i + t) % 4), y + dY ((i + t) % 4), ((i + t) % 4 + 2 - j) % 4] = _
      rw [hk]
    rw [e]
    refine ⟨[.lst [.int 1, .int 0, .int (-1), .int 0], .lst [.int 0, .int 1, .int 0, .int (-1)]], ?_⟩
    rcases four (show 0 ≤ k ∧ k < 4 by omega) with rfl | rfl | rfl | rfl
    · kernel_rfl
    · kernel_rfl
    · kernel_rfl
    · kernel_rfl
  obtain ⟨g, a3⟩ := a3
  exact cV_of (by show (nr (T [x, y, t]) && true) = true; rw [nr_T]; rfl) (def_of (sSeq_of a1 (sSeq_of a2 a3))) (nr_T _)
@[simp] def b_beside_4 : AS :=
    (sRet (mTup (mCons (mVar 7) (mCons (mTup (mCons (m2 (mVar 4) (mVar 10) gAdd) (mCons (m2 (mVar 5) (mVar 11) gAdd) (mCons (m2 (m2 (m2 (mVar 9) (mC (.int 2)) gAdd) (mVar 8) gSub) (mC (.int 4)) gMod) mNil)))) mNil))))
@[simp] def b_beside_3 : AS :=
    sSeq (sAsg (.tp ((.nm 10) :: ((.nm 11) :: []))) (m2 (mC k_STEPS) (mVar 9) gIx))
    b_beside_4
@[simp] def b_beside_2 : AS :=
    sSeq (sSet 9 (m2 (m2 (mVar 3) (mVar 6) gAdd) (mC (.int 4)) gMod))
    b_beside_3
@[simp] def b_beside_1 : AS :=
    sSeq (sAsg (.tp ((.nm 7) :: ((.nm 8) :: []))) (m2 (m2 (mVar 0) (mVar 1) gIx) (mVar 3) gIx))
    b_beside_2
def b_beside : AS :=
    sSeq (sAsg (.tp ((.nm 4) :: ((.nm 5) :: ((.nm 6) :: [])))) (mVar 2))
    b_beside_1
def m_beside : List D → Hd → Option (D × Hd) := mDef 12 b_beside
abbrev c_beside := m_beside

theorem beside_ok {n : Nat} {J : Nat → Nat → Sd} {f i : Nat} (hf : f < n) (hi : i < 4) (p : Pl) (hp : Hd) : m_beside [skD n J, .int (f : Nat), T (plI p), .int (i : Nat)] hp = some (.tup [.int ((J f i).1 : Nat), T (plI (nxt p (i : Nat) ((J f i).2 : Nat)))], hp) := by
  obtain ⟨x, y, t⟩ := p
  obtain ⟨k, hk⟩ : ∃ k, ((i : Nat) + t) % 4 = k := ⟨_, rfl⟩
  have a1 : sAsg (.tp ((.nm 4) :: ((.nm 5) :: ((.nm 6) :: [])))) (mVar 2) [some (skD n J), some (.int (f : Nat)), some (T [x, y, t]), some (.int (i : Nat)), none, none, none, none, none, none, none, none] hp = some (.nx, [some (skD n J), some (.int (f : Nat)), some (T [x, y, t]), some (.int (i : Nat)), some (.int x), some (.int y), some (.int t), none, none, none, none, none], hp) := by
    refine asg_of (mVar_of rfl) ?_
    rw [asg_tpT]
    rfl
  have a2 : sAsg (.tp ((.nm 7) :: ((.nm 8) :: []))) (m2 (m2 (mVar 0) (mVar 1) gIx) (mVar 3) gIx) [some (skD n J), some (.int (f : Nat)), some (T [x, y, t]), some (.int (i : Nat)), some (.int x), some (.int y), some (.int t), none, none, none, none, none] hp = some (.nx, [some (skD n J), some (.int (f : Nat)), some (T [x, y, t]), some (.int (i : Nat)), some (.int x), some (.int y), some (.int t), some (.int ((J f i).1 : Nat)), some (.int ((J f i).2 : Nat)), none, none, none], hp) := by
    refine asg_of (m2_ev (m2_ev (mVar_of rfl) (mVar_of rfl) (gIx_sk hf)) (mVar_of rfl) (gIx_row hi)) ?_
    rw [asg_tpT]
    rfl
  have a3 : sSet 9 (m2 (m2 (mVar 3) (mVar 6) gAdd) (mC (.int 4)) gMod) [some (skD n J), some (.int (f : Nat)), some (T [x, y, t]), some (.int (i : Nat)), some (.int x), some (.int y), some (.int t), some (.int ((J f i).1 : Nat)), some (.int ((J f i).2 : Nat)), none, none, none] hp = some (.nx, [some (skD n J), some (.int (f : Nat)), some (T [x, y, t]), some (.int (i : Nat)), some (.int x), some (.int y), some (.int t), some (.int ((J f i).1 : Nat)), some (.int ((J f i).2 : Nat)), some (.int k), none, none], hp) :=
    sSet_of (m2_ev (m2_ev (mVar_of rfl) (mVar_of rfl) gAdd_int) mC_of ((gMod_int (by decide)).trans (by rw [hk])))
  have a4 : b_beside_3 [some (skD n J), some (.int (f : Nat)), some (T [x, y, t]), some (.int (i : Nat)), some (.int x), some (.int y), some (.int t), some (.int ((J f i).1 : Nat)), some (.int ((J f i).2 : Nat)), some (.int k), none, none] hp = some (.rt (.tup [.int ((J f i).1 : Nat), T (plI (nxt ⟨x, y, t⟩ (i : Nat) ((J f i).2 : Nat)))]), [some (skD n J), some (.int (f : Nat)), some (T [x, y, t]), some (.int (i : Nat)), some (.int x), some (.int y), some (.int t), some (.int ((J f i).1 : Nat)), some (.int ((J f i).2 : Nat)), some (.int k), some (.int (dX k)), some (.int (dY k))], hp) := by
    have e : plI (nxt ⟨x, y, t⟩ (i : Nat) ((J f i).2 : Nat)) = [x + dX k, y + dY k, (k + 2 - ((J f i).2 : Nat)) % 4] := by
      show [x + dX (((i : Nat) + t) % 4), y + dY (((i : Nat) + t) % 4), (((i : Nat) + t) % 4 + 2 - ((J f i).2 : Nat)) % 4] = _
      rw [hk]
    rw [e]
    generalize (((J f i).2 : Nat) : Int) = j
    generalize (((J f i).1 : Nat) : Int) = g
    generalize skD n J = S
    generalize ((i : Nat) : Int) = I
    generalize ((f : Nat) : Int) = F
    rcases four (show 0 ≤ k ∧ k < 4 by omega) with rfl | rfl | rfl | rfl
    · kernel_rfl
    · kernel_rfl
    · kernel_rfl
    · kernel_rfl
  exact def_of (sSeq_of a1 (sSeq_of a2 (sSeq_of a3 a4)))
@[simp] def B1_L_places_1 : AS :=
    (sIf (mAnd (mT (m2 (mVar 7) (mVar 4) gIn)) (mT (m2 (mVar 9) (mVar 4) gNotIn))) (sStore (mAs (mCons (m2 (mVar 4) (mVar 7) gIx) (mCons (mVar 8) (mCons (mVar 10) mNil))) (ar 3 c_L_next)) (mVar 4) (mVar 9)) (sIf (mAnd (mT (m2 (mVar 9) (mVar 4) gIn)) (mT (m2 (mVar 7) (mVar 4) gNotIn))) (sStore (mAs (mCons (m2 (mVar 4) (mVar 9) gIx) (mCons (mVar 10) (mCons (mVar 8) mNil))) (ar 3 c_L_next)) (mVar 4) (mVar 7)) sNext))
def B1_L_places : AS :=
    sSeq (sAsg (.tp ((.nm 7) :: ((.nm 8) :: ((.nm 9) :: ((.nm 10) :: []))))) (m2 (mVar 3) (mVar 6) gIx))
    B1_L_places_1
def F1_L_places : AS := (sForI (mIS (mVar 1)) (.nm 6) B1_L_places)
def B2_L_places : AS :=
    F1_L_places
def F2_L_places : AS := (sForI (mR1 (mCons (mAs (mCons (mVar 0) mNil) gLen) mNil)) (.nm 5) B2_L_places)
@[simp] def b_L_places_3 : AS :=
    (sRet (mVar 4))
@[simp] def b_L_places_2 : AS :=
    sSeq F2_L_places
    b_L_places_3
@[simp] def b_L_places_1 : AS :=
    sSeq (sSet 4 (mDict (((mVar 2), (mTup (mCons (mC (.int 0)) (mCons (mC (.int 0)) (mCons (mC (.int 0)) mNil))))) :: [])))
    b_L_places_2
def b_L_places : AS :=
    sSeq (sSet 3 (mAs (mCons (mVar 0) mNil) (ar 1 c_L_seams)))
    b_L_places_1
def m_L_places : List D → Hd → Option (D × Hd) := mDef 11 b_L_places

def c_L_places := cN m_L_places
theorem con_L_places : Cl c_L_places m_L_places := cl_cN _
def gP (Pt : Nat → Pl) (f : Nat) : D := T (plI (Pt f))
theorem asg_sm {k : Int} {n : Nat} {J : Nat → Nat → Sd} {v0 v1 v2 v3 v4 v5 v6 v7 v8 v9 v10 : Option D} : Tg.asg (.tp ((.nm 7) :: ((.nm 8) :: ((.nm 9) :: ((.nm 10) :: []))))) (T (smI J (smAt n J k))) [v0, v1, v2, v3, v4, v5, v6, v7, v8, v9, v10] = some [v0, v1, v2, v3, v4, v5, v6, some (.int ((smAt n J k).1 : Nat)), some (.int ((smAt n J k).2 : Nat)), some (.int ((oth J (smAt n J k)).1 : Nat)), some (.int ((oth J (smAt n J k)).2 : Nat))] := by
  rw [asg_tpT]
  rfl
theorem places_step {n : Nat} {J : Nat → Nat → Sd} (sk : Skin n J) (hn : n ≤ 60) {E : List Int} {Pt : Nat → Pl} (ht : ∀ f, 0 ≤ (Pt f).t ∧ (Pt f).t < 4) {k : Int} (hk : 0 ≤ k ∧ k < (2 * n : Nat)) (hb : Bes Pt J (smAt n J k)) {K : List Nat} (hl : K.length < 1000) (v1 v2 v5 v7 v8 v9 v10 : Option D) :
    B1_L_places [some (skD n J), v1, v2, some (.ref 0), some (.ref 1), v5, some (.int k), v7, v8, v9, v10] [.lst (smD n J), .dic (Gi (gP Pt) K)] = some (.nx, [some (skD n J), v1, v2, some (.ref 0), some (.ref 1), v5, some (.int k), some (.int ((smAt n J k).1 : Nat)), some (.int ((smAt n J k).2 : Nat)), some (.int ((oth J (smAt n J k)).1 : Nat)), some (.int ((oth J (smAt n J k)).2 : Nat))], [.lst (smD n J), .dic (Gi (gP Pt) (stp n J K k))]) := by
  have hk2 : 0 ≤ k ∧ k < (sms n J).length := by rw [sk.sms_length]; exact hk
  obtain ⟨s1, s2, s3, s4⟩ := sk.sm hk
  have a1 := asg_of (t := .tp ((.nm 7) :: ((.nm 8) :: ((.nm 9) :: ((.nm 10) :: []))))) (m2_ev (ls := [some (skD n J), v1, v2, some (.ref 0), some (.ref 1), v5, some (.int k), v7, v8, v9, v10]) (hp := [.lst (smD n J), .dic (Gi (gP Pt) K)]) (fa := mVar 3) (fb := mVar 6) (g := gIx) (mVar_of rfl) (mVar_of rfl) (gIx_sm rfl hk2)) asg_sm
  have hback := hb.back ht s2 s4
  unfold Bes at hb
  unfold stp
  generalize smAt n J k = p at *
  refine sSeq_of a1 ?_
  have tin : ∀ (s : Nat) (x : Nat), [some (skD n J), v1, v2, some (D.ref 0), some (.ref 1), v5, some (.int k), some (.int (p.1 : Nat)), some (.int (p.2 : Nat)), some (.int ((oth J p).1 : Nat)), some (.int ((oth J p).2 : Nat))][s]? = some (some (.int (x : Nat))) → mT (m2 (mVar s) (mVar 4) gIn) [some (skD n J), v1, v2, some (.ref 0), some (.ref 1), v5, some (.int k), some (.int (p.1 : Nat)), some (.int (p.2 : Nat)), some (.int ((oth J p).1 : Nat)), some (.int ((oth J p).2 : Nat))] [.lst (smD n J), .dic (Gi (gP Pt) K)] = some (decide (x ∈ K), [.lst (smD n J), .dic (Gi (gP Pt) K)]) :=
    fun s x e => mT_of (m2_ev (mVar_of e) (mVar_of rfl) (gIn_Gi rfl))
  have tni : ∀ (s : Nat) (x : Nat), [some (skD n J), v1, v2, some (D.ref 0), some (.ref 1), v5, some (.int k), some (.int (p.1 : Nat)), some (.int (p.2 : Nat)), some (.int ((oth J p).1 : Nat)), some (.int ((oth J p).2 : Nat))][s]? = some (some (.int (x : Nat))) → mT (m2 (mVar s) (mVar 4) gNotIn) [some (skD n J), v1, v2, some (.ref 0), some (.ref 1), v5, some (.int k), some (.int (p.1 : Nat)), some (.int (p.2 : Nat)), some (.int ((oth J p).1 : Nat)), some (.int ((oth J p).2 : Nat))] [.lst (smD n J), .dic (Gi (gP Pt) K)] = some (!decide (x ∈ K), [.lst (smD n J), .dic (Gi (gP Pt) K)]) :=
    fun s x e => mT_of (m2_ev (mVar_of e) (mVar_of rfl) (gNotIn_Gi rfl))
  have an : ∀ (a b : Nat) (s1 s2 : Nat), [some (skD n J), v1, v2, some (D.ref 0), some (.ref 1), v5, some (.int k), some (.int (p.1 : Nat)), some (.int (p.2 : Nat)), some (.int ((oth J p).1 : Nat)), some (.int ((oth J p).2 : Nat))][s1]? = some (some (.int (a : Nat))) → [some (skD n J), v1, v2, some (D.ref 0), some (.ref 1), v5, some (.int k), some (.int (p.1 : Nat)), some (.int (p.2 : Nat)), some (.int ((oth J p).1 : Nat)), some (.int ((oth J p).2 : Nat))][s2]? = some (some (.int (b : Nat))) →
      mAnd (mT (m2 (mVar s1) (mVar 4) gIn)) (mT (m2 (mVar s2) (mVar 4) gNotIn)) [some (skD n J), v1, v2, some (.ref 0), some (.ref 1), v5, some (.int k), some (.int (p.1 : Nat)), some (.int (p.2 : Nat)), some (.int ((oth J p).1 : Nat)), some (.int ((oth J p).2 : Nat))] [.lst (smD n J), .dic (Gi (gP Pt) K)] = some (decide (a ∈ K ∧ b ∉ K), [.lst (smD n J), .dic (Gi (gP Pt) K)]) := fun a b s1 s2 e1 e2 => by
    have t1 := tin s1 a e1
    have t2 := tni s2 b e2
    by_cases ha : a ∈ K
    · rw [decide_eq_true ha] at t1
      refine and_t t1 (t2.trans ?_)
      by_cases hb : b ∈ K
      · rw [decide_eq_true hb, decide_eq_false (fun z => z.2 hb)]; rfl
      · rw [decide_eq_false hb, decide_eq_true ⟨ha, hb⟩]; rfl
    · rw [decide_eq_false ha] at t1
      rw [decide_eq_false (fun z => ha z.1)]
      exact and_f t1
  have c1 := an p.1 (oth J p).1 7 9 rfl rfl
  have c2 := an (oth J p).1 p.1 9 7 rfl rfl
  show B1_L_places_1 _ _ = _
  unfold B1_L_places_1
  by_cases h1 : p.1 ∈ K ∧ (oth J p).1 ∉ K
  · rw [decide_eq_true h1] at c1
    refine if_ev c1 ?_
    rw [if_pos rfl]
    have e : c_L_next [gP Pt p.1, .int (p.2 : Nat), .int ((oth J p).2 : Nat)] [.lst (smD n J), .dic (Gi (gP Pt) K)] = some (gP Pt (oth J p).1, [.lst (smD n J), .dic (Gi (gP Pt) K)]) := by
      unfold gP
      rw [next_ok, hb]
    have v := call_of (k := 3) (g := c_L_next) (fr := mCons (m2 (mVar 4) (mVar 7) gIx) (mCons (mVar 8) (mCons (mVar 10) mNil))) (ls := [some (skD n J), v1, v2, some (.ref 0), some (.ref 1), v5, some (.int k), some (.int (p.1 : Nat)), some (.int (p.2 : Nat)), some (.int ((oth J p).1 : Nat)), some (.int ((oth J p).2 : Nat))]) (hp := [.lst (smD n J), .dic (Gi (gP Pt) K)]) (cons_of (m2_ev (mVar_of rfl) (mVar_of rfl) (gIx_Gi rfl h1.1)) (cons_of (mVar_of rfl) (cons_of (mVar_of rfl) nil_of))) rfl e
    rw [sStore_s, v]
    dsimp only
    rw [mVar_of (d := .ref 1) rfl]
    dsimp only
    rw [mVar_of (d := .int ((oth J p).1 : Nat)) rfl]
    dsimp only
    rw [gSet_Gi rfl h1.2 hl, if_pos h1]
    rfl
  · rw [decide_eq_false h1] at c1
    refine if_ev c1 ?_
    rw [if_neg h1]
    show sIf _ _ _ _ _ = _
    by_cases h2 : (oth J p).1 ∈ K ∧ p.1 ∉ K
    · rw [decide_eq_true h2] at c2
      refine if_ev c2 ?_
      rw [if_pos rfl, if_pos h2]
      have e : c_L_next [gP Pt (oth J p).1, .int ((oth J p).2 : Nat), .int (p.2 : Nat)] [.lst (smD n J), .dic (Gi (gP Pt) K)] = some (gP Pt p.1, [.lst (smD n J), .dic (Gi (gP Pt) K)]) := by
        unfold gP
        rw [next_ok, hback]
      have v := call_of (k := 3) (g := c_L_next) (fr := mCons (m2 (mVar 4) (mVar 9) gIx) (mCons (mVar 10) (mCons (mVar 8) mNil))) (ls := [some (skD n J), v1, v2, some (.ref 0), some (.ref 1), v5, some (.int k), some (.int (p.1 : Nat)), some (.int (p.2 : Nat)), some (.int ((oth J p).1 : Nat)), some (.int ((oth J p).2 : Nat))]) (hp := [.lst (smD n J), .dic (Gi (gP Pt) K)]) (cons_of (m2_ev (mVar_of rfl) (mVar_of rfl) (gIx_Gi rfl h2.1)) (cons_of (mVar_of rfl) (cons_of (mVar_of rfl) nil_of))) rfl e
      rw [sStore_s, v]
      dsimp only
      rw [mVar_of (d := .ref 1) rfl]
      dsimp only
      rw [mVar_of (d := .int (p.1 : Nat)) rfl]
      dsimp only
      rw [gSet_Gi rfl h2.2 hl]
      rfl
    · rw [decide_eq_false h2] at c2
      refine if_ev c2 ?_
      rw [if_neg h2]
      rfl
theorem places_run {n : Nat} {J : Nat → Nat → Sd} (sk : Skin n J) (hn : n ≤ 60) {E : List Int} (tr : Tre n J E) {Pt : Nat → Pl} (ht : ∀ f, 0 ≤ (Pt f).t ∧ (Pt f).t < 4) (hb : ∀ k ∈ E, Bes Pt J (smAt n J k)) {f0 : Nat} (hf0 : f0 < n) (h0 : Pt f0 = ⟨0, 0, 0⟩) :
    m_L_places [skD n J, T E, .int (f0 : Nat)] [] = some (.ref 1, [.lst (smD n J), .dic (Gi (gP Pt) (rnds n J E n [f0]))]) := by
  have met0 : Met n f0 [f0] := ⟨by simp, fun f hf => by rw [List.mem_singleton.mp hf]; exact hf0, List.mem_singleton_self _⟩
  have a1 : sSet 3 (mAs (mCons (mVar 0) mNil) (ar 1 c_L_seams)) [some (skD n J), some (T E), some (.int (f0 : Nat)), none, none, none, none, none, none, none, none] [] = some (.nx, [some (skD n J), some (T E), some (.int (f0 : Nat)), some (.ref 0), none, none, none, none, none, none, none], [.lst (smD n J)]) :=
    sSet_of (call_of (cons_of (mVar_of rfl) nil_of) rfl (L_seams_ok (n := n) (J := J) (by omega) []))
  have a2 : sSet 4 (mDict (((mVar 2), (mTup (mCons (mC (.int 0)) (mCons (mC (.int 0)) (mCons (mC (.int 0)) mNil))))) :: [])) [some (skD n J), some (T E), some (.int (f0 : Nat)), some (.ref 0), none, none, none, none, none, none, none] [.lst (smD n J)] = some (.nx, [some (skD n J), some (T E), some (.int (f0 : Nat)), some (.ref 0), some (.ref 1), none, none, none, none, none, none], [.lst (smD n J), .dic (Gi (gP Pt) [f0])]) := by
    have e : Gi (gP Pt) [f0] = [(.int (f0 : Nat), .tup [.int 0, .int 0, .int 0])] := by
      show [(D.int (f0 : Nat), T (plI (Pt f0)))] = _
      rw [h0]
      rfl
    rw [e]
    rfl
  obtain ⟨ls', hp', e, w5, w6, w7, w8, w9, w10, rfl, rfl⟩ := sForI_pre (fi := mR1 (mCons (mAs (mCons (mVar 0) mNil) gLen) mNil)) (t := .nm 5) (b := B2_L_places) (gd := []) (items := List.range n) (hp := [.lst (smD n J), .dic (Gi (gP Pt) [f0])]) (hp1 := [.lst (smD n J), .dic (Gi (gP Pt) [f0])])
    (ls := [some (skD n J), some (T E), some (.int (f0 : Nat)), some (.ref 0), some (.ref 1), none, none, none, none, none, none]) (fun f : Nat => D.int (f : Nat))
    (fun d ls hp => ∃ w5 w6 w7 w8 w9 w10, ls = [some (skD n J), some (T E), some (.int (f0 : Nat)), some (.ref 0), some (.ref 1), w5, w6, w7, w8, w9, w10] ∧ hp = [.lst (smD n J), .dic (Gi (gP Pt) (rnds n J E d.length [f0]))])
    (mR1_nat (cons_of (as_of (cons_of (mVar_of rfl) nil_of) gLen_sk) nil_of) (by omega)) (fun _ _ _ _ => rfl) ⟨_, _, _, _, _, _, rfl, rfl⟩ (by
      rintro d f r ls hp ed ⟨w5, w6, w7, w8, w9, w10, rfl, rfl⟩
      have met := met0.rnds sk tr d.length
      generalize hK : rnds n J E d.length [f0] = K at met
      obtain ⟨ls', hp', e, y6, y7, y8, y9, y10, K2, rfl, rfl, rfl, m2⟩ := sForI_rel (fi := mIS (mVar 1)) (t := .nm 6) (b := B1_L_places) (gd := []) (items := E) (hp := [.lst (smD n J), .dic (Gi (gP Pt) K)]) (hp1 := [.lst (smD n J), .dic (Gi (gP Pt) K)])
        (ls := [some (skD n J), some (T E), some (.int (f0 : Nat)), some (.ref 0), some (.ref 1), some (.int (f : Nat)), w6, w7, w8, w9, w10]) D.int
        (fun (s : List Nat) ls hp => ∃ y6 y7 y8 y9 y10 K2, s = K2 ∧ ls = [some (skD n J), some (T E), some (.int (f0 : Nat)), some (.ref 0), some (.ref 1), some (.int (f : Nat)), y6, y7, y8, y9, y10] ∧ hp = [.lst (smD n J), .dic (Gi (gP Pt) K2)] ∧ Met n f0 K2) (stp n J)
        (mIS_tup (mVar_of rfl)) (fun _ _ _ _ => rfl) K ⟨_, _, _, _, _, _, rfl, rfl, rfl, met⟩ (by
          rintro k hk s ls hp ⟨y6, y7, y8, y9, y10, K2, rfl, rfl, rfl, m2⟩
          have := m2.len
          exact ⟨_, _, _, asg_nm, .inl (places_step sk hn (E := E) ht (tr.inb k hk) (hb k hk) (by omega) _ _ _ _ _ _ _), _, _, _, _, _, _, rfl, rfl, rfl, m2.stp sk (tr.inb k hk)⟩)
      refine ⟨_, _, _, asg_nm, .inl e, _, _, _, _, _, _, rfl, ?_⟩
      rw [List.length_append, List.length_singleton, ← hK]
      rfl)
  rw [List.length_range] at e
  have e' : F2_L_places [some (skD n J), some (T E), some (.int (f0 : Nat)), some (.ref 0), some (.ref 1), none, none, none, none, none, none] [.lst (smD n J), .dic (Gi (gP Pt) [f0])] = _ := e
  exact def_of (sSeq_of a1 (sSeq_of a2 (sSeq_of e' (ret_of (mVar_of rfl)))))
theorem nr_gP (Pt : Nat → Pl) (k : Nat) : nr (gP Pt k) = true := nr_T _
theorem places_ok {n : Nat} {J : Nat → Nat → Sd} (sk : Skin n J) (hn : n ≤ 60) {E : List Int} (tr : Tre n J E) {Pt : Nat → Pl} (ht : ∀ f, 0 ≤ (Pt f).t ∧ (Pt f).t < 4) (hb : ∀ k ∈ E, Bes Pt J (smAt n J k)) {f0 : Nat} (hf0 : f0 < n) (h0 : Pt f0 = ⟨0, 0, 0⟩) (hp : Hd) :
    ∃ K : List Nat, c_L_places [skD n J, T E, .int (f0 : Nat)] hp = some (.ref hp.length, hp ++ [.dic (Gi (gP Pt) K)]) ∧ ∀ f, f < n → f ∈ K :=
  ⟨_, cN_of (by show (nr (skD n J) && (nr (T E) && true)) = true; rw [nr_sk, nr_T]; rfl) (places_run sk hn tr ht hb hf0 h0) rfl (nrO_Gi (nr_gP Pt)), rnds_all sk tr ⟨by simp, fun f hf => by rw [List.mem_singleton.mp hf]; exact hf0, List.mem_singleton_self _⟩⟩

end Lw
namespace Lw
open PySem PySem.Spec L2 Ve
def E1_sides_of_seams : AE :=
    (mNew (mLst mNil))
def C1_sides_of_seams : AA :=
    (mLc (mIS (mVar 0)) (.nm 9) [9] tYesD E1_sides_of_seams)
@[simp] def B1_sides_of_seams_2 : AS :=
    (sDrop (mMet isL (m2 (mVar 3) (mVar 7) gIx) (mCons (mVar 8) mNil) gAppend))
@[simp] def B1_sides_of_seams_1 : AS :=
    sSeq (sDrop (mMet isL (m2 (mVar 3) (mVar 5) gIx) (mCons (mVar 6) mNil) gAppend))
    B1_sides_of_seams_2
def B1_sides_of_seams : AS :=
    sSeq (sAsg (.tp ((.nm 5) :: ((.nm 6) :: ((.nm 7) :: ((.nm 8) :: []))))) (m2 (mVar 2) (mVar 4) gIx))
    B1_sides_of_seams_1
def F1_sides_of_seams : AS := (sForI (mIS (mVar 1)) (.nm 4) B1_sides_of_seams)
@[simp] def b_sides_of_seams_3 : AS :=
    (sRet (mVar 3))
@[simp] def b_sides_of_seams_2 : AS :=
    sSeq F1_sides_of_seams
    b_sides_of_seams_3
@[simp] def b_sides_of_seams_1 : AS :=
    sSeq (sSet 3 (mNew C1_sides_of_seams))
    b_sides_of_seams_2
def b_sides_of_seams : AS :=
    sSeq (sSet 2 (mAs (mCons (mVar 0) mNil) (ar 1 c_seams)))
    b_sides_of_seams_1
def m_sides_of_seams : List D → Hd → Option (D × Hd) := mDef 10 b_sides_of_seams
abbrev c_sides_of_seams := m_sides_of_seams

structure Sids (n : Nat) (J : Nat → Nat → Sd) (hp : Hd) (Q : Nat → List Nat) : Prop where
  sm : hp[0]? = some (.lst (smD n J))
  tb : hp[n + 1]? = some (.lst ((List.range n).map fun f => D.ref (1 + f)))
  row : ∀ f, f < n → hp[1 + f]? = some (.lst ((Q f).map fun i : Nat => D.int (i : Nat)))
theorem Sids.keep {n : Nat} {J : Nat → Nat → Sd} {hp hp2 : Hd} {Q : Nat → List Nat} (h : Sids n J hp Q) (he : ∀ k, k ≤ n + 1 → hp2[k]? = hp[k]?) : Sids n J hp2 Q := ⟨(he 0 (by omega)).trans h.sm, (he (n + 1) (by omega)).trans h.tb, fun f hf => (he (1 + f) (by omega)).trans (h.row f hf)⟩
theorem Sids.app {n : Nat} {J : Nat → Nat → Sd} {hp : Hd} {Q : Nat → List Nat} (h : Sids n J hp Q) {f : Nat} (hf : f < n) (i : Nat) (hl : (Q f).length < 100000) :
    ∃ hp2, gAppend (.ref (1 + f)) [.int (i : Nat)] hp = some (.non, hp2) ∧ Sids n J hp2 (fun g => Q g ++ if f = g then [i] else []) ∧ hp2.length = hp.length := by
  refine ⟨_, gAppend_of (h.row f hf) (by rw [List.length_map]; omega), ⟨hset_ne (by omega) h.sm, hset_ne (by omega) h.tb, fun g hg => ?_⟩, List.length_set⟩
  by_cases e : f = g
  · subst e
    rw [if_pos rfl, hset_same (h.row f hf), List.map_append]
    rfl
  · rw [if_neg e, List.append_nil]
    exact hset_ne (by omega) (h.row g hg)
theorem Sids.at_ {n : Nat} {J : Nat → Nat → Sd} {hp : Hd} {Q : Nat → List Nat} (h : Sids n J hp Q) {f : Nat} (hf : f < n) : gIx (.ref (n + 1)) (.int (f : Nat)) hp = some (.ref (1 + f), hp) :=
  gIx_refN (j := f) h.tb (x := .ref (1 + f)) (by rw [List.getElem?_map, List.getElem?_range hf]; rfl)
theorem asg_sm4 {k : Int} {n : Nat} {J : Nat → Nat → Sd} {v0 v1 v2 v3 v4 v5 v6 v7 v8 v9 : Option D} : Tg.asg (.tp ((.nm 5) :: ((.nm 6) :: ((.nm 7) :: ((.nm 8) :: []))))) (T (smI J (smAt n J k))) [v0, v1, v2, v3, v4, v5, v6, v7, v8, v9] = some [v0, v1, v2, v3, v4, some (.int ((smAt n J k).1 : Nat)), some (.int ((smAt n J k).2 : Nat)), some (.int ((oth J (smAt n J k)).1 : Nat)), some (.int ((oth J (smAt n J k)).2 : Nat)), v9] := by
  rw [asg_tpT]
  rfl
theorem sides_run {n : Nat} {J : Nat → Nat → Sd} (sk : Skin n J) (hn : n ≤ 60) {E : List Int} (hE : E.length ≤ 1000) (inb : Inb n E) :
    ∃ H, m_sides_of_seams [skD n J, T E] [] = some (.ref (n + 1), H) ∧ Sids n J H (tbl n J E) ∧ H.length = n + 2 := by
  have a1 : sSet 2 (mAs (mCons (mVar 0) mNil) (ar 1 c_seams)) [some (skD n J), some (T E), none, none, none, none, none, none, none, none] [] = some (.nx, [some (skD n J), some (T E), some (.ref 0), none, none, none, none, none, none, none], [.lst (smD n J)]) :=
    sSet_of (call_of (cons_of (mVar_of rfl) nil_of) rfl (seams_ok (n := n) (J := J) (by omega) []))
  obtain ⟨out, H1, e1, ho, hH⟩ := mLc_pre (fi := mIS (mVar 0)) (t := .nm 9) (own := [9]) (te := E1_sides_of_seams) (gd := []) (items := List.range n) (hp := [.lst (smD n J)]) (hp1 := [.lst (smD n J)])
    (ls := [some (skD n J), some (T E), some (.ref 0), none, none, none, none, none, none, none]) (fun f : Nat => TT (rowI J f))
    (fun d out hp => out = (List.range d.length).map (fun f => D.ref (1 + f)) ∧ hp = .lst (smD n J) :: List.replicate d.length (.lst []))
    (mIS_tup (xs := (List.range n).map fun f => TT (rowI J f)) ((mVar_of rfl).trans (by rw [skD_tup]))) (by rw [List.length_range, sizeLine_eq]; omega) (fun _ _ _ _ => rfl) ⟨rfl, rfl⟩ (by
      rintro d f r out hp ed ⟨rfl, rfl⟩
      have en := mNew_of (fl := mLst mNil) (ls := (wipeL [some (skD n J), some (T E), some (.ref 0), none, none, none, none, none, none, none] [9]).set 9 (some (TT (rowI J f)))) (hp := .lst (smD n J) :: List.replicate d.length (.lst [])) (ds := []) (hp' := .lst (smD n J) :: List.replicate d.length (.lst [])) rfl
      rw [List.length_cons, List.length_replicate, Nat.add_comm] at en
      refine ⟨_, .ref (1 + d.length), _, asg_nm, en, ?_, ?_⟩
      · rw [List.length_append, List.length_singleton, List.range_succ, List.map_append]
        simp [Nat.add_comm]
      · rw [List.length_append, List.length_singleton, List.replicate_succ']
        rfl)
  rw [List.length_range] at ho hH
  subst ho hH
  have a2 : sSet 3 (mNew C1_sides_of_seams) [some (skD n J), some (T E), some (.ref 0), none, none, none, none, none, none, none] [.lst (smD n J)] = some (.nx, [some (skD n J), some (T E), some (.ref 0), some (.ref (n + 1)), none, none, none, none, none, none], (.lst (smD n J) :: List.replicate n (.lst [])) ++ [.lst ((List.range n).map fun f => D.ref (1 + f))]) := by
    have := mNew_of (fl := C1_sides_of_seams) e1
    rw [List.length_cons, List.length_replicate] at this
    exact sSet_of this
  have s0 : Sids n J ((.lst (smD n J) :: List.replicate n (.lst [])) ++ [.lst ((List.range n).map fun f => D.ref (1 + f))]) (tbl n J []) := by
    refine ⟨rfl, ?_, fun f hf => ?_⟩
    · have := hget_new (hp := .lst (smD n J) :: List.replicate n (.lst [])) (o := .lst ((List.range n).map fun f => D.ref (1 + f)))
      rwa [List.length_cons, List.length_replicate] at this
    · refine hget_old ?_
      rw [show 1 + f = f + 1 by omega, List.getElem?_cons_succ, List.getElem?_replicate, if_pos hf]
      rfl
  have l0 : ((O.lst (smD n J) :: List.replicate n (O.lst [])) ++ [O.lst ((List.range n).map fun f => D.ref (1 + f))]).length = n + 2 := by
    rw [List.length_append, List.length_cons, List.length_replicate]
    rfl
  generalize (O.lst (smD n J) :: List.replicate n (O.lst [])) ++ [O.lst ((List.range n).map fun f => D.ref (1 + f))] = H2 at a2 s0 l0
  obtain ⟨ls', hp', e, w4, w5, w6, w7, w8, w9, rfl, s3, l3⟩ := sForI_pre (fi := mIS (mVar 1)) (t := .nm 4) (b := B1_sides_of_seams) (gd := []) (items := E) (hp := H2) (hp1 := H2)
    (ls := [some (skD n J), some (T E), some (.ref 0), some (.ref (n + 1)), none, none, none, none, none, none]) D.int
    (fun d ls hp => ∃ w4 w5 w6 w7 w8 w9, ls = [some (skD n J), some (T E), some (.ref 0), some (.ref (n + 1)), w4, w5, w6, w7, w8, w9] ∧ Sids n J hp (tbl n J d) ∧ hp.length = n + 2)
    (mIS_tup (mVar_of rfl)) (fun _ _ _ _ => rfl) ⟨_, _, _, _, _, _, rfl, s0, l0⟩ (by
      rintro d k r ls hp ed ⟨w4, w5, w6, w7, w8, w9, rfl, s, l⟩
      have hk : k ∈ E := by rw [ed]; simp
      have hd : d.length < E.length := by rw [ed, List.length_append, List.length_cons]; omega
      have hk1 := inb k hk
      have hk2 : 0 ≤ k ∧ k < (sms n J).length := by rw [sk.sms_length]; exact hk1
      obtain ⟨s1, s2, s3, s4⟩ := sk.sm hk1
      have et : tbl n J (d ++ [k]) = fun f => (tbl n J d f ++ if (smAt n J k).1 = f then [(smAt n J k).2] else []) ++ if (oth J (smAt n J k)).1 = f then [(oth J (smAt n J k)).2] else [] := by
        funext f
        unfold tbl
        rw [List.flatMap_append, List.flatMap_singleton, List.append_assoc]
        rfl
      rw [et]
      have a3 := asg_of (t := .tp ((.nm 5) :: ((.nm 6) :: ((.nm 7) :: ((.nm 8) :: []))))) (m2_ev (ls := [some (skD n J), some (T E), some (.ref 0), some (.ref (n + 1)), some (.int k), w5, w6, w7, w8, w9]) (hp := hp) (fa := mVar 2) (fb := mVar 4) (g := gIx) (mVar_of rfl) (mVar_of rfl) (gIx_sm s.sm hk2)) asg_sm4
      have t1 := tbl_len (n := n) (J := J) (smAt n J k).1 d
      have t2 := tbl_len (n := n) (J := J) (oth J (smAt n J k)).1 d
      generalize smAt n J k = p at *
      obtain ⟨hp2, b1, b2, b3⟩ := s.app s1 p.2 (by omega)
      obtain ⟨hp3, c1, c2, c3⟩ := b2.app s3 (oth J p).2 (by
        rw [List.length_append]
        split <;> simp <;> omega)
      have i1 : isL (.ref (1 + p.1)) hp = true := isL_of (s.row _ s1)
      have i2 : isL (.ref (1 + (oth J p).1)) hp2 = true := isL_of (b2.row _ s3)
      exact ⟨_, _, hp3, asg_nm, .inl (sSeq_of a3 (sSeq_of (sDrop_of (met_of (m2_ev (mVar_of rfl) (mVar_of rfl) (s.at_ s1)) i1 (cons_of (mVar_of rfl) nil_of) b1)) (sDrop_of (met_of (m2_ev (mVar_of rfl) (mVar_of rfl) (b2.at_ s3)) i2 (cons_of (mVar_of rfl) nil_of) c1)))), _, _, _, _, _, _, rfl, c2, by omega⟩)
  have e' : F1_sides_of_seams [some (skD n J), some (T E), some (.ref 0), some (.ref (n + 1)), none, none, none, none, none, none] H2 = _ := e
  exact ⟨hp', def_of (sSeq_of a1 (sSeq_of a2 (sSeq_of e' (ret_of (mVar_of rfl))))), s3, l3⟩

end Lw
namespace Lw
open PySem PySem.Spec L2 Ve
section
variable {n : Nat} {J : Nat → Nat → Sd} {E : List Int}
theorem gof_fold (f f0 : Nat) (lt : ∀ i, (J f i).1 < n ∨ True) : ∀ (tb : List Nat) (K : List Nat), Met n f0 K → (∀ i ∈ tb, (J f i).1 < n) → Met n f0 (tb.foldl (gof J f) K) ∧ (∃ X, tb.foldl (gof J f) K = K ++ X) ∧ ∀ i ∈ tb, (J f i).1 ∈ tb.foldl (gof J f) K
  | [], K, h, _ => ⟨h, ⟨[], (List.append_nil _).symm⟩, fun i hi => nomatch hi⟩
  | i :: tb, K, h, ht => by
    have m1 : Met n f0 (gof J f K i) := by
      unfold gof
      split
      · exact h
      · rename_i c
        refine ⟨List.nodup_append.mpr ⟨h.nd, by simp, fun a ha b hb e => c (by rw [← List.mem_singleton.mp hb, ← e]; exact ha)⟩, fun g hg => ?_, List.mem_append_left _ h.has⟩
        rcases List.mem_append.mp hg with z | z
        · exact h.lt g z
        · rw [List.mem_singleton.mp z]; exact ht i List.mem_cons_self
    have x1 : ∃ X, gof J f K i = K ++ X := by
      unfold gof
      split
      · exact ⟨[], (List.append_nil _).symm⟩
      · exact ⟨_, rfl⟩
    have in1 : (J f i).1 ∈ gof J f K i := by
      unfold gof
      split
      · assumption
      · simp
    obtain ⟨a, ⟨X, b⟩, c⟩ := gof_fold f f0 lt tb (gof J f K i) m1 fun j hj => ht j (List.mem_cons_of_mem _ hj)
    obtain ⟨Y, y⟩ := x1
    refine ⟨a, ⟨Y ++ X, by rw [List.foldl_cons, b, y, List.append_assoc]⟩, fun j hj => ?_⟩
    rw [List.foldl_cons]
    rcases List.mem_cons.mp hj with z | z
    · rw [z, b]
      exact List.mem_append_left _ in1
    · exact c j z
theorem tbl_end (sk : Skin n J) (inb : Inb n E) {f i : Nat} (h : i ∈ tbl n J E f) : f < n ∧ i < 4 ∧ (J f i).1 < n ∧ (J f i).2 < 4 := by
  obtain ⟨k, hk, h⟩ := mem_tbl.mp h
  obtain ⟨s1, s2, s3, s4⟩ := sk.sm (inb k hk)
  have key : ∀ p : Sd, (f, i) = p → p.1 < n → p.2 < 4 → f < n ∧ i < 4 := fun p e h1 h2 => by
    rw [← e] at h1 h2
    exact ⟨h1, h2⟩
  have fi : f < n ∧ i < 4 := by
    rcases h with h | h
    · exact key _ h s1 s2
    · exact key _ h s3 s4
  obtain ⟨r1, r2⟩ := sk.rng f i fi.1 fi.2
  exact ⟨fi.1, fi.2, r1, r2⟩
theorem tbl_bes (sk : Skin n J) (inb : Inb n E) {Pt : Nat → Pl} (ht : ∀ f, 0 ≤ (Pt f).t ∧ (Pt f).t < 4) (hb : ∀ k ∈ E, Bes Pt J (smAt n J k)) {f i : Nat} (h : i ∈ tbl n J E f) : nxt (Pt f) (i : Nat) ((J f i).2 : Nat) = Pt (J f i).1 := by
  obtain ⟨k, hk, h⟩ := mem_tbl.mp h
  obtain ⟨s1, s2, s3, s4⟩ := sk.sm (inb k hk)
  have b := hb k hk
  have key : ∀ p : Sd, (f, i) = p → Bes Pt J p → nxt (Pt f) (i : Nat) ((J f i).2 : Nat) = Pt (J f i).1 := fun p e h1 => by
    rw [← e] at h1
    exact h1
  rcases h with h | h
  · exact key _ h b
  · refine key _ h ?_
    have := b.back ht s2 s4
    unfold Bes
    have inv : oth J (oth J (smAt n J k)) = smAt n J k := sk.inv _ _ s1 s2
    rw [inv]
    exact this
theorem full2 (tr : Tre n J E) (sk : Skin n J) {f0 : Nat} {K : List Nat} (m : Met n f0 K) (cl : ∀ f ∈ K, ∀ i ∈ tbl n J E f, (J f i).1 ∈ K) : ∀ f, f < n → f ∈ K :=
  tr.full m.has m.lt fun k hk => by
    obtain ⟨s1, s2, s3, s4⟩ := sk.sm (tr.inb k hk)
    constructor
    · intro h
      exact cl _ h _ (mem_tbl.mpr ⟨k, hk, .inl rfl⟩)
    · intro h
      have this : (J (oth J (smAt n J k)).1 (oth J (smAt n J k)).2).1 ∈ K := cl _ h _ (mem_tbl.mpr ⟨k, hk, .inr rfl⟩)
      have inv : oth J (oth J (smAt n J k)) = smAt n J k := sk.inv _ _ s1 s2
      have e : (J (oth J (smAt n J k)).1 (oth J (smAt n J k)).2).1 = (smAt n J k).1 := congrArg Prod.fst inv
      rwa [e] at this
end
@[simp] def B1_lay_from_1 : AS :=
    (sIf (mT (m2 (mVar 9) (mVar 4) gNotIn)) (sSeq (sStore (mVar 10) (mVar 4) (mVar 9))
    (sDrop (mMet isL (mVar 5) (mCons (mVar 9) mNil) gAppend))) sNext)
def B1_lay_from : AS :=
    sSeq (sAsg (.tp ((.nm 9) :: ((.nm 10) :: []))) (mAs (mCons (mVar 0) (mCons (mVar 7) (mCons (m2 (mVar 4) (mVar 7) gIx) (mCons (mVar 8) mNil)))) (ar 4 c_beside)))
    B1_lay_from_1
def F1_lay_from : AS := (sForI (mIS (m2 (mVar 3) (mVar 7) gIx)) (.nm 8) B1_lay_from)
@[simp] def B2_lay_from_2 : AS :=
    (sAug 6 (mC (.int 1)) gAddI)
@[simp] def B2_lay_from_1 : AS :=
    sSeq F1_lay_from
    B2_lay_from_2
def B2_lay_from : AS :=
    sSeq (sSet 7 (m2 (mVar 5) (mVar 6) gIx))
    B2_lay_from_1
def W2_lay_from : Nat → AS := sWhile (mT (m2 (mVar 6) (mAs (mCons (mVar 5) mNil) gLen) gLt)) B2_lay_from
@[simp] def b_lay_from_5 : AS :=
    (sRet (mVar 4))
@[simp] def b_lay_from_4 : AS :=
    sSeq (W2_lay_from 1000000)
    b_lay_from_5
@[simp] def b_lay_from_3 : AS :=
    sSeq (sSet 6 (mC (.int 0)))
    b_lay_from_4
@[simp] def b_lay_from_2 : AS :=
    sSeq (sSet 5 (mNew (mLst (mCons (mVar 2) mNil))))
    b_lay_from_3
@[simp] def b_lay_from_1 : AS :=
    sSeq (sSet 4 (mDict (((mVar 2), (mTup (mCons (mC (.int 0)) (mCons (mC (.int 0)) (mCons (mC (.int 0)) mNil))))) :: [])))
    b_lay_from_2
def b_lay_from : AS :=
    sSeq (sSet 3 (mAs (mCons (mVar 0) (mCons (mVar 1) mNil)) (ar 2 c_sides_of_seams)))
    b_lay_from_1
def m_lay_from : List D → Hd → Option (D × Hd) := mDef 11 b_lay_from

def c_lay_from := cN m_lay_from
theorem con_lay_from : Cl c_lay_from m_lay_from := cl_cN _
theorem lay_step {n : Nat} {J : Nat → Nat → Sd} {Pt : Nat → Pl} {E : List Int} {f f0 i at_ : Nat} {hp : Hd} {K : List Nat} (hf : f < n) (hi : i < 4) (hn : n ≤ 60) (hb : nxt (Pt f) (i : Nat) ((J f i).2 : Nat) = Pt (J f i).1) (fK : f ∈ K) (hl : K.length ≤ n)
    (s : Sids n J hp (tbl n J E)) (hP : hp[n + 2]? = some (.dic (Gi (gP Pt) K))) (hK : hp[n + 3]? = some (.lst (K.map fun k : Nat => D.int (k : Nat)))) (v9 v10 : Option D) :
    ∃ ls2 hp2, B1_lay_from [some (skD n J), some (T E), some (.int (f0 : Nat)), some (.ref (n + 1)), some (.ref (n + 2)), some (.ref (n + 3)), some (.int (at_ : Nat)), some (.int (f : Nat)), some (.int (i : Nat)), v9, v10] hp = some (.nx, ls2, hp2) ∧
      (∃ y9 y10, ls2 = [some (skD n J), some (T E), some (.int (f0 : Nat)), some (.ref (n + 1)), some (.ref (n + 2)), some (.ref (n + 3)), some (.int (at_ : Nat)), some (.int (f : Nat)), some (.int (i : Nat)), y9, y10]) ∧ Sids n J hp2 (tbl n J E) ∧ hp2[n + 2]? = some (.dic (Gi (gP Pt) (gof J f K i))) ∧ hp2[n + 3]? = some (.lst ((gof J f K i).map fun k : Nat => D.int (k : Nat))) := by
  obtain ⟨g, hg⟩ : ∃ g, (J f i).1 = g := ⟨_, rfl⟩
  have eb := beside_ok (J := J) hf hi (Pt f) hp
  rw [hb, hg] at eb
  have a1 : sAsg (.tp ((.nm 9) :: ((.nm 10) :: []))) (mAs (mCons (mVar 0) (mCons (mVar 7) (mCons (m2 (mVar 4) (mVar 7) gIx) (mCons (mVar 8) mNil)))) (ar 4 c_beside)) [some (skD n J), some (T E), some (.int (f0 : Nat)), some (.ref (n + 1)), some (.ref (n + 2)), some (.ref (n + 3)), some (.int (at_ : Nat)), some (.int (f : Nat)), some (.int (i : Nat)), v9, v10] hp
      = some (.nx, [some (skD n J), some (T E), some (.int (f0 : Nat)), some (.ref (n + 1)), some (.ref (n + 2)), some (.ref (n + 3)), some (.int (at_ : Nat)), some (.int (f : Nat)), some (.int (i : Nat)), some (.int (g : Nat)), some (gP Pt g)], hp) := by
    refine asg_of (call_of (cons_of (mVar_of rfl) (cons_of (mVar_of rfl) (cons_of (m2_ev (mVar_of rfl) (mVar_of rfl) (gIx_Gi hP fK)) (cons_of (mVar_of rfl) nil_of)))) rfl eb) ?_
    rw [asg_tp]
    rfl
  have t1 : mT (m2 (mVar 9) (mVar 4) gNotIn) [some (skD n J), some (T E), some (.int (f0 : Nat)), some (.ref (n + 1)), some (.ref (n + 2)), some (.ref (n + 3)), some (.int (at_ : Nat)), some (.int (f : Nat)), some (.int (i : Nat)), some (.int (g : Nat)), some (gP Pt g)] hp = some (!decide (g ∈ K), hp) :=
    mT_of (m2_ev (mVar_of rfl) (mVar_of rfl) (gNotIn_Gi hP))
  unfold gof
  rw [hg]
  by_cases c : g ∈ K
  · rw [decide_eq_true c] at t1
    rw [if_pos c]
    exact ⟨_, hp, sSeq_of a1 (if_ev t1 rfl), ⟨_, _, rfl⟩, s, hP, hK⟩
  · rw [decide_eq_false c] at t1
    rw [if_neg c]
    have e2 := gSet_Gi (g := gP Pt) hP c (by omega)
    have a2 : sStore (mVar 10) (mVar 4) (mVar 9) [some (skD n J), some (T E), some (.int (f0 : Nat)), some (.ref (n + 1)), some (.ref (n + 2)), some (.ref (n + 3)), some (.int (at_ : Nat)), some (.int (f : Nat)), some (.int (i : Nat)), some (.int (g : Nat)), some (gP Pt g)] hp = some (.nx, [some (skD n J), some (T E), some (.int (f0 : Nat)), some (.ref (n + 1)), some (.ref (n + 2)), some (.ref (n + 3)), some (.int (at_ : Nat)), some (.int (f : Nat)), some (.int (i : Nat)), some (.int (g : Nat)), some (gP Pt g)], hp.set (n + 2) (.dic (Gi (gP Pt) (K ++ [g])))) := by
      rw [sStore_s, mVar_of (d := gP Pt g) rfl]
      dsimp only
      rw [mVar_of (d := .ref (n + 2)) rfl]
      dsimp only
      rw [mVar_of (d := .int (g : Nat)) rfl]
      dsimp only
      rw [e2]
    have hK1 : (hp.set (n + 2) (.dic (Gi (gP Pt) (K ++ [g]))))[n + 3]? = some (.lst (K.map fun k : Nat => D.int (k : Nat))) := hset_ne (by omega) hK
    have s1 : Sids n J (hp.set (n + 2) (.dic (Gi (gP Pt) (K ++ [g])))) (tbl n J E) := s.keep fun k hk => List.getElem?_set_ne (by omega)
    have hP1 : (hp.set (n + 2) (.dic (Gi (gP Pt) (K ++ [g]))))[n + 2]? = some (.dic (Gi (gP Pt) (K ++ [g]))) := hset_same hP
    generalize hp.set (n + 2) (.dic (Gi (gP Pt) (K ++ [g]))) = hp1 at a2 hK1 s1 hP1
    have e3 := gAppend_of (d := .int (g : Nat)) hK1 (by rw [List.length_map]; omega)
    refine ⟨_, _, sSeq_of a1 (if_ev t1 (sSeq_of a2 (sDrop_of (met_of (mVar_of rfl) (isL_of hK1) (cons_of (mVar_of rfl) nil_of) e3)))), ⟨_, _, rfl⟩, s1.keep fun k hk => List.getElem?_set_ne (by omega), hset_ne (by omega) hP1, ?_⟩
    rw [hset_same hK1, List.map_append]
    rfl
def Lw (n : Nat) (J : Nat → Nat → Sd) (Pt : Nat → Pl) (E : List Int) (f0 : Nat) (st : List Nat × Nat) (ls : Ls) (hp : Hd) : Prop := ∃ v7 v8 v9 v10, ls = [some (skD n J), some (T E), some (.int (f0 : Nat)), some (.ref (n + 1)), some (.ref (n + 2)), some (.ref (n + 3)), some (.int (st.2 : Nat)), v7, v8, v9, v10] ∧
  Sids n J hp (tbl n J E) ∧ hp[n + 2]? = some (.dic (Gi (gP Pt) st.1)) ∧ hp[n + 3]? = some (.lst (st.1.map fun k : Nat => D.int (k : Nat))) ∧ Met n f0 st.1 ∧ st.2 ≤ st.1.length ∧ ∀ a, a < st.2 → ∀ f, st.1[a]? = some f → ∀ i ∈ tbl n J E f, (J f i).1 ∈ st.1
theorem lay_run {n : Nat} {J : Nat → Nat → Sd} (sk : Skin n J) (hn : n ≤ 60) {E : List Int} (hE : E.length ≤ 1000) (tr : Tre n J E) {Pt : Nat → Pl} (ht : ∀ f, 0 ≤ (Pt f).t ∧ (Pt f).t < 4) (hb : ∀ k ∈ E, Bes Pt J (smAt n J k)) {f0 : Nat} (hf0 : f0 < n) (h0 : Pt f0 = ⟨0, 0, 0⟩) :
    ∃ K H, m_lay_from [skD n J, T E, .int (f0 : Nat)] [] = some (.ref (n + 2), H) ∧ H[n + 2]? = some (.dic (Gi (gP Pt) K)) ∧ Met n f0 K ∧ ∀ f, f < n → f ∈ K := by
  obtain ⟨H1, e1, s1, l1⟩ := sides_run sk hn hE tr.inb
  have met0 : Met n f0 [f0] := ⟨by simp, fun f hf => by rw [List.mem_singleton.mp hf]; exact hf0, List.mem_singleton_self _⟩
  have a1 : sSet 3 (mAs (mCons (mVar 0) (mCons (mVar 1) mNil)) (ar 2 c_sides_of_seams)) [some (skD n J), some (T E), some (.int (f0 : Nat)), none, none, none, none, none, none, none, none] [] = some (.nx, [some (skD n J), some (T E), some (.int (f0 : Nat)), some (.ref (n + 1)), none, none, none, none, none, none, none], H1) :=
    sSet_of (call_of (cons_of (mVar_of rfl) (cons_of (mVar_of rfl) nil_of)) rfl e1)
  have ed : Gi (gP Pt) [f0] = [(.int (f0 : Nat), .tup [.int 0, .int 0, .int 0])] := by
    show [(D.int (f0 : Nat), T (plI (Pt f0)))] = _
    rw [h0]
    rfl
  have a2 : sSet 4 (mDict (((mVar 2), (mTup (mCons (mC (.int 0)) (mCons (mC (.int 0)) (mCons (mC (.int 0)) mNil))))) :: [])) [some (skD n J), some (T E), some (.int (f0 : Nat)), some (.ref (n + 1)), none, none, none, none, none, none, none] H1 = some (.nx, [some (skD n J), some (T E), some (.int (f0 : Nat)), some (.ref (n + 1)), some (.ref (n + 2)), none, none, none, none, none, none], H1 ++ [.dic (Gi (gP Pt) [f0])]) := by
    rw [ed, ← l1]
    rfl
  have a3 : sSet 5 (mNew (mLst (mCons (mVar 2) mNil))) [some (skD n J), some (T E), some (.int (f0 : Nat)), some (.ref (n + 1)), some (.ref (n + 2)), none, none, none, none, none, none] (H1 ++ [.dic (Gi (gP Pt) [f0])]) = some (.nx, [some (skD n J), some (T E), some (.int (f0 : Nat)), some (.ref (n + 1)), some (.ref (n + 2)), some (.ref (n + 3)), none, none, none, none, none], (H1 ++ [.dic (Gi (gP Pt) [f0])]) ++ [.lst [.int (f0 : Nat)]]) := by
    have e : (H1 ++ [O.dic (Gi (gP Pt) [f0])]).length = n + 3 := by rw [List.length_append, l1]; rfl
    rw [← e]
    exact sSet_of (mNew_of (lst_of (cons_of (mVar_of rfl) nil_of) (by show 1 ≤ 1000; decide)))
  have b2 : ((H1 ++ [O.dic (Gi (gP Pt) [f0])]) ++ [.lst [.int (f0 : Nat)]])[n + 2]? = some (.dic (Gi (gP Pt) [f0])) := by
    refine hget_old ?_
    rw [← l1]
    exact hget_new
  have b3 : ((H1 ++ [O.dic (Gi (gP Pt) [f0])]) ++ [.lst [.int (f0 : Nat)]])[n + 3]? = some (.lst (([f0] : List Nat).map fun k : Nat => D.int (k : Nat))) := by
    have e : (H1 ++ [O.dic (Gi (gP Pt) [f0])]).length = n + 3 := by rw [List.length_append, l1]; rfl
    rw [← e]
    exact hget_new
  have b1 : Sids n J ((H1 ++ [O.dic (Gi (gP Pt) [f0])]) ++ [.lst [.int (f0 : Nat)]]) (tbl n J E) := s1.keep fun k hk => by
    rw [List.append_assoc, List.getElem?_append_left (by omega)]
  generalize (H1 ++ [O.dic (Gi (gP Pt) [f0])]) ++ [.lst [.int (f0 : Nat)]] = H2 at a3 b1 b2 b3
  have a4 : sSet 6 (mC (.int 0)) [some (skD n J), some (T E), some (.int (f0 : Nat)), some (.ref (n + 1)), some (.ref (n + 2)), some (.ref (n + 3)), none, none, none, none, none] H2 = some (.nx, [some (skD n J), some (T E), some (.int (f0 : Nat)), some (.ref (n + 1)), some (.ref (n + 2)), some (.ref (n + 3)), some (.int ((0 : Nat) : Int)), none, none, none, none], H2) := rfl
  obtain ⟨⟨K, a⟩, ls4, H4, e4, ⟨w7, w8, w9, w10, rfl, c1, c2, c3, met, ha, cl⟩, d4⟩ := sWhile_rel (S := List Nat × Nat) (c := mT (m2 (mVar 6) (mAs (mCons (mVar 5) mNil) gLen) gLt)) (b := B2_lay_from) (Lw n J Pt E f0) (fun st => st.1.length ≤ st.2) (fun st => n - st.2) (fun st ls hp h => by
    obtain ⟨K, a⟩ := st
    obtain ⟨v7, v8, v9, v10, rfl, s, hP, hK, met, ha, cl⟩ := h
    dsimp only at *
    have ct : mT (m2 (mVar 6) (mAs (mCons (mVar 5) mNil) gLen) gLt) [some (skD n J), some (T E), some (.int (f0 : Nat)), some (.ref (n + 1)), some (.ref (n + 2)), some (.ref (n + 3)), some (.int (a : Nat)), v7, v8, v9, v10] hp = some (decide ((a : Int) < (K.length : Nat)), hp) := by
      refine mT_of (m2_ev (mVar_of rfl) (as_of (cons_of (mVar_of rfl) nil_of) (gLen_lst hK)) ?_)
      rw [List.length_map]
      exact gLt_int
    have ml := met.len
    by_cases hc : K.length ≤ a
    · refine .inl ⟨?_, hc⟩
      rw [ct, decide_eq_false (by omega)]
    · obtain ⟨f, hfa⟩ : ∃ f, K[a]? = some f := ⟨_, List.getElem?_eq_getElem (by omega)⟩
      have fK : f ∈ K := List.mem_of_getElem? hfa
      have hf := met.lt f fK
      have u1 : sSet 7 (m2 (mVar 5) (mVar 6) gIx) [some (skD n J), some (T E), some (.int (f0 : Nat)), some (.ref (n + 1)), some (.ref (n + 2)), some (.ref (n + 3)), some (.int (a : Nat)), v7, v8, v9, v10] hp = some (.nx, [some (skD n J), some (T E), some (.int (f0 : Nat)), some (.ref (n + 1)), some (.ref (n + 2)), some (.ref (n + 3)), some (.int (a : Nat)), some (.int (f : Nat)), v8, v9, v10], hp) :=
        sSet_of (m2_ev (mVar_of rfl) (mVar_of rfl) (gIx_refN (j := a) hK (x := .int (f : Nat)) (by rw [List.getElem?_map, hfa]; rfl)))
      obtain ⟨gm, ⟨X, gx⟩, gi⟩ := gof_fold (J := J) f f0 (fun _ => .inr trivial) (tbl n J E f) K met fun i hi => (tbl_end sk tr.inb hi).2.2.1
      obtain ⟨ls3, hp3, e3, y8, y9, y10, K3, rfl, rfl, s3, hP3, hK3, f3, l3⟩ := sForI_rel (fi := mIS (m2 (mVar 3) (mVar 7) gIx)) (t := .nm 8) (b := B1_lay_from) (gd := [(1 + f, (tbl n J E f).map fun i : Nat => D.int (i : Nat))]) (items := tbl n J E f) (hp := hp) (hp1 := hp)
        (ls := [some (skD n J), some (T E), some (.int (f0 : Nat)), some (.ref (n + 1)), some (.ref (n + 2)), some (.ref (n + 3)), some (.int (a : Nat)), some (.int (f : Nat)), v8, v9, v10]) (fun i : Nat => D.int (i : Nat))
        (fun (s : List Nat) ls hp => ∃ y8 y9 y10 K3, s = K3 ∧ ls = [some (skD n J), some (T E), some (.int (f0 : Nat)), some (.ref (n + 1)), some (.ref (n + 2)), some (.ref (n + 3)), some (.int (a : Nat)), some (.int (f : Nat)), y8, y9, y10] ∧ Sids n J hp (tbl n J E) ∧ hp[n + 2]? = some (.dic (Gi (gP Pt) K3)) ∧ hp[n + 3]? = some (.lst (K3.map fun k : Nat => D.int (k : Nat))) ∧ f ∈ K3 ∧ Met n f0 K3) (gof J f)
        (mIS_ref (m2_ev (mVar_of rfl) (mVar_of rfl) (s.at_ hf)) (s.row f hf)) (fun _ _ _ ⟨_, _, _, _, _, _, s, _⟩ => gdOk1 (s.row f hf)) K ⟨_, _, _, _, rfl, rfl, s, hP, hK, fK, met⟩ (by
          rintro i hi K3 ls hp ⟨y8, y9, y10, K4, rfl, rfl, s, hP, hK, f3, m3⟩
          obtain ⟨_, i4, jn, _⟩ := tbl_end sk tr.inb hi
          obtain ⟨ls2, hp2, e, ⟨z9, z10, rfl⟩, s2, hP2, hK2⟩ := lay_step (at_ := a) (f0 := f0) hf i4 hn (tbl_bes sk tr.inb ht hb hi) f3 m3.len s hP hK y9 y10
          obtain ⟨gm2, ⟨X2, gx2⟩, _⟩ := gof_fold (J := J) f f0 (fun _ => .inr trivial) [i] K3 m3 (fun j hj => by rw [List.mem_singleton.mp hj]; exact jn)
          exact ⟨_, _, _, asg_nm, .inl e, _, _, _, _, rfl, rfl, s2, hP2, hK2, by rw [show gof J f K3 i = K3 ++ X2 from gx2]; exact List.mem_append_left _ f3, gm2⟩)
      have u3 : sAug 6 (mC (.int 1)) gAddI [some (skD n J), some (T E), some (.int (f0 : Nat)), some (.ref (n + 1)), some (.ref (n + 2)), some (.ref (n + 3)), some (.int (a : Nat)), some (.int (f : Nat)), y8, y9, y10] hp3 = some (.nx, [some (skD n J), some (T E), some (.int (f0 : Nat)), some (.ref (n + 1)), some (.ref (n + 2)), some (.ref (n + 3)), some (.int ((a + 1 : Nat) : Int)), some (.int (f : Nat)), y8, y9, y10], hp3) := rfl
      rw [gx] at gm gi hP3 hK3
      have e3' : F1_lay_from [some (skD n J), some (T E), some (.int (f0 : Nat)), some (.ref (n + 1)), some (.ref (n + 2)), some (.ref (n + 3)), some (.int (a : Nat)), some (.int (f : Nat)), v8, v9, v10] hp = _ := e3
      refine .inr ⟨by rw [ct, decide_eq_true (by omega)], (K ++ X, a + 1), _, _, .inl (sSeq_of u1 (sSeq_of e3' u3)), ⟨_, _, _, _, rfl, s3, hP3, hK3, gm, by dsimp only; rw [List.length_append]; omega, fun b hb g hg i hi => ?_⟩, by dsimp only; omega⟩
      dsimp only at hb hg ⊢
      rw [List.getElem?_append_left (by omega)] at hg
      by_cases hba : b = a
      · subst hba
        rw [hfa] at hg
        cases hg
        exact gi i hi
      · exact List.mem_append_left _ (cl b (by omega) g hg i hi)) 1000000 ([f0], 0) _ H2 (by dsimp only; omega) ⟨none, none, none, none, rfl, b1, b2, b3, met0, Nat.zero_le _, fun a ha => by cases ha⟩
  dsimp only at *
  have e4' : W2_lay_from 1000000 [some (skD n J), some (T E), some (.int (f0 : Nat)), some (.ref (n + 1)), some (.ref (n + 2)), some (.ref (n + 3)), some (.int ((0 : Nat) : Int)), none, none, none, none] H2 = _ := e4
  refine ⟨K, H4, def_of (sSeq_of a1 (sSeq_of a2 (sSeq_of a3 (sSeq_of a4 (sSeq_of e4' (ret_of (mVar_of rfl))))))), c2, met, full2 tr sk met fun f hf i hi => ?_⟩
  obtain ⟨b, hb2⟩ := List.mem_iff_getElem?.mp hf
  have := (List.getElem?_eq_some_iff.mp hb2).1
  exact cl b (by omega) f hb2 i hi
theorem lay_ok {n : Nat} {J : Nat → Nat → Sd} (sk : Skin n J) (hn : n ≤ 60) {E : List Int} (hE : E.length ≤ 1000) (tr : Tre n J E) {Pt : Nat → Pl} (ht : ∀ f, 0 ≤ (Pt f).t ∧ (Pt f).t < 4) (hb : ∀ k ∈ E, Bes Pt J (smAt n J k)) {f0 : Nat} (hf0 : f0 < n) (h0 : Pt f0 = ⟨0, 0, 0⟩) (hp : Hd) :
    ∃ K : List Nat, c_lay_from [skD n J, T E, .int (f0 : Nat)] hp = some (.ref hp.length, hp ++ [.dic (Gi (gP Pt) K)]) ∧ ∀ f, f < n → f ∈ K := by
  obtain ⟨K, H, e, h, _, f⟩ := lay_run sk hn hE tr ht hb hf0 h0
  exact ⟨K, cN_of (by show (nr (skD n J) && (nr (T E) && true)) = true; rw [nr_sk, nr_T]; rfl) e h (nrO_Gi (nr_gP Pt)), f⟩
theorem lay_ok2 {n : Nat} {J : Nat → Nat → Sd} (sk : Skin n J) (hn : n ≤ 60) {E : List Int} (hE : E.length ≤ 1000) (tr : Tre n J E) {Pt : Nat → Pl} (ht : ∀ f, 0 ≤ (Pt f).t ∧ (Pt f).t < 4) (hb : ∀ k ∈ E, Bes Pt J (smAt n J k)) {f0 : Nat} (hf0 : f0 < n) (h0 : Pt f0 = ⟨0, 0, 0⟩) (hp : Hd) :
    ∃ K : List Nat, c_lay_from [skD n J, T E, .int (f0 : Nat)] hp = some (.ref hp.length, hp ++ [.dic (Gi (gP Pt) K)]) ∧ Met n f0 K ∧ ∀ f, f < n → f ∈ K := by
  obtain ⟨K, H, e, h, m, f⟩ := lay_run sk hn hE tr ht hb hf0 h0
  exact ⟨K, cN_of (by show (nr (skD n J) && (nr (T E) && true)) = true; rw [nr_sk, nr_T]; rfl) e h (nrO_Gi (nr_gP Pt)), m, f⟩

end Lw
namespace Lw
open PySem PySem.Spec L2 Ve
def E1_laid : AE :=
    (m2 (mVar 3) (mVar 4) gIx)
def C1_laid : AA :=
    (mLc (mR1 (mCons (mAs (mCons (mVar 0) mNil) gLen) mNil)) (.nm 4) [4] tYesD E1_laid)
@[simp] def b_laid_1 : AS :=
    (sRet (mL C1_laid gTup))
def b_laid : AS :=
    sSeq (sSet 3 (mAs (mCons (mVar 0) (mCons (mVar 1) (mCons (mVar 2) mNil))) (ar 3 c_lay_from)))
    b_laid_1
def m_laid : List D → Hd → Option (D × Hd) := mDef 5 b_laid

def c_laid := cV m_laid
theorem con_laid : Cl c_laid m_laid := cl_cV _
def layD (n : Nat) (Pt : Nat → Pl) : D := .tup ((List.range n).map (gP Pt))
theorem tupled {n : Nat} {Pt : Nat → Pl} {K : List Nat} (hK : ∀ f, f < n → f ∈ K) (hn : n ≤ 60) {fr : AA} {te : AE} {own : List Nat} {v : Nat} {ls : Ls} {hp : Hd} {q : Nat} (e1 : fr ls hp = some ([.int (n : Nat)], hp)) (g : hp[q]? = some (.dic (Gi (gP Pt) K)))
    (h : ∀ f : Nat, ∃ ls1, (Tg.nm v).asg (D.int (f : Nat)) (wipeL ls own) = some ls1 ∧ te ls1 hp = gIx (.ref q) (.int (f : Nat)) hp) : mL (mLc (mR1 fr) (.nm v) own tYesD te) gTup ls hp = some (layD n Pt, hp) := by
  have e := mLc_typed (fi := mR1 fr) (t := .nm v) (own := own) (tt := tYesD) (te := te) (ls := ls) (fun f : Nat => D.int (f : Nat)) (List.range n) (fun _ => true) (gP Pt) (mR1_nat e1 (by omega)) (by rw [List.length_range, sizeLine_eq]; omega) rfl (fun f hf => by
    obtain ⟨ls1, a, b⟩ := h f
    exact ⟨ls1, a, rfl, fun _ => b.trans (gIx_Gi g (hK f (List.mem_range.mp hf)))⟩)
  rw [List.filter_eq_self.mpr (fun _ _ => rfl)] at e
  exact (mL_of e).trans rfl
theorem nr_layD (n : Nat) (Pt : Nat → Pl) : nr (layD n Pt) = true := nrs_map (nr_gP Pt) _
theorem laid_ok {n : Nat} {J : Nat → Nat → Sd} (sk : Skin n J) (hn : n ≤ 60) {E : List Int} (hE : E.length ≤ 1000) (tr : Tre n J E) {Pt : Nat → Pl} (ht : ∀ f, 0 ≤ (Pt f).t ∧ (Pt f).t < 4) (hb : ∀ k ∈ E, Bes Pt J (smAt n J k)) {f0 : Nat} (hf0 : f0 < n) (h0 : Pt f0 = ⟨0, 0, 0⟩) (hp : Hd) :
    c_laid [skD n J, T E, .int (f0 : Nat)] hp = some (layD n Pt, hp) := by
  obtain ⟨K, e, hK⟩ := lay_ok sk hn hE tr ht hb hf0 h0 []
  refine cV_of (by show (nr (skD n J) && (nr (T E) && true)) = true; rw [nr_sk, nr_T]; rfl) (def_of (sSeq_of (sSet_of (call_of (cons_of (mVar_of rfl) (cons_of (mVar_of rfl) (cons_of (mVar_of rfl) nil_of))) rfl e)) (ret_of (tupled (q := 0) hK hn (cons_of (as_of (cons_of (mVar_of rfl) nil_of) gLen_sk) nil_of) rfl fun f => ⟨_, asg_nm, ?_⟩)))) (nr_layD n Pt)
  exact m2_ev (mVar_of rfl) (mVar_of rfl) rfl

theorem mIS_it {fa : AE} {ls : Ls} {hp hp1 : Hd} {d : D} {xs : List D} {gd : Gd} (e : fa ls hp = some (d, hp1)) (h : itOf d hp1 = some (xs, gd)) : mIS fa ls hp = some (xs, gd, hp1) := by
  unfold mIS
  rw [e]
  dsimp only
  rw [h]
theorem itOf_TT (cs : List (List Int)) (hp : Hd) : itOf (TT cs) hp = some (cs.map T, []) := rfl
theorem itOf_ref {hp : Hd} {n : Nat} {xs : List D} (h : hp[n]? = some (.lst xs)) : itOf (.ref n) hp = some (xs, [(n, xs)]) := by
  unfold itOf
  simp only [h]
theorem gSrt_sub (cs : List (List Int)) (a b : Int) (hp : Hd) : gSrt ((cs.map (sub2 a b)).map T) hp = some ((sortC (cs.map (sub2 a b))).map T, hp) := gSrt_T fun c hc => by
  obtain ⟨x, y, rfl⟩ := two_sub a b c hc
  simp
def E1_moved_home : AE :=
    (mVar 3)
def C1_moved_home : AA :=
    (mLc (mIS (mVar 0)) (.tp ((.nm 3) :: ((.nm 4) :: []))) [3, 4] tYesD E1_moved_home)
def E2_moved_home : AE :=
    (mVar 4)
def C2_moved_home : AA :=
    (mLc (mIS (mVar 0)) (.tp ((.nm 3) :: ((.nm 4) :: []))) [3, 4] tYesD E2_moved_home)
def E3_moved_home : AE :=
    (mTup (mCons (m2 (mVar 3) (mVar 1) gSub) (mCons (m2 (mVar 4) (mVar 2) gSub) mNil)))
def C3_moved_home : AA :=
    (mLc (mIS (mVar 0)) (.tp ((.nm 3) :: ((.nm 4) :: []))) [3, 4] tYesD E3_moved_home)
@[simp] def b_moved_home_2 : AS :=
    (sRet (mL (mSortedL C3_moved_home) gTup))
@[simp] def b_moved_home_1 : AS :=
    sSeq (sSet 2 (mL C2_moved_home gMinL))
    b_moved_home_2
def b_moved_home : AS :=
    sSeq (sSet 1 (mL C1_moved_home gMinL))
    b_moved_home_1
def m_moved_home : List D → Hd → Option (D × Hd) := mDef 5 b_moved_home
abbrev c_moved_home := m_moved_home

theorem mhome_ok {d : D} {hp : Hd} {cs : List (List Int)} {gd : Gd} (ei : itOf d hp = some (cs.map T, gd)) (hg : gdOk gd hp = true) (h2 : Two cs) (hne : cs ≠ []) (hl : cs.length ≤ 100000) : m_moved_home [d] hp = some (TT (hm cs), hp) := by
  have lc : ∀ (v1 v2 : Option D) (te : AE) (df : List Int → D), (∀ x y : Int, te [some d, v1, v2, some (.int x), some (.int y)] hp = some (df [x, y], hp)) → mLc (mIS (mVar 0)) (.tp ((.nm 3) :: ((.nm 4) :: []))) [3, 4] tYesD te [some d, v1, v2, none, none] hp = some (cs.map df, hp) := fun v1 v2 te df hte => by
    have := mLc_typed (fi := mIS (mVar 0)) (t := .tp ((.nm 3) :: ((.nm 4) :: []))) (own := [3, 4]) (tt := tYesD) (te := te) (ls := [some d, v1, v2, none, none]) (hp := hp) T cs (fun _ => true) df (mIS_it (mVar_of rfl) ei) (by rw [sizeLine_eq]; omega) hg (fun c hc => by
      obtain ⟨x, y, rfl⟩ := h2 c hc
      exact ⟨[some d, v1, v2, some (.int x), some (.int y)], by rw [asg_tpT]; rfl, rfl, fun _ => hte x y⟩)
    rwa [List.filter_eq_self.mpr (fun _ _ => rfl)] at this
  have a1 : sSet 1 (mL C1_moved_home gMinL) [some d, none, none, none, none] hp = some (.nx, [some d, some (.int (mnC cs 0)), none, none, none], hp) :=
    sSet_of ((mL_of (lc none none E1_moved_home (fun c => .int (c.getD 0 0)) fun x y => mVar_of rfl)).trans (gMinL_mn hne 0))
  have a2 : sSet 2 (mL C2_moved_home gMinL) [some d, some (.int (mnC cs 0)), none, none, none] hp = some (.nx, [some d, some (.int (mnC cs 0)), some (.int (mnC cs 1)), none, none], hp) :=
    sSet_of ((mL_of (lc _ none E2_moved_home (fun c => .int (c.getD 1 0)) fun x y => mVar_of rfl)).trans (gMinL_mn hne 1))
  have e3 := lc (some (.int (mnC cs 0))) (some (.int (mnC cs 1))) E3_moved_home (fun c => T (sub2 (mnC cs 0) (mnC cs 1) c)) fun x y => tup_of (ds := [.int (x - mnC cs 0), .int (y - mnC cs 1)]) (cons_of (m2_ev (mVar_of rfl) (mVar_of rfl) gSub_int) (cons_of (m2_ev (mVar_of rfl) (mVar_of rfl) gSub_int) nil_of)) (by show 2 ≤ 1000; decide)
  have a3 : mL (mSortedL C3_moved_home) gTup [some d, some (.int (mnC cs 0)), some (.int (mnC cs 1)), none, none] hp = some (TT (hm cs), hp) := by
    refine (mL_of (ds := (hm cs).map T) (hp' := hp) ?_).trans rfl
    rw [mSortedL_s]
    unfold C3_moved_home
    rw [e3]
    have := gSrt_sub cs (mnC cs 0) (mnC cs 1) hp
    rw [List.map_map] at this
    exact this
  exact def_of (sSeq_of a1 (sSeq_of a2 (ret_of a3)))

def E1_squares : AE :=
    (mTup (mCons (mTup (mCons (mVar 2) (mCons (mVar 3) mNil))) (mCons (mC (.bl true)) mNil)))
def C1_squares : AA :=
    (mLc (mIS (mAs (mCons (mVar 0) (mCons (mVar 1) (mCons (mC (.int 0)) mNil))) (ar 3 c_laid))) (.tp ((.nm 2) :: ((.nm 3) :: ((.nm 4) :: [])))) [2, 3, 4] tYesD E1_squares)
def b_squares : AS :=
    (sRet (mAs (mCons (mNew (mList (mL C1_squares gDictL))) mNil) (ar 1 c_moved_home)))
def m_squares : List D → Hd → Option (D × Hd) := mDef 5 b_squares

def c_squares := cV m_squares
theorem con_squares : Cl c_squares m_squares := cl_cV _
def sqH (n : Nat) (Pt : Nat → Pl) : List (List Int) := hm (sqs n (sqI Pt))
theorem two_sqs (n : Nat) (Pt : Nat → Pl) : Two (sqs n (sqI Pt)) := fun c hc => by
  obtain ⟨f, _, rfl⟩ := mem_sqs.mp hc
  exact ⟨_, _, rfl⟩
theorem sqs_ne {n : Nat} (Pt : Nat → Pl) (h : 0 < n) : sqs n (sqI Pt) ≠ [] := List.ne_nil_of_mem (mem_sqs.mpr ⟨0, h, rfl⟩)
theorem gListO_Cd {hp : Hd} {n : Nat} {cs : List (List Int)} (h : hp[n]? = some (.dic (Cd cs))) : gListO (.ref n) hp = some (cs.map T, hp) := by
  unfold gListO
  rw [show tupOf (.ref n) = none from rfl]
  dsimp only
  have e1 : seqOfL (.ref n) hp = none := by
    unfold seqOfL
    simp only [h]
    unfold lstOf
    simp only [h]
  have e2 : keysOf (.ref n) hp = some (cs.map T) := by
    unfold keysOf
    simp only [h]
    unfold Cd
    rw [List.map_map]
    rfl
  rw [e1]
  dsimp only
  rw [e2]
theorem sl2_gP {fa : AE} {ls : Ls} {hp hp1 : Hd} {Pt : Nat → Pl} {f : Nat} (e : fa ls hp = some (gP Pt f, hp1)) : mSl fa none (some (mC (.int 2))) ls hp = some (T (sqI Pt f), hp1) := by
  rw [mSl_s, e]
  rfl
theorem squares_ok {n : Nat} {J : Nat → Nat → Sd} (sk : Skin n J) (hn : n ≤ 60) {E : List Int} (hE : E.length ≤ 1000) (tr : Tre n J E) {Pt : Nat → Pl} (ht : ∀ f, 0 ≤ (Pt f).t ∧ (Pt f).t < 4) (hb : ∀ k ∈ E, Bes Pt J (smAt n J k)) (h0 : Pt 0 = ⟨0, 0, 0⟩) (hp : Hd) :
    c_squares [skD n J, T E] hp = some (TT (sqH n Pt), hp) := by
  have el := laid_ok sk hn hE tr ht hb sk.pos h0 []
  have e1 := mLc_typed (fi := mIS (mAs (mCons (mVar 0) (mCons (mVar 1) (mCons (mC (.int 0)) mNil))) (ar 3 c_laid))) (t := .tp ((.nm 2) :: ((.nm 3) :: ((.nm 4) :: [])))) (own := [2, 3, 4]) (tt := tYesD) (te := E1_squares) (ls := [some (skD n J), some (T E), none, none, none]) (hp := []) (gP Pt) (List.range n) (fun _ => true) (fun f => D.tup [T (sqI Pt f), .bl true])
    (gd := []) (hp1 := []) (mIS_tup (call_of (cons_of (mVar_of rfl) (cons_of (mVar_of rfl) (cons_of (mC_of (d := .int ((0 : Nat) : Int))) nil_of))) rfl el)) (by rw [List.length_range, sizeLine_eq]; omega) rfl (fun f _ => ⟨[some (skD n J), some (T E), some (.int (Pt f).x), some (.int (Pt f).y), some (.int (Pt f).t)], by
      unfold gP plI
      rw [asg_tpT]
      rfl, rfl, fun _ => tup_of (ds := [T (sqI Pt f), .bl true]) (cons_of (tup_of (ds := [.int (Pt f).x, .int (Pt f).y]) (cons_of (mVar_of rfl) (cons_of (mVar_of rfl) nil_of)) (by show 2 ≤ 1000; decide)) (cons_of mC_of nil_of)) (by show 2 ≤ 1000; decide)⟩)
  rw [List.filter_eq_self.mpr (fun _ _ => rfl)] at e1
  have e2 : mL C1_squares gDictL [some (skD n J), some (T E), none, none, none] [] = some (.ref 0, [.dic (Cd (sqs n (sqI Pt)))]) := by
    refine (mL_of e1).trans ?_
    have := gDictL_ddp (hp := []) ((List.range n).map (sqI Pt))
    rw [List.map_map] at this
    exact this
  have e3 : mNew (mList (mL C1_squares gDictL)) [some (skD n J), some (T E), none, none, none] [] = some (.ref 1, [.dic (Cd (sqs n (sqI Pt))), .lst ((sqs n (sqI Pt)).map T)]) :=
    mNew_of (mList_ev e2 (gListO_Cd rfl))
  have l := sqs_len n (sqI Pt)
  have e4 := mhome_ok (d := .ref 1) (hp := [.dic (Cd (sqs n (sqI Pt))), .lst ((sqs n (sqI Pt)).map T)]) (itOf_ref rfl) (gdOk1 rfl) (two_sqs n Pt) (sqs_ne Pt sk.pos) (by omega)
  exact cV_of (by show (nr (skD n J) && (nr (T E) && true)) = true; rw [nr_sk, nr_T]; rfl) (def_of (ret_of (call_of (cons_of e3 nil_of) rfl e4))) (nr_TT _)

def E1_L_at_home : AE :=
    (mVar 4)
def C1_L_at_home : AA :=
    (mLc (mIS (mVar 0)) (.tp ((.nm 3) :: ((.nm 4) :: []))) [3, 4] tYesD E1_L_at_home)
def E2_L_at_home : AE :=
    (mVar 3)
def C2_L_at_home : AA :=
    (mLc (mIS (mVar 0)) (.tp ((.nm 3) :: ((.nm 4) :: []))) [3, 4] tYesD E2_L_at_home)
def E3_L_at_home : AE :=
    (mTup (mCons (m2 (mVar 3) (mVar 1) gSub) (mCons (m2 (mVar 4) (mVar 2) gSub) mNil)))
def C3_L_at_home : AA :=
    (mLc (mIS (mVar 0)) (.tp ((.nm 3) :: ((.nm 4) :: []))) [3, 4] tYesD E3_L_at_home)
@[simp] def b_L_at_home_1 : AS :=
    (sRet (mL (mSortedL C3_L_at_home) gTup))
def b_L_at_home : AS :=
    sSeq (sAsg (.tp ((.nm 1) :: ((.nm 2) :: []))) (mTup (mCons (mL C2_L_at_home gMinL) (mCons (mL C1_L_at_home gMinL) mNil))))
    b_L_at_home_1
def m_L_at_home : List D → Hd → Option (D × Hd) := mDef 5 b_L_at_home
abbrev c_L_at_home := m_L_at_home

theorem athome_ok {d : D} {hp : Hd} {cs : List (List Int)} {gd : Gd} (ei : itOf d hp = some (cs.map T, gd)) (hg : gdOk gd hp = true) (h2 : Two cs) (hne : cs ≠ []) (hl : cs.length ≤ 100000) : m_L_at_home [d] hp = some (TT (hm cs), hp) := by
  have lc : ∀ (v1 v2 : Option D) (te : AE) (df : List Int → D), (∀ x y : Int, te [some d, v1, v2, some (.int x), some (.int y)] hp = some (df [x, y], hp)) → mLc (mIS (mVar 0)) (.tp ((.nm 3) :: ((.nm 4) :: []))) [3, 4] tYesD te [some d, v1, v2, none, none] hp = some (cs.map df, hp) := fun v1 v2 te df hte => by
    have := mLc_typed (fi := mIS (mVar 0)) (t := .tp ((.nm 3) :: ((.nm 4) :: []))) (own := [3, 4]) (tt := tYesD) (te := te) (ls := [some d, v1, v2, none, none]) (hp := hp) T cs (fun _ => true) df (mIS_it (mVar_of rfl) ei) (by rw [sizeLine_eq]; omega) hg (fun c hc => by
      obtain ⟨x, y, rfl⟩ := h2 c hc
      exact ⟨[some d, v1, v2, some (.int x), some (.int y)], by rw [asg_tpT]; rfl, rfl, fun _ => hte x y⟩)
    rwa [List.filter_eq_self.mpr (fun _ _ => rfl)] at this
  have m1' : mL C2_L_at_home gMinL [some d, none, none, none, none] hp = some (.int (mnC cs 0), hp) := (mL_of (lc none none E2_L_at_home (fun c => .int (c.getD 0 0)) fun x y => mVar_of rfl)).trans (gMinL_mn hne 0)
  have m2' : mL C1_L_at_home gMinL [some d, none, none, none, none] hp = some (.int (mnC cs 1), hp) := (mL_of (lc none none E1_L_at_home (fun c => .int (c.getD 1 0)) fun x y => mVar_of rfl)).trans (gMinL_mn hne 1)
  have a1 : sAsg (.tp ((.nm 1) :: ((.nm 2) :: []))) (mTup (mCons (mL C2_L_at_home gMinL) (mCons (mL C1_L_at_home gMinL) mNil))) [some d, none, none, none, none] hp = some (.nx, [some d, some (.int (mnC cs 0)), some (.int (mnC cs 1)), none, none], hp) := by
    refine asg_of (tup_of (cons_of m1' (cons_of m2' nil_of)) (by show 2 ≤ 1000; decide)) ?_
    rw [asg_tp]
    rfl
  have e3 := lc (some (.int (mnC cs 0))) (some (.int (mnC cs 1))) E3_L_at_home (fun c => T (sub2 (mnC cs 0) (mnC cs 1) c)) fun x y => tup_of (ds := [.int (x - mnC cs 0), .int (y - mnC cs 1)]) (cons_of (m2_ev (mVar_of rfl) (mVar_of rfl) gSub_int) (cons_of (m2_ev (mVar_of rfl) (mVar_of rfl) gSub_int) nil_of)) (by show 2 ≤ 1000; decide)
  have a3 : mL (mSortedL C3_L_at_home) gTup [some d, some (.int (mnC cs 0)), some (.int (mnC cs 1)), none, none] hp = some (TT (hm cs), hp) := by
    refine (mL_of (ds := (hm cs).map T) (hp' := hp) ?_).trans rfl
    rw [mSortedL_s]
    unfold C3_L_at_home
    rw [e3]
    have := gSrt_sub cs (mnC cs 0) (mnC cs 1) hp
    rw [List.map_map] at this
    exact this
  exact def_of (sSeq_of a1 (ret_of a3))

end Lw
namespace Lw
open PySem PySem.Spec L2 Ve
def E1_least_squares : AE :=
    (mTup (mCons (m1 (mVar 4) gNeg) (mCons (mVar 3) mNil)))
def C1_least_squares : AA :=
    (mLc (mIS (mVar 0)) (.tp ((.nm 3) :: ((.nm 4) :: []))) [3, 4] tYesD E1_least_squares)
@[simp] def B1_least_squares_1 : AS :=
    (sDrop (mMet isL (mVar 1) (mCons (mAs (mCons (mVar 0) mNil) (ar 1 c_moved_home)) mNil) gAppend))
def B1_least_squares : AS :=
    sSeq (sSet 0 (mNew C1_least_squares))
    B1_least_squares_1
def F1_least_squares : AS := (sForI (mR1 (mCons (mC (.int 4)) mNil)) (.nm 2) B1_least_squares)
@[simp] def b_least_squares_2 : AS :=
    (sRet (mAs (mCons (mVar 1) mNil) (gBest1 false)))
@[simp] def b_least_squares_1 : AS :=
    sSeq F1_least_squares
    b_least_squares_2
def b_least_squares : AS :=
    sSeq (sSet 1 (mNew (mLst mNil)))
    b_least_squares_1
def m_least_squares : List D → Hd → Option (D × Hd) := mDef 5 b_least_squares

def c_least_squares := cV m_least_squares
theorem con_least_squares : Cl c_least_squares m_least_squares := cl_cV _
def Src (hp : Hd) (cs : List (List Int)) (x : D) : Prop := x = TT cs ∨ ∃ r, r ≠ 0 ∧ x = .ref r ∧ hp[r]? = some (.lst (cs.map T))
theorem Src.it {hp : Hd} {cs : List (List Int)} {x : D} (h : Src hp cs x) : ∃ gd, itOf x hp = some (cs.map T, gd) ∧ gdOk gd hp = true := by
  rcases h with rfl | ⟨r, _, rfl, h⟩
  · exact ⟨[], rfl, rfl⟩
  · exact ⟨_, itOf_ref h, gdOk1 h⟩
theorem least_step {cs : List (List Int)} {L : List (List (List Int))} {x : D} {hp : Hd} (h2 : Two cs) (hne : cs ≠ []) (hl : cs.length ≤ 1000) (hL : L.length ≤ 1000) (sr : Src hp cs x) (h0 : hp[0]? = some (.lst (L.map TT))) (v2 v3 v4 : Option D) :
    ∃ x2 hp2, B1_least_squares [some x, some (.ref 0), v2, v3, v4] hp = some (.nx, [some x2, some (.ref 0), v2, v3, v4], hp2) ∧ Src hp2 (cs.map tn) x2 ∧ hp2[0]? = some (.lst ((L ++ [hm (cs.map tn)]).map TT)) := by
  obtain ⟨gd, ei, eg⟩ := sr.it
  have l0 := hlt h0
  have e1 := mLc_typed (fi := mIS (mVar 0)) (t := .tp ((.nm 3) :: ((.nm 4) :: []))) (own := [3, 4]) (tt := tYesD) (te := E1_least_squares) (ls := [some x, some (.ref 0), v2, v3, v4]) (hp := hp) T cs (fun _ => true) (fun c => T (tn c)) (mIS_it (mVar_of rfl) ei) (by rw [sizeLine_eq]; omega) eg (fun c hc => by
    obtain ⟨a, b, rfl⟩ := h2 c hc
    exact ⟨[some x, some (.ref 0), v2, some (.int a), some (.int b)], by rw [asg_tpT]; rfl, rfl, fun _ => tup_of (ds := [.int (-b), .int a]) (cons_of (m1_ev (mVar_of rfl) gNeg_int) (cons_of (mVar_of rfl) nil_of)) (by show 2 ≤ 1000; decide)⟩)
  rw [List.filter_eq_self.mpr (fun _ _ => rfl)] at e1
  have ee : (cs.map fun c => T (tn c)) = (cs.map tn).map T := by rw [List.map_map]; rfl
  rw [ee] at e1
  have gn : (hp ++ [O.lst ((cs.map tn).map T)])[hp.length]? = some (.lst ((cs.map tn).map T)) := hget_new
  have g0 : (hp ++ [O.lst ((cs.map tn).map T)])[0]? = some (.lst (L.map TT)) := hget_old h0
  have e2 := mhome_ok (d := .ref hp.length) (hp := hp ++ [O.lst ((cs.map tn).map T)]) (itOf_ref gn) (gdOk1 gn) two_tn (fun z => hne (List.map_eq_nil_iff.mp z)) (by rw [List.length_map]; omega)
  have e3 := gAppend_of (d := TT (hm (cs.map tn))) g0 (by rw [List.length_map]; omega)
  refine ⟨.ref hp.length, _, sSeq_of (sSet_of (mNew_of e1)) (sDrop_of (met_of (mVar_of rfl) (isL_of g0) (cons_of (call_of (cons_of (mVar_of rfl) nil_of) rfl e2) nil_of) e3)), .inr ⟨hp.length, by omega, rfl, hset_ne (by omega) gn⟩, ?_⟩
  rw [hset_same g0, List.map_append]
  rfl
theorem tns_two {cs : List (List Int)} (h : Two cs) : ∀ k, Two (tns k cs)
  | 0 => h
  | k + 1 => two_tn
theorem tns_len (cs : List (List Int)) : ∀ k, (tns k cs).length = cs.length
  | 0 => rfl
  | k + 1 => by
    show ((tns k cs).map tn).length = _
    rw [List.length_map, tns_len cs k]
theorem least_ok {cs : List (List Int)} (h2 : Two cs) (hne : cs ≠ []) (hl : cs.length ≤ 1000) (hp : Hd) : c_least_squares [TT cs] hp = some (TT (minT (orb1 cs)), hp) := by
  obtain ⟨ls', hp', e, x, v2, v3, v4, rfl, sr, g0⟩ := sForI_pre (fi := mR1 (mCons (mC (.int 4)) mNil)) (t := .nm 2) (b := B1_least_squares) (gd := []) (items := List.range 4) (hp := [.lst []]) (hp1 := [.lst []]) (ls := [some (TT cs), some (.ref 0), none, none, none]) (fun i : Nat => D.int (i : Nat))
    (fun d ls hp => ∃ x v2 v3 v4, ls = [some x, some (.ref 0), v2, v3, v4] ∧ Src hp (tns d.length cs) x ∧ hp[0]? = some (.lst (((List.range d.length).map fun k => hm (tns (k + 1) cs)).map TT)))
    (mR1_nat (j := 4) (cons_of mC_of nil_of) (by decide)) (fun _ _ _ _ => rfl) ⟨_, _, _, _, rfl, .inl rfl, rfl⟩ (by
    rintro d k r ls hp ed ⟨x, v2, v3, v4, rfl, sr, g0⟩
    have hd := (range_at ed).2
    obtain ⟨x2, hp2, e, s2, g2⟩ := least_step (tns_two h2 _) (tns_ne hne _) (by rw [tns_len]; omega) (by rw [List.length_map, List.length_range]; omega) sr g0 (some (.int (k : Nat))) v3 v4
    refine ⟨_, _, _, asg_nm, .inl e, _, _, _, _, rfl, ?_, ?_⟩
    · rw [List.length_append]
      exact s2
    · rw [List.length_append, List.length_singleton, List.range_succ, List.map_append]
      exact g2)
  have e' : F1_least_squares [some (TT cs), some (.ref 0), none, none, none] [.lst []] = _ := e
  exact cV_of (by show (nr (TT cs) && true) = true; rw [nr_TT]; rfl) (def_of (sSeq_of (sSet_of (mNew_of (ds := []) rfl)) (sSeq_of e' (ret_of (as_of (cons_of (mVar_of rfl) nil_of) (gBest1_TT (l := orb1 cs) g0 (by unfold orb1; simp))))))) (nr_TT _)
def E1_L_four : AE :=
    (mTup (mCons (m2 (m2 (mVar 2) (mVar 4) gMul) (m2 (mVar 3) (mVar 5) gMul) gSub) (mCons (m2 (m2 (mVar 3) (mVar 4) gMul) (m2 (mVar 2) (mVar 5) gMul) gAdd) mNil)))
def C1_L_four : AA :=
    (mLc (mIS (mVar 0)) (.tp ((.nm 4) :: ((.nm 5) :: []))) [4, 5] tYesD E1_L_four)
def B1_L_four : AS :=
    (sDrop (mMet isL (mVar 1) (mCons (mAs (mCons (mNew C1_L_four) mNil) (ar 1 c_L_at_home)) mNil) gAppend))
def F1_L_four : AS := (sForI (mIL (mLst (mCons (mTup (mCons (mC (.int 1)) (mCons (mC (.int 0)) mNil))) (mCons (mTup (mCons (mC (.int 0)) (mCons (mC (.int 1)) mNil))) (mCons (mTup (mCons (m1 (mC (.int 1)) gNeg) (mCons (mC (.int 0)) mNil))) (mCons (mTup (mCons (mC (.int 0)) (mCons (m1 (mC (.int 1)) gNeg) mNil))) mNil)))))) (.tp ((.nm 2) :: ((.nm 3) :: []))) B1_L_four)
@[simp] def b_L_four_2 : AS :=
    (sRet (mVar 1))
@[simp] def b_L_four_1 : AS :=
    sSeq F1_L_four
    b_L_four_2
def b_L_four : AS :=
    sSeq (sSet 1 (mNew (mLst mNil)))
    b_L_four_1
def m_L_four : List D → Hd → Option (D × Hd) := mDef 6 b_L_four

def c_L_four := cN m_L_four
theorem con_L_four : Cl c_L_four m_L_four := cl_cN _
def rot (p : Int × Int) (c : List Int) : List Int := [p.1 * c.getD 0 0 - p.2 * c.getD 1 0, p.2 * c.getD 0 0 + p.1 * c.getD 1 0]
theorem rot_four {cs : List (List Int)} (h : Two cs) : ([(1, 0), (0, 1), (-1, 0), (0, -1)] : List (Int × Int)).map (fun p => hm (cs.map (rot p))) = orb cs := by
  have e0 : cs.map (rot (1, 0)) = tns 0 cs := (List.map_congr_left fun c hc => by
    obtain ⟨x, y, rfl⟩ := h c hc
    show [1 * x - 0 * y, 0 * x + 1 * y] = [x, y]
    congr 1
    · omega
    · congr 1
      omega : cs.map (rot (1, 0)) = cs.map id).trans (List.map_id cs)
  have e1 : cs.map (rot (0, 1)) = tns 1 cs := List.map_congr_left fun c hc => by
    obtain ⟨x, y, rfl⟩ := h c hc
    show [0 * x - 1 * y, 1 * x + 0 * y] = [-y, x]
    congr 1
    · omega
    · congr 1
      omega
  have e2 : cs.map (rot (-1, 0)) = tns 2 cs := by
    show _ = (cs.map tn).map tn
    rw [List.map_map]
    refine List.map_congr_left fun c hc => ?_
    obtain ⟨x, y, rfl⟩ := h c hc
    show [-1 * x - 0 * y, 0 * x + -1 * y] = [-x, -y]
    congr 1
    · omega
    · congr 1
      omega
  have e3 : cs.map (rot (0, -1)) = tns 3 cs := by
    show _ = ((cs.map tn).map tn).map tn
    rw [List.map_map, List.map_map]
    refine List.map_congr_left fun c hc => ?_
    obtain ⟨x, y, rfl⟩ := h c hc
    show [0 * x - -1 * y, -1 * x + 0 * y] = [-(-y), -x]
    congr 1
    · omega
    · congr 1
      omega
  show [hm (cs.map (rot (1, 0))), hm (cs.map (rot (0, 1))), hm (cs.map (rot (-1, 0))), hm (cs.map (rot (0, -1)))] = [hm (tns 0 cs), hm (tns 1 cs), hm (tns 2 cs), hm (tns 3 cs)]
  rw [e0, e1, e2, e3]
theorem two_rot {cs : List (List Int)} (p : Int × Int) : Two (cs.map (rot p)) := fun c hc => by
  obtain ⟨d, _, rfl⟩ := List.mem_map.mp hc
  exact ⟨_, _, rfl⟩
theorem four_ok {cs : List (List Int)} (h2 : Two cs) (hne : cs ≠ []) (hl : cs.length ≤ 1000) (hp : Hd) : c_L_four [TT cs] hp = some (.ref hp.length, hp ++ [.lst ((orb cs).map TT)]) := by
  obtain ⟨ls', hp', e, v2, v3, rfl, g0⟩ := sForI_pre (fi := mIL (mLst (mCons (mTup (mCons (mC (.int 1)) (mCons (mC (.int 0)) mNil))) (mCons (mTup (mCons (mC (.int 0)) (mCons (mC (.int 1)) mNil))) (mCons (mTup (mCons (m1 (mC (.int 1)) gNeg) (mCons (mC (.int 0)) mNil))) (mCons (mTup (mCons (mC (.int 0)) (mCons (m1 (mC (.int 1)) gNeg) mNil))) mNil)))))) (t := .tp ((.nm 2) :: ((.nm 3) :: []))) (b := B1_L_four) (gd := [])
    (items := ([(1, 0), (0, 1), (-1, 0), (0, -1)] : List (Int × Int))) (hp := [.lst []]) (hp1 := [.lst []]) (ls := [some (TT cs), some (.ref 0), none, none, none, none]) (fun p => D.tup [.int p.1, .int p.2])
    (fun d ls hp => ∃ v2 v3, ls = [some (TT cs), some (.ref 0), v2, v3, none, none] ∧ hp[0]? = some (.lst ((d.map fun p => hm (cs.map (rot p))).map TT)))
    rfl (fun _ _ _ _ => rfl) ⟨_, _, rfl, rfl⟩ (by
    rintro d p r ls hp ed ⟨v2, v3, rfl, g0⟩
    have hp4 : d.length < 4 := by
      have h4 : 4 = (d ++ p :: r).length := congrArg List.length ed
      rw [List.length_append, List.length_cons] at h4
      omega
    have hpm : p ∈ ([(1, 0), (0, 1), (-1, 0), (0, -1)] : List (Int × Int)) := by rw [ed]; simp
    have pb : (-1 ≤ p.1 ∧ p.1 ≤ 1) ∧ (-1 ≤ p.2 ∧ p.2 ≤ 1) := by
      rcases List.mem_cons.mp hpm with rfl | hpm
      · decide
      rcases List.mem_cons.mp hpm with rfl | hpm
      · decide
      rcases List.mem_cons.mp hpm with rfl | hpm
      · decide
      rw [List.mem_singleton.mp hpm]
      decide
    have mu : ∀ (a : Int) {hp : Hd}, (-1 ≤ a ∧ a ≤ 1) → ∀ b : Int, gMul (.int a) (.int b) hp = some (.int (a * b), hp) := fun a hp h b => gMul_int (cMul_of (.inl (by omega)))
    have asg : Tg.asg (.tp ((.nm 2) :: ((.nm 3) :: []))) (D.tup [.int p.1, .int p.2]) [some (TT cs), some (.ref 0), v2, v3, none, none] = some [some (TT cs), some (.ref 0), some (.int p.1), some (.int p.2), none, none] := by
      rw [asg_tp]
      rfl
    have l0 := hlt g0
    have e1 := mLc_typed (fi := mIS (mVar 0)) (t := .tp ((.nm 4) :: ((.nm 5) :: []))) (own := [4, 5]) (tt := tYesD) (te := E1_L_four) (ls := [some (TT cs), some (.ref 0), some (.int p.1), some (.int p.2), none, none]) (hp := hp) T cs (fun _ => true) (fun c => T (rot p c)) (mIS_it (mVar_of rfl) (itOf_TT cs hp)) (by rw [sizeLine_eq]; omega) rfl (fun c hc => by
      obtain ⟨a, b, rfl⟩ := h2 c hc
      exact ⟨[some (TT cs), some (.ref 0), some (.int p.1), some (.int p.2), some (.int a), some (.int b)], by rw [asg_tpT]; rfl, rfl, fun _ => tup_of (ds := [.int (p.1 * a - p.2 * b), .int (p.2 * a + p.1 * b)]) (cons_of (m2_ev (m2_ev (mVar_of rfl) (mVar_of rfl) (mu _ pb.1 _)) (m2_ev (mVar_of rfl) (mVar_of rfl) (mu _ pb.2 _)) gSub_int) (cons_of (m2_ev (m2_ev (mVar_of rfl) (mVar_of rfl) (mu _ pb.2 _)) (m2_ev (mVar_of rfl) (mVar_of rfl) (mu _ pb.1 _)) gAdd_int) nil_of)) (by show 2 ≤ 1000; decide)⟩)
    rw [List.filter_eq_self.mpr (fun _ _ => rfl)] at e1
    have ee : (cs.map fun c => T (rot p c)) = (cs.map (rot p)).map T := by rw [List.map_map]; rfl
    rw [ee] at e1
    have gn : (hp ++ [O.lst ((cs.map (rot p)).map T)])[hp.length]? = some (.lst ((cs.map (rot p)).map T)) := hget_new
    have g0' : (hp ++ [O.lst ((cs.map (rot p)).map T)])[0]? = some (.lst ((d.map fun p => hm (cs.map (rot p))).map TT)) := hget_old g0
    have e2 := athome_ok (d := .ref hp.length) (hp := hp ++ [O.lst ((cs.map (rot p)).map T)]) (itOf_ref gn) (gdOk1 gn) (two_rot p) (fun z => hne (List.map_eq_nil_iff.mp z)) (by rw [List.length_map]; omega)
    have e3 := gAppend_of (d := TT (hm (cs.map (rot p)))) g0' (by rw [List.length_map, List.length_map]; omega)
    refine ⟨_, _, _, asg, .inl (sDrop_of (met_of (mVar_of rfl) (isL_of g0) (cons_of (call_of (cons_of (mNew_of e1) nil_of) rfl e2) nil_of) e3)), _, _, rfl, ?_⟩
    rw [hset_same g0', List.map_append, List.map_append]
    rfl)
  rw [rot_four h2] at g0
  have e' : F1_L_four [some (TT cs), some (.ref 0), none, none, none, none] [.lst []] = _ := e
  exact cN_of (by show (nr (TT cs) && true) = true; rw [nr_TT]; rfl) (def_of (sSeq_of (sSet_of (mNew_of (ds := []) rfl)) (sSeq_of e' (ret_of (mVar_of rfl))))) g0 (by
    show nrs ((orb cs).map TT) = true
    exact nrs_map nr_TT _)

end Lw
namespace Lw
open PySem PySem.Spec L2 Ve
@[simp] def B1_L_drawn_3 : AS :=
    (sStore (mC (.bl true)) (mVar 1) (mTup (mCons (m2 (mVar 3) (m2 (mVar 6) (m2 (mNew (mLst (mCons (mC (.int 1)) (mCons (mC (.int 0)) (mCons (m1 (mC (.int 1)) gNeg) (mCons (mC (.int 0)) mNil)))))) (mVar 5) gIx) gMul) gAdd) (mCons (m2 (mVar 4) (m2 (mVar 6) (m2 (mNew (mLst (mCons (mC (.int 0)) (mCons (mC (.int 1)) (mCons (mC (.int 0)) (mCons (m1 (mC (.int 1)) gNeg) mNil)))))) (mVar 5) gIx) gMul) gAdd) mNil))))
@[simp] def B1_L_drawn_2 : AS :=
    sSeq (sSet 6 (m2 (mC (.int 1)) (m2 (mC (.int 3)) (mAs (mCons (m2 (mAs (mCons (mVar 0) (mCons (mC (.int 6)) mNil)) (ar 2 c_L_take)) (mC (.int 0)) gEq) mNil) gInt) gMul) gAdd))
    B1_L_drawn_3
@[simp] def B1_L_drawn_1 : AS :=
    sSeq (sSet 5 (mAs (mCons (mVar 0) (mCons (mC (.int 4)) mNil)) (ar 2 c_L_take)))
    B1_L_drawn_2
def B1_L_drawn : AS :=
    sSeq (sAsg (.tp ((.nm 3) :: ((.nm 4) :: []))) (mAs (mCons (mVar 0) (mCons (mNew (mSorted (mVar 1))) mNil)) (ar 2 c_L_pick)))
    B1_L_drawn_1
def F1_L_drawn : AS := (sForI (mR1 (mCons (mAs (mCons (mVar 0) (mCons (mNew (mLst (mCons (mC (.int 0)) (mCons (mC (.int 1)) (mCons (mC (.int 2)) (mCons (mC (.int 3)) (mCons (mC (.int 4)) (mCons (mC (.int 5)) (mCons (mC (.int 6)) (mCons (mC (.int 11)) mNil)))))))))) mNil)) (ar 2 c_L_pick)) mNil)) (.nm 2) B1_L_drawn)
@[simp] def b_L_drawn_2 : AS :=
    (sRet (mL (mSorted (mVar 1)) gTup))
@[simp] def b_L_drawn_1 : AS :=
    sSeq F1_L_drawn
    b_L_drawn_2
def b_L_drawn : AS :=
    sSeq (sSet 1 (mDict (((mTup (mCons (m2 (mAs (mCons (mVar 0) (mCons (mC (.int 9)) mNil)) (ar 2 c_L_take)) (mC (.int 4)) gSub) (mCons (m2 (mAs (mCons (mVar 0) (mCons (mC (.int 9)) mNil)) (ar 2 c_L_take)) (mC (.int 4)) gSub) mNil))), (mC (.bl true))) :: [])))
    b_L_drawn_1
def m_L_drawn : List D → Hd → Option (D × Hd) := mDef 7 b_L_drawn

def c_L_drawn := c1V m_L_drawn
theorem con_L_drawn : Cl c_L_drawn m_L_drawn := cl_c1V _
theorem two_add {cs : List (List Int)} (h : Two cs) (x y : Int) : Two (addC cs [x, y]) := fun c hc => by
  rcases addC_mem.mp hc with z | z
  · exact h c z
  · exact ⟨x, y, z⟩
theorem addC_ne (cs : List (List Int)) (a : List Int) : addC cs a ≠ [] := List.ne_nil_of_mem (addC_mem.mpr (.inr rfl))
theorem addC_len (cs : List (List Int)) (a : List Int) : (addC cs a).length ≤ cs.length + 1 := by
  unfold addC
  split
  · omega
  · rw [List.length_append]; exact Nat.le_refl _
theorem two_ne {cs : List (List Int)} (h : Two cs) : ∀ c ∈ cs, c ≠ [] := fun c hc => by
  obtain ⟨x, y, rfl⟩ := h c hc
  simp
def Dw (T0 : Nat) (j : Nat) (hp : Hd) : Prop := ∃ o cs, hp[0]? = some o ∧ Hand (T0 + 3 * j) o ∧ hp[1]? = some (.dic (Cd cs)) ∧ Two cs ∧ cs ≠ [] ∧ cs.length ≤ 1 + j
theorem drawn_step (T0 j : Nat) (hT : T0 + 1000 < 1000000) (hj : j < 20) {hp : Hd} (h : Dw T0 j hp) (v2 v3 v4 v5 v6 : Option D) :
    ∃ w3 w4 w5 w6 hp2, B1_L_drawn [some (.ref 0), some (.ref 1), v2, v3, v4, v5, v6] hp = some (.nx, [some (.ref 0), some (.ref 1), v2, w3, w4, w5, w6], hp2) ∧ Dw T0 (j + 1) hp2 := by
  obtain ⟨o, cs, g0, ho, g1, h2, hne, hl⟩ := h
  have l1 := hlt g1
  have es : mNew (mSorted (mVar 1)) [some (.ref 0), some (.ref 1), v2, v3, v4, v5, v6] hp = some (.ref hp.length, hp ++ [.lst ((sortC cs).map T)]) := by
    refine mNew_of ?_
    rw [mSorted_s, mVar_of (d := .ref 1) rfl]
    exact gSrtO_dic g1 (two_ne h2)
  have gn : (hp ++ [O.lst ((sortC cs).map T)])[hp.length]? = some (.lst ((sortC cs).map T)) := hget_new
  have g0a : (hp ++ [O.lst ((sortC cs).map T)])[0]? = some o := hget_old g0
  have g1a : (hp ++ [O.lst ((sortC cs).map T)])[1]? = some (.dic (Cd cs)) := hget_old g1
  have sl := (sortC_perm cs).length_eq
  obtain ⟨i, hi, o1, e1, ho1⟩ := pick_ok (T0 + 3 * j) (by omega) _ 0 hp.length (by omega) o g0a ho _ gn (fun z => by
    have := congrArg List.length z
    rw [List.length_map, List.length_nil] at this
    exact hne (List.length_eq_zero_iff.mp (by omega))) (by rw [List.length_map]; omega)
  have hi' : i < (sortC cs).length := by rw [List.length_map] at hi; exact hi
  obtain ⟨x, y, exy⟩ := h2 _ ((sortC_perm cs).mem_iff.mp (List.getElem_mem hi'))
  rw [List.getElem_map, exy] at e1
  have g0b : ((hp ++ [O.lst ((sortC cs).map T)]).set 0 o1)[0]? = some o1 := hset_same g0a
  have g1b : ((hp ++ [O.lst ((sortC cs).map T)]).set 0 o1)[1]? = some (.dic (Cd cs)) := hset_ne (by decide) g1a
  generalize hA : (hp ++ [O.lst ((sortC cs).map T)]) = hpA at *
  generalize hpA.set 0 o1 = hpB at e1 g0b g1b
  have a1 : sAsg (.tp ((.nm 3) :: ((.nm 4) :: []))) (mAs (mCons (mVar 0) (mCons (mNew (mSorted (mVar 1))) mNil)) (ar 2 c_L_pick)) [some (.ref 0), some (.ref 1), v2, v3, v4, v5, v6] hp = some (.nx, [some (.ref 0), some (.ref 1), v2, some (.int x), some (.int y), v5, v6], hpB) := by
    refine asg_of (call_of (cons_of (mVar_of rfl) (cons_of es nil_of)) rfl e1) ?_
    rw [asg_tpT]
    rfl
  obtain ⟨s, o2, e2, s1, s2, ho2⟩ := take_ok _ (by omega) hpB 0 o1 g0b ho1 4 (by decide) (by decide)
  obtain ⟨s, rfl⟩ := Int.eq_ofNat_of_zero_le s1
  have g0c : (hpB.set 0 o2)[0]? = some o2 := hset_same g0b
  have g1c : (hpB.set 0 o2)[1]? = some (.dic (Cd cs)) := hset_ne (by decide) g1b
  generalize hpB.set 0 o2 = hpC at e2 g0c g1c
  have a2 : sSet 5 (mAs (mCons (mVar 0) (mCons (mC (.int 4)) mNil)) (ar 2 c_L_take)) [some (.ref 0), some (.ref 1), v2, some (.int x), some (.int y), v5, v6] hpB = some (.nx, [some (.ref 0), some (.ref 1), v2, some (.int x), some (.int y), some (.int (s : Nat)), v6], hpC) :=
    sSet_of (call_of (cons_of (mVar_of rfl) (cons_of mC_of nil_of)) rfl e2)
  obtain ⟨r, o3, e3, _, _, ho3⟩ := take_ok _ (by omega) hpC 0 o2 g0c ho2 6 (by decide) (by decide)
  have g0d : (hpC.set 0 o3)[0]? = some o3 := hset_same g0c
  have g1d : (hpC.set 0 o3)[1]? = some (.dic (Cd cs)) := hset_ne (by decide) g1c
  generalize hpC.set 0 o3 = hpD at e3 g0d g1d
  obtain ⟨b, hb⟩ : ∃ b, (r == 0) = b := ⟨_, rfl⟩
  obtain ⟨F, hF, hF1⟩ : ∃ F : Int, F = 1 + 3 * (if b = true then 1 else 0) ∧ (0 ≤ F ∧ F ≤ 4) := ⟨_, rfl, by cases b <;> decide⟩
  have a3 : sSet 6 (m2 (mC (.int 1)) (m2 (mC (.int 3)) (mAs (mCons (m2 (mAs (mCons (mVar 0) (mCons (mC (.int 6)) mNil)) (ar 2 c_L_take)) (mC (.int 0)) gEq) mNil) gInt) gMul) gAdd) [some (.ref 0), some (.ref 1), v2, some (.int x), some (.int y), some (.int (s : Nat)), v6] hpC = some (.nx, [some (.ref 0), some (.ref 1), v2, some (.int x), some (.int y), some (.int (s : Nat)), some (.int F)], hpD) := by
    rw [hF]
    refine sSet_of (m2_ev mC_of (m2_ev mC_of (as_of (cons_of (m2_ev (call_of (cons_of (mVar_of rfl) (cons_of mC_of nil_of)) rfl e3) mC_of (gEq_int.trans (by rw [hb]))) nil_of) rfl) (gMul_int (cMul_of (.inl (by decide))))) ?_)
    cases b <;> rfl
  have hs : s < 4 := by omega
  have mu : ∀ (b : Int) {hp : Hd}, gMul (.int F) (.int b) hp = some (.int (F * b), hp) := fun b hp => gMul_int (cMul_of (.inl (by omega)))
  have ekey : mTup (mCons (m2 (mVar 3) (m2 (mVar 6) (m2 (mNew (mLst (mCons (mC (.int 1)) (mCons (mC (.int 0)) (mCons (m1 (mC (.int 1)) gNeg) (mCons (mC (.int 0)) mNil)))))) (mVar 5) gIx) gMul) gAdd) (mCons (m2 (mVar 4) (m2 (mVar 6) (m2 (mNew (mLst (mCons (mC (.int 0)) (mCons (mC (.int 1)) (mCons (mC (.int 0)) (mCons (m1 (mC (.int 1)) gNeg) mNil)))))) (mVar 5) gIx) gMul) gAdd) mNil)) [some (.ref 0), some (.ref 1), v2, some (.int x), some (.int y), some (.int (s : Nat)), some (.int F)] hpD
      = some (T [x + F * ([1, 0, -1, 0] : List Int).getD s 0, y + F * ([0, 1, 0, -1] : List Int).getD s 0], (hpD ++ [.lst (([1, 0, -1, 0] : List Int).map D.int)]) ++ [.lst (([0, 1, 0, -1] : List Int).map D.int)]) :=
    tup_of (ds := [.int (x + F * ([1, 0, -1, 0] : List Int).getD s 0), .int (y + F * ([0, 1, 0, -1] : List Int).getD s 0)]) (cons_of (m2_ev (mVar_of rfl) (m2_ev (mVar_of rfl) (m2_ev (mNew_of (ds := ([1, 0, -1, 0] : List Int).map D.int) (hp' := hpD) rfl) (mVar_of rfl) (gIx_ints hget_new hs)) (mu _)) gAdd_int) (cons_of (m2_ev (mVar_of rfl) (m2_ev (mVar_of rfl) (m2_ev (mNew_of (ds := ([0, 1, 0, -1] : List Int).map D.int) (hp' := hpD ++ [.lst (([1, 0, -1, 0] : List Int).map D.int)]) rfl) (mVar_of rfl) (gIx_ints hget_new hs)) (mu _)) gAdd_int) nil_of)) (by show 2 ≤ 1000; decide)
  have g0e : ((hpD ++ [O.lst (([1, 0, -1, 0] : List Int).map D.int)]) ++ [.lst (([0, 1, 0, -1] : List Int).map D.int)])[0]? = some o3 := hget_old (hget_old g0d)
  have g1e : ((hpD ++ [O.lst (([1, 0, -1, 0] : List Int).map D.int)]) ++ [.lst (([0, 1, 0, -1] : List Int).map D.int)])[1]? = some (.dic (Cd cs)) := hget_old (hget_old g1d)
  generalize (hpD ++ [O.lst (([1, 0, -1, 0] : List Int).map D.int)]) ++ [.lst (([0, 1, 0, -1] : List Int).map D.int)] = hpE at ekey g0e g1e
  generalize x + F * ([1, 0, -1, 0] : List Int).getD s 0 = X at ekey
  generalize y + F * ([0, 1, 0, -1] : List Int).getD s 0 = Y at ekey
  have eset := gSet_add (a := [X, Y]) g1e (by rw [sizeLine_eq]; omega)
  have a4 : sStore (mC (.bl true)) (mVar 1) (mTup (mCons (m2 (mVar 3) (m2 (mVar 6) (m2 (mNew (mLst (mCons (mC (.int 1)) (mCons (mC (.int 0)) (mCons (m1 (mC (.int 1)) gNeg) (mCons (mC (.int 0)) mNil)))))) (mVar 5) gIx) gMul) gAdd) (mCons (m2 (mVar 4) (m2 (mVar 6) (m2 (mNew (mLst (mCons (mC (.int 0)) (mCons (mC (.int 1)) (mCons (mC (.int 0)) (mCons (m1 (mC (.int 1)) gNeg) mNil)))))) (mVar 5) gIx) gMul) gAdd) mNil))) [some (.ref 0), some (.ref 1), v2, some (.int x), some (.int y), some (.int (s : Nat)), some (.int F)] hpD = some (.nx, [some (.ref 0), some (.ref 1), v2, some (.int x), some (.int y), some (.int (s : Nat)), some (.int F)], hpE.set 1 (.dic (Cd (addC cs [X, Y])))) := by
    rw [sStore_s, mC_of]
    dsimp only
    rw [mVar_of (d := .ref 1) rfl]
    dsimp only
    rw [ekey]
    dsimp only
    rw [eset]
  have al := addC_len cs [X, Y]
  exact ⟨_, _, _, _, _, sSeq_of a1 (sSeq_of a2 (sSeq_of a3 a4)), o3, _, hset_ne (by decide) g0e, ho3.mono (by omega), hset_same g1e, two_add h2 X Y, addC_ne _ _, by omega⟩
theorem drawn_run (T0 : Nat) (hT : T0 + 2000 < 1000000) (o : O) (ho : Hand T0 o) : ∃ cs o' g, m_L_drawn [.ref 0] [o] = some (TT cs, o' :: g) ∧ (Two cs ∧ cs ≠ [] ∧ cs.length ≤ 20) ∧ Hand (T0 + 60) o' := by
  obtain ⟨r1, o1, e1, _, _, ho1⟩ := take_ok T0 (by omega) [o] 0 o rfl ho 9 (by decide) (by decide)
  obtain ⟨r2, o2, e2, _, _, ho2⟩ := take_ok (T0 + 1) (by omega) [o1] 0 o1 rfl ho1 9 (by decide) (by decide)
  have e1' : c_L_take [.ref 0, .int 9] [o] = some (.int r1, [o1]) := e1
  have e2' : c_L_take [.ref 0, .int 9] [o1] = some (.int r2, [o2]) := e2
  have ek : mTup (mCons (m2 (mAs (mCons (mVar 0) (mCons (mC (.int 9)) mNil)) (ar 2 c_L_take)) (mC (.int 4)) gSub) (mCons (m2 (mAs (mCons (mVar 0) (mCons (mC (.int 9)) mNil)) (ar 2 c_L_take)) (mC (.int 4)) gSub) mNil)) [some (.ref 0), none, none, none, none, none, none] [o] = some (T [r1 - 4, r2 - 4], [o2]) :=
    tup_of (ds := [.int (r1 - 4), .int (r2 - 4)]) (cons_of (m2_ev (call_of (cons_of (mVar_of rfl) (cons_of mC_of nil_of)) rfl e1') mC_of gSub_int) (cons_of (m2_ev (call_of (cons_of (mVar_of rfl) (cons_of mC_of nil_of)) rfl e2') mC_of gSub_int) nil_of)) (by show 2 ≤ 1000; decide)
  have a1 : sSet 1 (mDict (((mTup (mCons (m2 (mAs (mCons (mVar 0) (mCons (mC (.int 9)) mNil)) (ar 2 c_L_take)) (mC (.int 4)) gSub) (mCons (m2 (mAs (mCons (mVar 0) (mCons (mC (.int 9)) mNil)) (ar 2 c_L_take)) (mC (.int 4)) gSub) mNil))), (mC (.bl true))) :: [])) [some (.ref 0), none, none, none, none, none, none] [o] = some (.nx, [some (.ref 0), some (.ref 1), none, none, none, none, none], [o2, .dic (Cd [[r1 - 4, r2 - 4]])]) := by
    refine sSet_of (d := .ref 1) (hp1 := [o2, .dic (Cd [[r1 - 4, r2 - 4]])]) ?_
    unfold mDict
    simp only [mPairs]
    rw [ek]
    rfl
  obtain ⟨i, hi, o3, e3, ho3⟩ := pick_ok (T0 + 2) (by omega) [o2, .dic (Cd [[r1 - 4, r2 - 4]]), .lst [.int 0, .int 1, .int 2, .int 3, .int 4, .int 5, .int 6, .int 11]] 0 2 (by decide) o2 rfl ho2 [.int 0, .int 1, .int 2, .int 3, .int 4, .int 5, .int 6, .int 11] rfl (by simp) (by show 8 < 1073741824; decide)
  obtain ⟨m, em, hm⟩ : ∃ m : Nat, ([D.int 0, .int 1, .int 2, .int 3, .int 4, .int 5, .int 6, .int 11] : List D)[i] = .int (m : Nat) ∧ m ≤ 11 := by
    have hi8 : i < 8 := hi
    rcases (show i = 0 ∨ i = 1 ∨ i = 2 ∨ i = 3 ∨ i = 4 ∨ i = 5 ∨ i = 6 ∨ i = 7 by omega) with rfl | rfl | rfl | rfl | rfl | rfl | rfl | rfl
    · exact ⟨0, rfl, by omega⟩
    · exact ⟨1, rfl, by omega⟩
    · exact ⟨2, rfl, by omega⟩
    · exact ⟨3, rfl, by omega⟩
    · exact ⟨4, rfl, by omega⟩
    · exact ⟨5, rfl, by omega⟩
    · exact ⟨6, rfl, by omega⟩
    · exact ⟨11, rfl, by omega⟩
  rw [em] at e3
  have ep : mAs (mCons (mVar 0) (mCons (mNew (mLst (mCons (mC (.int 0)) (mCons (mC (.int 1)) (mCons (mC (.int 2)) (mCons (mC (.int 3)) (mCons (mC (.int 4)) (mCons (mC (.int 5)) (mCons (mC (.int 6)) (mCons (mC (.int 11)) mNil)))))))))) mNil)) (ar 2 c_L_pick) [some (.ref 0), some (.ref 1), none, none, none, none, none] [o2, .dic (Cd [[r1 - 4, r2 - 4]])] = some (.int (m : Nat), [o3, .dic (Cd [[r1 - 4, r2 - 4]]), .lst [.int 0, .int 1, .int 2, .int 3, .int 4, .int 5, .int 6, .int 11]]) :=
    call_of (cons_of (mVar_of rfl) (cons_of (mNew_of (ds := [.int 0, .int 1, .int 2, .int 3, .int 4, .int 5, .int 6, .int 11]) (hp' := [o2, .dic (Cd [[r1 - 4, r2 - 4]])]) rfl) nil_of)) rfl e3
  obtain ⟨ls', hp', e, v2, v3, v4, v5, v6, rfl, o4, cs, g0, ho4, g1, h2, hne, hl⟩ := sForI_pre (fi := mR1 (mCons (mAs (mCons (mVar 0) (mCons (mNew (mLst (mCons (mC (.int 0)) (mCons (mC (.int 1)) (mCons (mC (.int 2)) (mCons (mC (.int 3)) (mCons (mC (.int 4)) (mCons (mC (.int 5)) (mCons (mC (.int 6)) (mCons (mC (.int 11)) mNil)))))))))) mNil)) (ar 2 c_L_pick)) mNil)) (t := .nm 2) (b := B1_L_drawn) (gd := []) (items := List.range m) (hp := [o2, .dic (Cd [[r1 - 4, r2 - 4]])]) (hp1 := [o3, .dic (Cd [[r1 - 4, r2 - 4]]), .lst [.int 0, .int 1, .int 2, .int 3, .int 4, .int 5, .int 6, .int 11]])
    (ls := [some (.ref 0), some (.ref 1), none, none, none, none, none]) (fun i : Nat => D.int (i : Nat))
    (fun d ls hp => ∃ v2 v3 v4 v5 v6, ls = [some (.ref 0), some (.ref 1), v2, v3, v4, v5, v6] ∧ Dw (T0 + 3) d.length hp)
    (mR1_nat (cons_of ep nil_of) (by omega)) (fun _ _ _ _ => rfl) ⟨_, _, _, _, _, rfl, o3, [[r1 - 4, r2 - 4]], rfl, ho3, rfl, (fun c hc => ⟨_, _, List.mem_singleton.mp hc⟩), by simp, by simp⟩ (by
    rintro d k r ls hp ed ⟨v2, v3, v4, v5, v6, rfl, dw⟩
    have hd := (range_at ed)
    obtain ⟨w3, w4, w5, w6, hp2, e, dw2⟩ := drawn_step (T0 + 3) d.length (by omega) (by omega) dw (some (.int (k : Nat))) v3 v4 v5 v6
    exact ⟨_, _, _, asg_nm, .inl e, _, _, _, _, _, rfl, by rw [List.length_append]; exact dw2⟩)
  rw [List.length_range] at hl ho4
  have e' : F1_L_drawn [some (.ref 0), some (.ref 1), none, none, none, none, none] [o2, .dic (Cd [[r1 - 4, r2 - 4]])] = _ := e
  have fin : mL (mSorted (mVar 1)) gTup [some (.ref 0), some (.ref 1), v2, v3, v4, v5, v6] hp' = some (TT (sortC cs), hp') := by
    refine (mL_of (ds := (sortC cs).map T) (hp' := hp') ?_).trans rfl
    rw [mSorted_s, mVar_of (d := .ref 1) rfl]
    exact gSrtO_dic g1 (two_ne h2)
  have sl := (sortC_perm cs).length_eq
  cases hp' with
  | nil => cases g0
  | cons o5 g =>
    cases g0
    exact ⟨sortC cs, _, g, def_of (sSeq_of a1 (sSeq_of e' (ret_of fin))), ⟨fun c hc => h2 c ((sortC_perm cs).mem_iff.mp hc), fun z => hne (List.length_eq_zero_iff.mp (by rw [z] at sl; exact sl.symm)), by omega⟩, ho4.mono (by omega)⟩
theorem drawn_ok (T0 : Nat) (hT : T0 + 2000 < 1000000) (hp : Hd) (k : Nat) (o : O) (e : hp[k]? = some o) (ho : Hand T0 o) : ∃ cs o', c_L_drawn [.ref k] hp = some (TT cs, hp.set k o') ∧ (Two cs ∧ cs ≠ [] ∧ cs.length ≤ 20) ∧ Hand (T0 + 60) o' := by
  obtain ⟨cs, o', g, em, h, ho'⟩ := drawn_run T0 hT o ho
  exact ⟨cs, o', c1V_of e rfl ho.nr em (nr_TT cs) ho'.nr, h, ho'⟩

end Lw
namespace Lw
open PySem PySem.Spec L2 Ve
@[simp] def b_L_same_3 (c_rec : List D → Hd → Option (D × Hd)) : AS :=
    (sRet (m2 (mVar 0) (mVar 1) gEq))
@[simp] def b_L_same_2 (c_rec : List D → Hd → Option (D × Hd)) : AS :=
    sSeq (sIf (mOr (mT (mIsi "bool" (mVar 0))) (mT (mIsi "int" (mVar 0)))) (sRet (mAndV (mIsi "int" (mVar 1)) (mAndV (m2 (mIsi "bool" (mVar 0)) (mIsi "bool" (mVar 1)) gEq) (m2 (mVar 0) (mVar 1) gEq)))) sNext)
    (b_L_same_3 c_rec)
@[simp] def b_L_same_1 (c_rec : List D → Hd → Option (D × Hd)) : AS :=
    sSeq (sIf (mT (mIsi "list" (mVar 0))) (sRet (mAndV (mIsi "list" (mVar 1)) (mAndV (m2 (mAs (mCons (mVar 0) mNil) gLen) (mAs (mCons (mVar 1) mNil) gLen) gEq) (mL (mLc (mZip (mVar 0) (mVar 1)) (.tp ((.nm 2) :: ((.nm 3) :: []))) [2, 3] tYesD (mAs (mCons (mVar 2) (mCons (mVar 3) mNil)) (ar 2 c_rec))) gAll)))) sNext)
    (b_L_same_2 c_rec)
def b_L_same (c_rec : List D → Hd → Option (D × Hd)) : AS :=
    sSeq (sIf (mT (mIsi "tuple" (mVar 0))) (sRet (mAndV (mIsi "tuple" (mVar 1)) (mAndV (m2 (mAs (mCons (mVar 0) mNil) gLen) (mAs (mCons (mVar 1) mNil) gLen) gEq) (mL (mLc (mZip (mVar 0) (mVar 1)) (.tp ((.nm 2) :: ((.nm 3) :: []))) [2, 3] tYesD (mAs (mCons (mVar 2) (mCons (mVar 3) mNil)) (ar 2 c_rec))) gAll)))) sNext)
    (b_L_same_1 c_rec)
def m_L_same : Nat → List D → Hd → Option (D × Hd)
  | 0 => fun _ _ => none
  | d + 1 => mDef 4 (b_L_same (m_L_same d))
abbrev c_L_same := m_L_same 8

inductive Flt : Nat → D → Prop where
  | int {d : Nat} {i : Int} : Flt (d + 1) (.int i)
  | bl {d : Nat} {b : Bool} : Flt (d + 1) (.bl b)
  | tup {d : Nat} {xs : List D} : xs.length ≤ 1000 → (∀ x ∈ xs, Flt d x) → Flt (d + 1) (.tup xs)
theorem zipD_self : ∀ xs : List D, zipD xs xs = xs.map fun x => D.tup [x, x]
  | [] => rfl
  | x :: xs => by
    show D.tup [x, x] :: zipD xs xs = _
    rw [zipD_self xs]
    rfl
theorem same_self (hp : Hd) : ∀ {d : Nat} {x : D}, Flt d x → m_L_same d [x, x] hp = some (.bl true, hp)
  | d + 1, _, .int (i := i) => by
    have e : m_L_same (d + 1) [.int i, .int i] hp = some (.bl (i == i), hp) := by kernel_rfl
    rw [e, beq_self_eq_true]
  | d + 1, _, .bl (b := b) => by
    cases b
    · kernel_rfl
    · kernel_rfl
  | d + 1, _, .tup (xs := xs) hl hx => by
    have e1 := mLc_typed (fi := mZip (mVar 0) (mVar 1)) (t := .tp ((.nm 2) :: ((.nm 3) :: []))) (own := [2, 3]) (tt := tYesD) (te := mAs (mCons (mVar 2) (mCons (mVar 3) mNil)) (ar 2 (m_L_same d))) (ls := [some (.tup xs), some (.tup xs), none, none]) (fun x : D => D.tup [x, x]) xs (fun _ => true) (fun _ => D.bl true)
      (gd := []) (hp := hp) (hp1 := hp) (by
        show some (zipD xs xs, _, hp) = _
        rw [zipD_self]) (by rw [sizeLine_eq]; omega) rfl (fun x h => ⟨[some (.tup xs), some (.tup xs), some x, some x], by rw [asg_tp]; rfl, rfl, fun _ => call_of (cons_of (mVar_of rfl) (cons_of (mVar_of rfl) nil_of)) rfl (same_self hp (hx x h))⟩)
    rw [List.filter_eq_self.mpr (fun _ _ => rfl)] at e1
    have e2 : gAll (xs.map fun _ => D.bl true) hp = some (.bl true, hp) := (gAll_map (fun _ => true) xs hp).trans (by rw [List.all_eq_true.mpr (fun _ _ => rfl)])
    have e3 : mAndV (mIsi "tuple" (mVar 1)) (mAndV (m2 (mAs (mCons (mVar 0) mNil) gLen) (mAs (mCons (mVar 1) mNil) gLen) gEq) (mL (mLc (mZip (mVar 0) (mVar 1)) (.tp ((.nm 2) :: ((.nm 3) :: []))) [2, 3] tYesD (mAs (mCons (mVar 2) (mCons (mVar 3) mNil)) (ar 2 (m_L_same d)))) gAll)) [some (.tup xs), some (.tup xs), none, none] hp = some (.bl true, hp) :=
      andV_t rfl (andV_t ((m2_ev (as_of (cons_of (mVar_of rfl) nil_of) rfl) (as_of (cons_of (mVar_of rfl) nil_of) rfl) gEq_int).trans (by rw [beq_self_eq_true])) ((mL_of e1).trans e2))
    exact def_of (seq_ret (if_ev (b := true) (hp1 := hp) rfl (ret_of e3)))
theorem flt_T (a : List Int) (h : a.length ≤ 1000) : Flt 2 (T a) := .tup (by rw [List.length_map]; exact h) fun x hx => by
  obtain ⟨i, _, rfl⟩ := List.mem_map.mp hx
  exact .int
theorem Flt.up {d : Nat} {x : D} (h : Flt d x) : ∀ k, Flt (d + k) x := by
  induction h with
  | int => intro k; rw [show ∀ d k, d + 1 + k = d + k + 1 by omega]; exact .int
  | bl => intro k; rw [show ∀ d k, d + 1 + k = d + k + 1 by omega]; exact .bl
  | tup hl _ ih => intro k; rw [show ∀ d k, d + 1 + k = d + k + 1 by omega]; exact .tup hl fun x hx => ih x hx k
theorem same_list (hp : Hd) {d a b : Nat} {xs : List D} (h1 : hp[a]? = some (.lst xs)) (h2 : hp[b]? = some (.lst xs)) (hl : xs.length ≤ 100000) (hx : ∀ x ∈ xs, Flt d x) : m_L_same (d + 1) [.ref a, .ref b] hp = some (.bl true, hp) := by
  have e1 := mLc_typed (fi := mZip (mVar 0) (mVar 1)) (t := .tp ((.nm 2) :: ((.nm 3) :: []))) (own := [2, 3]) (tt := tYesD) (te := mAs (mCons (mVar 2) (mCons (mVar 3) mNil)) (ar 2 (m_L_same d))) (ls := [some (.ref a), some (.ref b), none, none]) (fun x : D => D.tup [x, x]) xs (fun _ => true) (fun _ => D.bl true)
    (gd := [(a, xs), (b, xs)]) (hp := hp) (hp1 := hp) (by
      unfold mZip
      rw [mVar_of (d := .ref a) rfl]
      dsimp only
      rw [mVar_of (d := .ref b) rfl]
      dsimp only
      rw [show tupOf (.ref a) = none from rfl]
      simp only [h1, h2]
      rw [zipD_self]) (by rw [sizeLine_eq]; omega) (by
      have g1 := gdOk1 h1
      have g2 := gdOk1 h2
      simp only [gdOk, Bool.and_true] at g1 g2 ⊢
      rw [g1, g2]
      rfl) (fun x h => ⟨[some (.ref a), some (.ref b), some x, some x], by rw [asg_tp]; rfl, rfl, fun _ => call_of (cons_of (mVar_of rfl) (cons_of (mVar_of rfl) nil_of)) rfl (same_self hp (hx x h))⟩)
  rw [List.filter_eq_self.mpr (fun _ _ => rfl)] at e1
  have e2 : gAll (xs.map fun _ => D.bl true) hp = some (.bl true, hp) := (gAll_map (fun _ => true) xs hp).trans (by rw [List.all_eq_true.mpr (fun _ _ => rfl)])
  have il : ∀ (n : Nat), hp[n]? = some (.lst xs) → gIsi "list" [.ref n] hp = some (.bl true, hp) ∧ gIsi "tuple" [.ref n] hp = some (.bl false, hp) := fun n h => by
    have et : tyN (.ref n) hp = some "list" := by
      unfold tyN
      simp only [h]
    refine ⟨?_, ?_⟩ <;> (unfold gIsi; simp only [et]; rfl)
  have e3 : mAndV (mIsi "list" (mVar 1)) (mAndV (m2 (mAs (mCons (mVar 0) mNil) gLen) (mAs (mCons (mVar 1) mNil) gLen) gEq) (mL (mLc (mZip (mVar 0) (mVar 1)) (.tp ((.nm 2) :: ((.nm 3) :: []))) [2, 3] tYesD (mAs (mCons (mVar 2) (mCons (mVar 3) mNil)) (ar 2 (m_L_same d)))) gAll)) [some (.ref a), some (.ref b), none, none] hp = some (.bl true, hp) :=
    andV_t (isi_ev (mVar_of rfl) (il b h2).1) (andV_t ((m2_ev (as_of (cons_of (mVar_of rfl) nil_of) (gLen_lst h1)) (as_of (cons_of (mVar_of rfl) nil_of) (gLen_lst h2)) gEq_int).trans (by rw [beq_self_eq_true])) ((mL_of e1).trans e2))
  exact def_of (sSeq_of (if_ev (mT_of (isi_ev (mVar_of rfl) (il a h1).2)) rfl) (seq_ret (if_ev (mT_of (isi_ev (mVar_of rfl) (il a h1).1)) (ret_of e3))))

theorem minT_mem {l : List (List (List Int))} (hn : l ≠ []) : minT l ∈ l := by
  cases l with
  | nil => exact absurd rfl hn
  | cons b bs =>
    have := minOf_mem (toT2 b) (bs.map toT2)
    rw [← List.map_cons] at this
    obtain ⟨c, hc, e⟩ := List.mem_map.mp this
    show ofT2 (PySem.W.minOf (toT2 b) (bs.map toT2)) ∈ _
    rw [← e, of_to]
    exact hc
theorem flt_TT {cs : List (List Int)} (h2 : Two cs) (hl : cs.length ≤ 1000) : Flt 8 (TT cs) := Flt.up (d := 3) (.tup (by rw [List.length_map]; exact hl) fun x hx => by
  obtain ⟨c, hc, rfl⟩ := List.mem_map.mp hx
  obtain ⟨a, b, rfl⟩ := h2 c hc
  exact flt_T _ (by show 2 ≤ 1000; decide)) 5
theorem orb_ne (cs : List (List Int)) : orb cs ≠ [] := by unfold orb; simp
theorem mem_orb {s b : List (List Int)} (hs : Two s) (hn : s ≠ []) (h : b ∈ orb s) : Two b ∧ b ≠ [] ∧ b.length = s.length := by
  unfold orb at h
  obtain ⟨k, _, rfl⟩ := List.mem_map.mp h
  exact ⟨two_hm, hm_ne (tns_ne hn k), by rw [hm_len, tns_len]⟩
theorem places_ok2 {n : Nat} {J : Nat → Nat → Sd} (sk : Skin n J) (hn : n ≤ 60) {E : List Int} (tr : Tre n J E) {Pt : Nat → Pl} (ht : ∀ f, 0 ≤ (Pt f).t ∧ (Pt f).t < 4) (hb : ∀ k ∈ E, Bes Pt J (smAt n J k)) {f0 : Nat} (hf0 : f0 < n) (h0 : Pt f0 = ⟨0, 0, 0⟩) (hp : Hd) :
    ∃ K : List Nat, c_L_places [skD n J, T E, .int (f0 : Nat)] hp = some (.ref hp.length, hp ++ [.dic (Gi (gP Pt) K)]) ∧ Met n f0 K ∧ ∀ f, f < n → f ∈ K :=
  have met0 : Met n f0 [f0] := ⟨by simp, fun f hf => by rw [List.mem_singleton.mp hf]; exact hf0, List.mem_singleton_self _⟩
  ⟨_, cN_of (by show (nr (skD n J) && (nr (T E) && true)) = true; rw [nr_sk, nr_T]; rfl) (places_run sk hn tr ht hb hf0 h0) rfl (nrO_Gi (nr_gP Pt)), met0.rnds sk tr n, rnds_all sk tr met0⟩
end Lw
namespace Lw
open PySem PySem.Spec L2 Ve
def E1_law : AE :=
    (mTup (mCons (mSl (mVar 10) none (some (mC (.int 2)))) (mCons (mC (.bl true)) mNil)))
def C1_law : AA :=
    (mLc (mIV (mVar 6)) (.nm 10) [10] tYesD E1_law)
def E2_law : AE :=
    (mAs (mCons (mAs (mCons (mVar 11) mNil) (ar 1 c_least_squares)) (mCons (mAs (mCons (mVar 9) mNil) (gBest1 false)) mNil)) (ar 2 c_L_same))
def C2_law : AA :=
    (mLc (mIL (mCatLO (mLst (mCons (mVar 8) mNil)) (mVar 9))) (.nm 11) [11] tYesD E2_law)
@[simp] def B1_law_1 : AS :=
    (sIf (mNot (mT (mL C2_law gAll))) (sRet (mC (.bl false))) sNext)
def B1_law : AS :=
    sSeq (sSet 9 (mAs (mCons (mVar 8) mNil) (ar 1 c_L_four)))
    B1_law_1
def F1_law : AS := (sForI (mIS (mTup (mCons (mAs (mCons (mVar 3) (mCons (mVar 5) mNil)) (ar 2 c_squares)) (mCons (mAs (mCons (mVar 2) mNil) (ar 1 c_L_drawn)) mNil)))) (.nm 8) B1_law)
@[simp] def B2_law_4 : AS :=
    F1_law
@[simp] def B2_law_3 : AS :=
    sSeq (sIf (mNot (mT (mAs (mCons (mAs (mCons (mVar 3) (mCons (mVar 5) mNil)) (ar 2 c_squares)) (mCons (mAs (mCons (mNew (mList (mVar 7))) mNil) (ar 1 c_L_at_home)) mNil)) (ar 2 c_L_same)))) (sRet (mC (.bl false))) sNext)
    B2_law_4
@[simp] def B2_law_2 : AS :=
    sSeq (sSet 7 (mL C1_law gDictL))
    B2_law_3
@[simp] def B2_law_1 : AS :=
    sSeq (sSet 6 (mAs (mCons (mVar 3) (mCons (mVar 5) (mCons (mC (.int 0)) mNil))) (ar 3 c_L_places)))
    B2_law_2
def B2_law : AS :=
    sSeq (sSet 5 (mAs (mCons (mVar 2) (mCons (mVar 3) mNil)) (ar 2 c_L_tree)))
    B2_law_1
def F2_law : AS := (sForI (mR1 (mCons (mC (.int 2)) mNil)) (.nm 4) B2_law)
@[simp] def B3_law_2 : AS :=
    F2_law
@[simp] def B3_law_1 : AS :=
    sSeq (sSet 3 (mAs (mCons (mVar 2) (mCons (mAs (mCons (mVar 2) mNil) (ar 1 c_L_many)) mNil)) (ar 2 c_L_skin)))
    B3_law_2
def B3_law : AS :=
    sSeq (sSet 2 (mAs (mCons (mVar 0) (mCons (mVar 1) mNil)) (ar 2 c_L_hand)))
    B3_law_1
def F3_law : AS := (sForI (mR1 (mCons (mAs (mCons (mC (.int 1)) (mCons (mAs (mCons (mAs (mCons (mVar 0) mNil) gLen) (mCons (mC (.int 6)) mNil)) gMin2) mNil)) gMax2) mNil)) (.nm 1) B3_law)
@[simp] def b_law_1 : AS :=
    (sRet (mC (.bl true)))
def b_law : AS :=
    sSeq F3_law
    b_law_1
def m_law : List D → Hd → Option (D × Hd) := mDef 12 b_law
abbrev c_law := m_law

theorem there_ok {n : Nat} {Pt : Nat → Pl} {K : List Nat} {ls : Ls} {hp : Hd} {q : Nat} (hl : K.length ≤ 1000) (e : ls[6]? = some (some (.ref q))) (hls : ∃ v0 v1 v2 v3 v4 v5 v7 v8 v9 v10 v11, ls = [v0, v1, v2, v3, v4, v5, some (.ref q), v7, v8, v9, v10, v11]) (g : hp[q]? = some (.dic (Gi (gP Pt) K))) :
    mL C1_law gDictL ls hp = some (.ref hp.length, (hp.set q (.dicL (Gi (gP Pt) K))) ++ [.dic (Cd (ddp (K.map (sqI Pt))))]) := by
  have ei : mIV (mVar 6) ls hp = some (K.map (gP Pt), [], hp.set q (.dicL (Gi (gP Pt) K))) := by
    unfold mIV
    rw [mVar_of e]
    dsimp only
    rw [g]
    dsimp only
    unfold Gi
    rw [List.map_map]
    rfl
  obtain ⟨v0, v1, v2, v3, v4, v5, v7, v8, v9, v10, v11, rfl⟩ := hls
  have e1 := mLc_typed (fi := mIV (mVar 6)) (t := .nm 10) (own := [10]) (tt := tYesD) (te := E1_law) (ls := [v0, v1, v2, v3, v4, v5, some (.ref q), v7, v8, v9, v10, v11]) (hp := hp) (gP Pt) K (fun _ => true) (fun f => D.tup [T (sqI Pt f), .bl true])
    ei (by rw [sizeLine_eq]; omega) rfl (fun f _ => ⟨_, asg_nm, rfl, fun _ => tup_of (ds := [T (sqI Pt f), .bl true]) (cons_of (sl2_gP (mVar_of rfl)) (cons_of mC_of nil_of)) (by show 2 ≤ 1000; decide)⟩)
  rw [List.filter_eq_self.mpr (fun _ _ => rfl)] at e1
  refine (mL_of e1).trans ?_
  have := gDictL_ddp (hp := hp.set q (.dicL (Gi (gP Pt) K))) (K.map (sqI Pt))
  rw [List.map_map, List.length_set] at this
  exact this
theorem law_pure (ns : List Int) (h : ns.length ≤ 63) : ∃ hp', m_law [.scr ns] [] = some (.bl true, hp') := by
  obtain ⟨M, hM, eM⟩ := head2_ok 1 6 (by decide) (by decide) (ls := [some (.scr ns), none, none, none, none, none, none, none, none, none, none, none]) (ns := ns) rfl []
  obtain ⟨ls', hp', e, v1, v2, v3, v4, v5, v6, v7, v8, v9, rfl⟩ := sForI_pre (t := .nm 1) (b := B3_law) (fun i : Nat => D.int (i : Nat)) (fun _ ls hp => ∃ v1 v2 v3 v4 v5 v6 v7 v8 v9, ls = [some (.scr ns), v1, v2, v3, v4, v5, v6, v7, v8, v9, none, none]) eM (fun _ _ _ _ => rfl) ⟨_, _, _, _, _, _, _, _, _, rfl⟩ (by
    rintro d k r ls hp ed ⟨v1, v2, v3, v4, v5, v6, v7, v8, v9, rfl⟩
    obtain ⟨rfl, hk⟩ := range_at ed
    obtain ⟨o, e1, ho⟩ := hand_ok ns d.length (by omega) hp
    generalize hN : hp.length = N at e1
    have g0 : (hp ++ [o])[N]? = some o := by rw [← hN]; exact hget_new
    generalize hp ++ [o] = hp1 at e1 g0
    obtain ⟨n, o1, x, e2, ⟨n1, n2⟩, ho1⟩ := many_ok 0 (by decide) hp1 N o g0 ho
    have g1 : (hp1.set N o1 ++ [x])[N]? = some o1 := hget_old (hset_same g0)
    generalize hp1.set N o1 ++ [x] = hp2 at e2 g1
    obtain ⟨J, o2, e3, sk, ho2⟩ := skin_ok (0 + 2) (by decide) hp2 N o1 g1 ho1 n n1 (by omega)
    have g2 : (hp2.set N o2)[N]? = some o2 := hset_same g1
    generalize hp2.set N o2 = hp3 at e3 g2
    obtain ⟨ls8, hp8, e8, w4, w5, w6, w7, w8, w9, rfl, _⟩ := sForI_pre (fi := mR1 (mCons (mC (.int 2)) mNil)) (t := .nm 4) (b := B2_law) (gd := []) (items := List.range 2) (hp := hp3) (hp1 := hp3) (ls := [some (.scr ns), some (.int (d.length : Nat)), some (.ref N), some (skD n J), v4, v5, v6, v7, v8, v9, none, none]) (fun i : Nat => D.int (i : Nat))
      (fun d2 ls hp => ∃ w4 w5 w6 w7 w8 w9, ls = [some (.scr ns), some (.int (d.length : Nat)), some (.ref N), some (skD n J), w4, w5, w6, w7, w8, w9, none, none] ∧ ∃ o, hp[N]? = some o ∧ Hand (0 + 2 + 5 * n + 5 + 200 * d2.length) o)
      (mR1_nat (j := 2) (cons_of mC_of nil_of) (by decide)) (fun _ _ _ _ => rfl) ⟨_, _, _, _, _, _, rfl, o2, g2, ho2⟩ (by
      rintro d2 k2 r2 ls hpy ed2 ⟨w4, w5, w6, w7, w8, w9, rfl, oy, gy, hy⟩
      have hk2 := (range_at ed2)
      obtain ⟨E, o3, e4, tr, ho3, le⟩ := tree_ok sk (by omega) _ (by omega) hpy N oy gy hy
      have g3 : (hpy.set N o3)[N]? = some o3 := hset_same gy
      generalize hpy.set N o3 = hp4 at e4 g3
      obtain ⟨P, p0, pt, pb⟩ := tr.pot 0
      obtain ⟨K, e5, met, full⟩ := places_ok2 sk (by omega) tr pt pb sk.pos p0 hp4
      have lK := met.len
      have g4 : (hp4 ++ [O.dic (Gi (gP P) K)])[N]? = some o3 := hget_old g3
      have gq : (hp4 ++ [O.dic (Gi (gP P) K)])[hp4.length]? = some (.dic (Gi (gP P) K)) := hget_new
      have lN := hlt g3
      generalize hp4.length = q at e5 gq lN
      generalize hp4 ++ [O.dic (Gi (gP P) K)] = hp5 at e5 g4 gq
      have e6 := there_ok (n := n) (Pt := P) (K := K) (ls := [some (.scr ns), some (.int (d.length : Nat)), some (.ref N), some (skD n J), some (.int (k2 : Nat)), some (T E), some (.ref q), w7, w8, w9, none, none]) (hp := hp5) (q := q) (by omega) rfl ⟨_, _, _, _, _, _, _, _, _, _, _, rfl⟩ gq
      have g5 : (hp5.set q (.dicL (Gi (gP P) K)) ++ [O.dic (Cd (ddp (K.map (sqI P))))])[N]? = some o3 := hget_old (hset_ne (by omega) g4)
      have gt : (hp5.set q (.dicL (Gi (gP P) K)) ++ [O.dic (Cd (ddp (K.map (sqI P))))])[hp5.length]? = some (.dic (Cd (ddp (K.map (sqI P))))) := by
        have := hget_new (hp := hp5.set q (.dicL (Gi (gP P) K))) (o := .dic (Cd (ddp (K.map (sqI P)))))
        rwa [List.length_set] at this
      generalize hp5.length = tq at e6 gt
      generalize hp5.set q (.dicL (Gi (gP P) K)) ++ [O.dic (Cd (ddp (K.map (sqI P))))] = hp6 at e6 g5 gt
      have esq := squares_ok sk (by omega) (by omega) tr pt pb p0
      have eh : hm (ddp (K.map (sqI P))) = sqH n P := hm_perm (perm_same (ddp_nodup _) (ddp_nodup _) fun c => by
        rw [ddp_mem, List.mem_map, mem_sqs]
        exact ⟨fun ⟨f, a, b⟩ => ⟨f, met.lt f a, b⟩, fun ⟨f, a, b⟩ => ⟨f, full f a, b⟩⟩)
      have two : Two (ddp (K.map (sqI P))) := fun c hc => by
        obtain ⟨f, _, rfl⟩ := List.mem_map.mp (ddp_mem.mp hc)
        exact ⟨_, _, rfl⟩
      have dne : ddp (K.map (sqI P)) ≠ [] := List.ne_nil_of_mem (ddp_mem.mpr (List.mem_map.mpr ⟨0, full 0 sk.pos, rfl⟩))
      have dl := ddp_len (K.map (sqI P))
      rw [List.length_map] at dl
      have sl : (sqH n P).length ≤ 60 := by
        rw [← eh, hm_len]
        omega
      have gl : mNew (mList (mVar 7)) [some (.scr ns), some (.int (d.length : Nat)), some (.ref N), some (skD n J), some (.int (k2 : Nat)), some (T E), some (.ref q), some (.ref tq), w8, w9, none, none] hp6 = some (.ref hp6.length, hp6 ++ [.lst ((ddp (K.map (sqI P))).map T)]) := mNew_of (mList_ev (mVar_of rfl) (gListO_Cd gt))
      have ga := athome_ok (d := .ref hp6.length) (hp := hp6 ++ [.lst ((ddp (K.map (sqI P))).map T)]) (itOf_ref hget_new) (gdOk1 hget_new) two dne (by omega)
      rw [eh] at ga
      have g6 : (hp6 ++ [O.lst ((ddp (K.map (sqI P))).map T)])[N]? = some o3 := hget_old g5
      generalize hp6.length = lq at gl ga
      generalize hp6 ++ [O.lst ((ddp (K.map (sqI P))).map T)] = hp7 at gl ga g6
      have two2 : Two (sqH n P) := two_hm
      have ne2 : sqH n P ≠ [] := hm_ne (sqs_ne P sk.pos)
      have t1 : mNot (mT (mAs (mCons (mAs (mCons (mVar 3) (mCons (mVar 5) mNil)) (ar 2 c_squares)) (mCons (mAs (mCons (mNew (mList (mVar 7))) mNil) (ar 1 c_L_at_home)) mNil)) (ar 2 c_L_same))) [some (.scr ns), some (.int (d.length : Nat)), some (.ref N), some (skD n J), some (.int (k2 : Nat)), some (T E), some (.ref q), some (.ref tq), w8, w9, none, none] hp6 = some (false, hp7) :=
        not_of (mT_of (call_of (cons_of (call_of (cons_of (mVar_of rfl) (cons_of (mVar_of rfl) nil_of)) rfl (esq hp6)) (cons_of (call_of (cons_of gl nil_of) rfl ga) nil_of)) rfl (same_self hp7 (flt_TT two2 (by omega)))))
      obtain ⟨cs, o4, e9, ⟨c2, cne, cl⟩, ho4⟩ := drawn_ok _ (by omega) hp7 N o3 g6 ho3
      have g7 : (hp7.set N o4)[N]? = some o4 := hset_same g6
      generalize hp7.set N o4 = hp8 at e9 g7
      obtain ⟨ls9, hp9, e10, x8, x9, rfl, g9⟩ := sForI_pre (fi := mIS (mTup (mCons (mAs (mCons (mVar 3) (mCons (mVar 5) mNil)) (ar 2 c_squares)) (mCons (mAs (mCons (mVar 2) mNil) (ar 1 c_L_drawn)) mNil)))) (t := .nm 8) (b := B1_law) (gd := []) (items := [sqH n P, cs]) (hp := hp7) (hp1 := hp8) (ls := [some (.scr ns), some (.int (d.length : Nat)), some (.ref N), some (skD n J), some (.int (k2 : Nat)), some (T E), some (.ref q), some (.ref tq), w8, w9, none, none]) TT
        (fun _ ls hp => ∃ x8 x9, ls = [some (.scr ns), some (.int (d.length : Nat)), some (.ref N), some (skD n J), some (.int (k2 : Nat)), some (T E), some (.ref q), some (.ref tq), x8, x9, none, none] ∧ hp[N]? = some o4)
        (mIS_tup (tup_of (ds := [TT (sqH n P), TT cs]) (cons_of (call_of (cons_of (mVar_of rfl) (cons_of (mVar_of rfl) nil_of)) rfl (esq hp7)) (cons_of (call_of (cons_of (mVar_of rfl) nil_of) rfl e9) nil_of)) (by show 2 ≤ 1000; decide))) (fun _ _ _ _ => rfl) ⟨_, _, rfl, g7⟩ (by
        rintro d3 s r3 ls hpz ed3 ⟨x8, x9, rfl, gz⟩
        have hs : s ∈ [sqH n P, cs] := by rw [ed3]; simp
        have s2 : Two s ∧ s ≠ [] ∧ s.length ≤ 60 := by
          rcases List.mem_cons.mp hs with rfl | hs
          · exact ⟨two2, ne2, sl⟩
          · rw [List.mem_singleton.mp hs]
            exact ⟨c2, cne, by omega⟩
        have ef := four_ok s2.1 s2.2.1 (by omega) hpz
        have gz1 : (hpz ++ [O.lst ((orb s).map TT)])[N]? = some o4 := hget_old gz
        have gf : (hpz ++ [O.lst ((orb s).map TT)])[hpz.length]? = some (.lst ((orb s).map TT)) := hget_new
        generalize hpz.length = fq at *
        generalize hpz ++ [O.lst ((orb s).map TT)] = hpw at ef gz1 gf
        have a1 : sSet 9 (mAs (mCons (mVar 8) mNil) (ar 1 c_L_four)) [some (.scr ns), some (.int (d.length : Nat)), some (.ref N), some (skD n J), some (.int (k2 : Nat)), some (T E), some (.ref q), some (.ref tq), some (TT s), x9, none, none] hpz = some (.nx, [some (.scr ns), some (.int (d.length : Nat)), some (.ref N), some (skD n J), some (.int (k2 : Nat)), some (T E), some (.ref q), some (.ref tq), some (TT s), some (.ref fq), none, none], hpw) :=
          sSet_of (call_of (cons_of (mVar_of rfl) nil_of) rfl ef)
        have mo := minT_mem (orb_ne s)
        obtain ⟨m2, mne, ml⟩ := mem_orb s2.1 s2.2.1 mo
        have ei : mIL (mCatLO (mLst (mCons (mVar 8) mNil)) (mVar 9)) [some (.scr ns), some (.int (d.length : Nat)), some (.ref N), some (skD n J), some (.int (k2 : Nat)), some (T E), some (.ref q), some (.ref tq), some (TT s), some (.ref fq), none, none] hpw = some ((s :: orb s).map TT, [], hpw) := by
          refine mIL_ev ?_
          rw [mCatLO_s, lst_of (ds := [TT s]) (cons_of (mVar_of rfl) nil_of) (by show 1 ≤ 1000; decide)]
          dsimp only
          rw [mVar_of (d := .ref fq) rfl]
          dsimp only
          rw [lstOf_ref gf]
          rfl
        have elc := mLc_typed (fi := mIL (mCatLO (mLst (mCons (mVar 8) mNil)) (mVar 9))) (t := .nm 11) (own := [11]) (tt := tYesD) (te := E2_law) (ls := [some (.scr ns), some (.int (d.length : Nat)), some (.ref N), some (skD n J), some (.int (k2 : Nat)), some (T E), some (.ref q), some (.ref tq), some (TT s), some (.ref fq), none, none]) (hp := hpw) TT (s :: orb s) (fun _ => true) (fun _ => D.bl true) ei (by unfold orb; rw [sizeLine_eq]; simp) rfl (fun one ho => by
          have o2 : Two one ∧ one ≠ [] ∧ one.length = s.length := by
            rcases List.mem_cons.mp ho with rfl | ho
            · exact ⟨s2.1, s2.2.1, rfl⟩
            · exact mem_orb s2.1 s2.2.1 ho
          have el := least_ok o2.1 o2.2.1 (by omega) hpw
          rw [orb_min s2.1 s2.2.1 (List.mem_cons.mp ho)] at el
          exact ⟨_, asg_nm, rfl, fun _ => call_of (cons_of (call_of (cons_of (mVar_of rfl) nil_of) rfl el) (cons_of (as_of (cons_of (mVar_of rfl) nil_of) (gBest1_TT gf (orb_ne s))) nil_of)) rfl (same_self hpw (flt_TT m2 (by omega)))⟩)
        rw [List.filter_eq_self.mpr (fun _ _ => rfl)] at elc
        have eall : mL C2_law gAll [some (.scr ns), some (.int (d.length : Nat)), some (.ref N), some (skD n J), some (.int (k2 : Nat)), some (T E), some (.ref q), some (.ref tq), some (TT s), some (.ref fq), none, none] hpw = some (.bl true, hpw) :=
          (mL_of elc).trans ((gAll_map (fun _ => true) (s :: orb s) hpw).trans (by rw [List.all_eq_true.mpr (fun _ _ => rfl)]))
        exact ⟨_, _, _, asg_nm, .inl (sSeq_of a1 (if_ev (not_of (mT_of eall)) rfl)), _, _, rfl, gz1⟩)
      have e10' : F1_law [some (.scr ns), some (.int (d.length : Nat)), some (.ref N), some (skD n J), some (.int (k2 : Nat)), some (T E), some (.ref q), some (.ref tq), w8, w9, none, none] hp7 = _ := e10
      exact ⟨_, _, _, asg_nm, .inl (sSeq_of (sSet_of (call_of (cons_of (mVar_of rfl) (cons_of (mVar_of rfl) nil_of)) rfl e4)) (sSeq_of (sSet_of (call_of (cons_of (mVar_of rfl) (cons_of (mVar_of rfl) (cons_of (mC_of (d := .int ((0 : Nat) : Int))) nil_of))) rfl e5)) (sSeq_of (sSet_of e6) (sSeq_of (if_ev t1 rfl) e10')))), _, _, _, _, _, _, rfl, o4, g9, ho4.mono (by rw [List.length_append, List.length_singleton]; omega)⟩)
    have e8' : F2_law [some (.scr ns), some (.int (d.length : Nat)), some (.ref N), some (skD n J), v4, v5, v6, v7, v8, v9, none, none] hp3 = _ := e8
    exact ⟨_, _, _, asg_nm, .inl (sSeq_of (sSet_of (call_of (cons_of (mVar_of rfl) (cons_of (mVar_of rfl) nil_of)) rfl e1)) (sSeq_of (sSet_of (call_of (cons_of (mVar_of rfl) (cons_of (call_of (cons_of (mVar_of rfl) nil_of) rfl e2) nil_of)) rfl e3)) e8')), _, _, _, _, _, _, _, _, _, rfl⟩)
  have e' : F3_law [some (.scr ns), none, none, none, none, none, none, none, none, none, none, none] [] = _ := e
  exact ⟨hp', def_of (sSeq_of e' (ret_of mC_of))⟩
end Lw

namespace Lw
open PySem PySem.Spec L2 Ve
def topS (i : Nat) : Stmt := PySem.Challenge.pw_flatbody_k37_squares.main.body.getD i (.Pass ⟨0, 0, 0, 0⟩)
abbrev s_seams : Stmt := topS 1
abbrev N_seams : List Str := ["skin", "found", "face", "row", "side", "other", "far"]
theorem sc_seams : FnScope N_seams ["skin"] (defScope s_seams) := ⟨rfl, rfl, rfl, by decide +kernel, rfl, by decide +kernel, by decide +kernel⟩
abbrev s_beside : Stmt := topS 4
abbrev N_beside : List Str := ["skin", "face", "place", "i", "x", "y", "turn", "g", "j", "k", "right", "up"]
theorem sc_beside : FnScope N_beside ["skin", "face", "place", "i"] (defScope s_beside) := ⟨rfl, rfl, rfl, by decide +kernel, rfl, by decide +kernel, by decide +kernel⟩
abbrev s_sides_of_seams : Stmt := topS 5
abbrev N_sides_of_seams : List Str := ["skin", "some", "told", "table", "number", "f", "i", "g", "j", "row"]
theorem sc_sides_of_seams : FnScope N_sides_of_seams ["skin", "some"] (defScope s_sides_of_seams) := ⟨rfl, rfl, rfl, by decide +kernel, rfl, by decide +kernel, by decide +kernel⟩
abbrev s_lay_from : Stmt := topS 6
abbrev N_lay_from : List Str := ["skin", "some", "first", "table", "places", "waiting", "at", "face", "i", "other", "place"]
theorem sc_lay_from : FnScope N_lay_from ["skin", "some", "first"] (defScope s_lay_from) := ⟨rfl, rfl, rfl, by decide +kernel, rfl, by decide +kernel, by decide +kernel⟩
abbrev s_laid : Stmt := topS 7
abbrev N_laid : List Str := ["skin", "tree", "first", "places", "face"]
theorem sc_laid : FnScope N_laid ["skin", "tree", "first"] (defScope s_laid) := ⟨rfl, rfl, rfl, by decide +kernel, rfl, by decide +kernel, by decide +kernel⟩
abbrev s_moved_home : Stmt := topS 9
abbrev N_moved_home : List Str := ["some", "left", "low", "x", "y"]
theorem sc_moved_home : FnScope N_moved_home ["some"] (defScope s_moved_home) := ⟨rfl, rfl, rfl, by decide +kernel, rfl, by decide +kernel, by decide +kernel⟩
abbrev s_squares : Stmt := topS 10
abbrev N_squares : List Str := ["skin", "tree", "x", "y", "turn"]
theorem sc_squares : FnScope N_squares ["skin", "tree"] (defScope s_squares) := ⟨rfl, rfl, rfl, by decide +kernel, rfl, by decide +kernel, by decide +kernel⟩
abbrev s_least_squares : Stmt := topS 11
abbrev N_least_squares : List Str := ["some", "found", "turn", "x", "y"]
theorem sc_least_squares : FnScope N_least_squares ["some"] (defScope s_least_squares) := ⟨rfl, rfl, rfl, by decide +kernel, rfl, by decide +kernel, by decide +kernel⟩
abbrev s_L_hand : Stmt := topS 13
abbrev N_L_hand : List Str := ["_law_script", "_law_k", "_law_cell"]
theorem sc_L_hand : FnScope N_L_hand ["_law_script", "_law_k"] (defScope s_L_hand) := ⟨rfl, rfl, rfl, by decide +kernel, rfl, by decide +kernel, by decide +kernel⟩
abbrev s_L_take : Stmt := topS 14
abbrev N_L_take : List Str := ["_law_hand_here", "_law_many_here", "_law_digit", "_law_turn", "_law_mixed", "_law_odd"]
theorem sc_L_take : FnScope N_L_take ["_law_hand_here", "_law_many_here"] (defScope s_L_take) := ⟨rfl, rfl, rfl, by decide +kernel, rfl, by decide +kernel, by decide +kernel⟩
abbrev s_L_pick : Stmt := topS 15
abbrev N_L_pick : List Str := ["_law_hand_here", "_law_some"]
theorem sc_L_pick : FnScope N_L_pick ["_law_hand_here", "_law_some"] (defScope s_L_pick) := ⟨rfl, rfl, rfl, by decide +kernel, rfl, by decide +kernel, by decide +kernel⟩
abbrev s_L_left : Stmt := topS 16
abbrev N_L_left : List Str := ["_law_rows", "_law_many_here", "_law_left_here", "_law_f", "_law_i"]
theorem sc_L_left : FnScope N_L_left ["_law_rows", "_law_many_here"] (defScope s_L_left) := ⟨rfl, rfl, rfl, by decide +kernel, rfl, by decide +kernel, by decide +kernel⟩
abbrev s_L_skin : Stmt := topS 17
abbrev N_L_skin : List Str := ["_law_hand_here", "_law_many_here", "_law_rows", "_law_f", "_law_g", "_law_j", "_law_i", "_law_left_here", "_law_row"]
theorem sc_L_skin : FnScope N_L_skin ["_law_hand_here", "_law_many_here"] (defScope s_L_skin) := ⟨rfl, rfl, rfl, by decide +kernel, rfl, by decide +kernel, by decide +kernel⟩
abbrev s_L_many : Stmt := topS 18
abbrev N_L_many : List Str := ["_law_hand_here"]
theorem sc_L_many : FnScope N_L_many ["_law_hand_here"] (defScope s_L_many) := ⟨rfl, rfl, rfl, by decide +kernel, rfl, by decide +kernel, by decide +kernel⟩
abbrev s_L_seams : Stmt := topS 19
abbrev N_L_seams : List Str := ["_law_skin_here", "_law_found", "_law_f", "_law_row", "_law_i", "_law_g", "_law_j"]
theorem sc_L_seams : FnScope N_L_seams ["_law_skin_here"] (defScope s_L_seams) := ⟨rfl, rfl, rfl, by decide +kernel, rfl, by decide +kernel, by decide +kernel⟩
abbrev s_L_tree : Stmt := topS 20
abbrev N_L_tree : List Str := ["_law_hand_here", "_law_skin_here", "_law_some", "_law_lots", "_law_tree_here", "_law_k", "_law_f", "_law_i", "_law_g", "_law_j", "_law_old", "_law_new", "_law_one"]
theorem sc_L_tree : FnScope N_L_tree ["_law_hand_here", "_law_skin_here"] (defScope s_L_tree) := ⟨rfl, rfl, rfl, by decide +kernel, rfl, by decide +kernel, by decide +kernel⟩
abbrev s_L_next : Stmt := topS 21
abbrev N_L_next : List Str := ["_law_place", "_law_side", "_law_back", "_law_x", "_law_y", "_law_turn", "_law_k"]
theorem sc_L_next : FnScope N_L_next ["_law_place", "_law_side", "_law_back"] (defScope s_L_next) := ⟨rfl, rfl, rfl, by decide +kernel, rfl, by decide +kernel, by decide +kernel⟩
abbrev s_L_places : Stmt := topS 22
abbrev N_L_places : List Str := ["_law_skin_here", "_law_some", "_law_first", "_law_known", "_law_places_here", "_law_turn", "_law_number", "_law_f", "_law_i", "_law_g", "_law_j"]
theorem sc_L_places : FnScope N_L_places ["_law_skin_here", "_law_some", "_law_first"] (defScope s_L_places) := ⟨rfl, rfl, rfl, by decide +kernel, rfl, by decide +kernel, by decide +kernel⟩
abbrev s_L_at_home : Stmt := topS 23
abbrev N_L_at_home : List Str := ["_law_some", "_law_left_here", "_law_low", "_law_x", "_law_y"]
theorem sc_L_at_home : FnScope N_L_at_home ["_law_some"] (defScope s_L_at_home) := ⟨rfl, rfl, rfl, by decide +kernel, rfl, by decide +kernel, by decide +kernel⟩
abbrev s_L_same : Stmt := topS 24
abbrev N_L_same : List Str := ["_law_one", "_law_two", "_law_a", "_law_b"]
theorem sc_L_same : FnScope N_L_same ["_law_one", "_law_two"] (defScope s_L_same) := ⟨rfl, rfl, rfl, by decide +kernel, rfl, by decide +kernel, by decide +kernel⟩
abbrev s_L_four : Stmt := topS 25
abbrev N_L_four : List Str := ["_law_some", "_law_found", "_law_a", "_law_b", "_law_x", "_law_y"]
theorem sc_L_four : FnScope N_L_four ["_law_some"] (defScope s_L_four) := ⟨rfl, rfl, rfl, by decide +kernel, rfl, by decide +kernel, by decide +kernel⟩
abbrev s_L_drawn : Stmt := topS 26
abbrev N_L_drawn : List Str := ["_law_hand_here", "_law_some", "_law_k", "_law_x", "_law_y", "_law_side", "_law_far"]
theorem sc_L_drawn : FnScope N_L_drawn ["_law_hand_here"] (defScope s_L_drawn) := ⟨rfl, rfl, rfl, by decide +kernel, rfl, by decide +kernel, by decide +kernel⟩
abbrev s_law : Stmt := topS 27
abbrev N_law : List Str := ["_law_script", "_law_k", "_law_hand_here", "_law_skin_here", "_law_turn", "_law_tree_here", "_law_places_here", "_law_there", "_law_some", "_law_four_here", "_law_place", "_law_one"]
theorem sc_law : FnScope N_law ["_law_script"] (defScope s_law) := ⟨rfl, rfl, rfl, by decide +kernel, rfl, by decide +kernel, by decide +kernel⟩
structure Bi (mg : Str → Option Value) : Prop where
  z_enumerate : mg "enumerate" = none
  z_len : mg "len" = none
  z_range : mg "range" = none
  z_tuple : mg "tuple" = none
  z_min : mg "min" = none
  z_sorted : mg "sorted" = none
  z_dict : mg "dict" = none
  z_list : mg "list" = none
  z_int : mg "int" = none
  z_isinstance : mg "isinstance" = none
  z_zip : mg "zip" = none
  z_all : mg "all" = none
  z_bool : mg "bool" = none
  z_max : mg "max" = none
structure Ks (K : PySem.W.Frag) (mg : Str → Option Value) : Prop where
  g_STEPS' : ∃ u v, mg "STEPS" = some u ∧ RelV v u ∧ ∀ H μ, Rp K H μ k_STEPS v
section
variable {K : PySem.W.Frag} {mg : Str → Option Value}
theorem Ks.g_STEPS (C : Ks K mg) : mg "STEPS" = some C.g_STEPS'.choose := C.g_STEPS'.choose_spec.choose_spec.1
theorem Ks.r_STEPS (C : Ks K mg) : RelV C.g_STEPS'.choose_spec.choose C.g_STEPS'.choose := C.g_STEPS'.choose_spec.choose_spec.2.1
theorem Ks.p_STEPS (C : Ks K mg) : ∀ H μ, Rp K H μ k_STEPS C.g_STEPS'.choose_spec.choose := C.g_STEPS'.choose_spec.choose_spec.2.2
end
section
variable {P : Program} {w : World} {K : PySem.W.Frag} {mg : Str → Option Value} {base : Heap}
set_option maxHeartbeats 0 in
theorem ok_seams (B : Bi mg) (C : Ks K mg) {f : Addr} {fd : FuncData} (F : Fun K "seams" "seams" s_seams f fd) (gm : mg "seams" = some (.ref f)) (hb : Binds K fd ["skin"] []) : Fn P w K mg base 1 "seams" 1 m_seams := by
  refine fn_mk (N := N_seams) (fb := b_seams) F sc_seams gm hb fun cdv A outer s H E hr => ?_
  have hu := hu_ofG hr
  exact (dss_cons (ds_set (i := 1) sc_seams.nd rfl (by first | exact Or.inl rfl | exact Or.inr rfl) (de_new (le_lst da_nil)))
    (dss_cons (ds_for PassesOwn.never rfl (di_enum (by rfl) B.z_enumerate (de_var 0)) (dg_tup rfl (dgs_cons (dg_name (i := 2) sc_seams.nd rfl (by first | exact Or.inl rfl | exact Or.inr rfl)) (dgs_cons (dg_name (i := 3) sc_seams.nd rfl (by first | exact Or.inl rfl | exact Or.inr rfl)) dgs_nil))) (dss_one (ds_for PassesOwn.never rfl (di_enum (by rfl) B.z_enumerate (de_var 3)) (dg_tup rfl (dgs_cons (dg_name (i := 4) sc_seams.nd rfl (by first | exact Or.inl rfl | exact Or.inr rfl)) (dgs_cons (dg_tup rfl (dgs_cons (dg_name (i := 5) sc_seams.nd rfl (by first | exact Or.inl rfl | exact Or.inr rfl)) (dgs_cons (dg_name (i := 6) sc_seams.nd rfl (by first | exact Or.inl rfl | exact Or.inr rfl)) dgs_nil))) dgs_nil))) (dss_one (ds_if (dt_cmp (o_lt hr.units0) (de_tup (da_cons (de_var 2) (da_cons (de_var 4) da_nil))) (de_tup (da_cons (de_var 5) (da_cons (de_var 6) da_nil))) (nomark _)) (dss_one (ds_expr (de_lm PySem.F.slot_list_append PySem.F.type_list_append t_append (de_var 1) (da_cons (de_tup (da_cons (de_var 2) (da_cons (de_var 4) (da_cons (de_var 5) (da_cons (de_var 6) da_nil))))) da_nil)))) dss_nil)))))
    (dss_one (ds_ret (de_var 1)))))
set_option maxHeartbeats 0 in
theorem ok_beside (B : Bi mg) (C : Ks K mg) {f : Addr} {fd : FuncData} (F : Fun K "beside" "beside" s_beside f fd) (gm : mg "beside" = some (.ref f)) (hb : Binds K fd ["skin", "face", "place", "i"] []) : Fn P w K mg base 1 "beside" 4 m_beside := by
  refine fn_mk (N := N_beside) (fb := b_beside) F sc_beside gm hb fun cdv A outer s H E hr => ?_
  have hu := hu_ofG hr
  exact (dss_cons (ds_asg (de_var 2) (dg_tup rfl (dgs_cons (dg_name (i := 4) sc_beside.nd rfl (by first | exact Or.inl rfl | exact Or.inr rfl)) (dgs_cons (dg_name (i := 5) sc_beside.nd rfl (by first | exact Or.inl rfl | exact Or.inr rfl)) (dgs_cons (dg_name (i := 6) sc_beside.nd rfl (by first | exact Or.inl rfl | exact Or.inr rfl)) dgs_nil)))))
    (dss_cons (ds_asg (de_ix hu (de_ix hu (de_var 0) (de_var 1)) (de_var 3)) (dg_tup rfl (dgs_cons (dg_name (i := 7) sc_beside.nd rfl (by first | exact Or.inl rfl | exact Or.inr rfl)) (dgs_cons (dg_name (i := 8) sc_beside.nd rfl (by first | exact Or.inl rfl | exact Or.inr rfl)) dgs_nil))))
    (dss_cons (ds_set (i := 9) sc_beside.nd rfl (by first | exact Or.inl rfl | exact Or.inr rfl) (de_op o_mod (de_op o_add (de_var 3) (de_var 6)) de_int))
    (dss_cons (ds_asg (de_ix hu (de_glob (by rfl) C.g_STEPS C.r_STEPS C.p_STEPS) (de_var 9)) (dg_tup rfl (dgs_cons (dg_name (i := 10) sc_beside.nd rfl (by first | exact Or.inl rfl | exact Or.inr rfl)) (dgs_cons (dg_name (i := 11) sc_beside.nd rfl (by first | exact Or.inl rfl | exact Or.inr rfl)) dgs_nil))))
    (dss_one (ds_ret (de_tup (da_cons (de_var 7) (da_cons (de_tup (da_cons (de_op o_add (de_var 4) (de_var 10)) (da_cons (de_op o_add (de_var 5) (de_var 11)) (da_cons (de_op o_mod (de_op o_sub (de_op o_add (de_var 9) de_int) (de_var 8)) de_int) da_nil)))) da_nil)))))))))
set_option maxHeartbeats 0 in
theorem ok_sides_of_seams (B : Bi mg) (C : Ks K mg) {f : Addr} {fd : FuncData} (F : Fun K "sides_of_seams" "sides_of_seams" s_sides_of_seams f fd) (gm : mg "sides_of_seams" = some (.ref f)) (hb : Binds K fd ["skin", "some"] []) (F_seams : Fn P w K mg base 1 "seams" 1 c_seams) : Fn P w K mg base 2 "sides_of_seams" 2 m_sides_of_seams := by
  refine fn_mk (N := N_sides_of_seams) (fb := b_sides_of_seams) F sc_sides_of_seams gm hb fun cdv A outer s H E hr => ?_
  have hu := hu_ofG hr
  exact (dss_cons (ds_set (i := 2) sc_sides_of_seams.nd rfl (by first | exact Or.inl rfl | exact Or.inr rfl) (de_callF (F_seams.mono (by decide)) hr (by rfl) (da_cons (de_var 0) da_nil)))
    (dss_cons (ds_setLc (i := 3) (own := [("row", 9)]) rfl sc_sides_of_seams.nd rfl rfl (sw_true rfl rfl rfl (by decide +kernel)) (di_seq (de_var 0)) (blkOk_by (N := N_sides_of_seams) (sc := defScope s_sides_of_seams) (by decide +kernel)) (fun _ _ _ _ _ => (dg_name (i := 9) sc_sides_of_seams.nd rfl (by first | exact Or.inl rfl | exact Or.inr rfl))) (fun _ _ _ _ _ => dts_nil) (fun _ _ _ _ _ => (de_new (le_lst da_nil))))
    (dss_cons (ds_for PassesOwn.never rfl (di_seq (de_var 1)) (dg_name (i := 4) sc_sides_of_seams.nd rfl (by first | exact Or.inl rfl | exact Or.inr rfl)) (dss_cons (ds_asg (de_ix hu (de_var 2) (de_var 4)) (dg_tup rfl (dgs_cons (dg_name (i := 5) sc_sides_of_seams.nd rfl (by first | exact Or.inl rfl | exact Or.inr rfl)) (dgs_cons (dg_name (i := 6) sc_sides_of_seams.nd rfl (by first | exact Or.inl rfl | exact Or.inr rfl)) (dgs_cons (dg_name (i := 7) sc_sides_of_seams.nd rfl (by first | exact Or.inl rfl | exact Or.inr rfl)) (dgs_cons (dg_name (i := 8) sc_sides_of_seams.nd rfl (by first | exact Or.inl rfl | exact Or.inr rfl)) dgs_nil))))))
    (dss_cons (ds_expr (de_lm PySem.F.slot_list_append PySem.F.type_list_append t_append (de_ix hu (de_var 3) (de_var 5)) (da_cons (de_var 6) da_nil)))
    (dss_one (ds_expr (de_lm PySem.F.slot_list_append PySem.F.type_list_append t_append (de_ix hu (de_var 3) (de_var 7)) (da_cons (de_var 8) da_nil)))))))
    (dss_one (ds_ret (de_var 3))))))
set_option maxHeartbeats 0 in
theorem ok_lay_from (B : Bi mg) (C : Ks K mg) {f : Addr} {fd : FuncData} (F : Fun K "lay_from" "lay_from" s_lay_from f fd) (gm : mg "lay_from" = some (.ref f)) (hb : Binds K fd ["skin", "some", "first"] []) (F_beside : Fn P w K mg base 1 "beside" 4 c_beside) (F_sides_of_seams : Fn P w K mg base 2 "sides_of_seams" 2 c_sides_of_seams) : Fn P w K mg base 3 "lay_from" 3 m_lay_from := by
  refine fn_mk (N := N_lay_from) (fb := b_lay_from) F sc_lay_from gm hb fun cdv A outer s H E hr => ?_
  have hu := hu_ofG hr
  exact (dss_cons (ds_set (i := 3) sc_lay_from.nd rfl (by first | exact Or.inl rfl | exact Or.inr rfl) (de_callF (F_sides_of_seams.mono (by decide)) hr (by rfl) (da_cons (de_var 0) (da_cons (de_var 1) da_nil))))
    (dss_cons (ds_set (i := 4) sc_lay_from.nd rfl (by first | exact Or.inl rfl | exact Or.inr rfl) (de_dict hr.units (dp_cons (de_var 2) (de_tup (da_cons de_int (da_cons de_int (da_cons de_int da_nil)))) dp_nil)))
    (dss_cons (ds_set (i := 5) sc_lay_from.nd rfl (by first | exact Or.inl rfl | exact Or.inr rfl) (de_new (le_lst (da_cons (de_var 2) da_nil))))
    (dss_cons (ds_set (i := 6) sc_lay_from.nd rfl (by first | exact Or.inl rfl | exact Or.inr rfl) de_int)
    (dss_cons (ds_while 1000000 PassesOwn.never (dt_cmp (o_lt hr.units0) (de_var 6) (de_callB c_len (by rfl) B.z_len bb_len (da_cons (de_var 5) da_nil)) (nomark _)) (dss_cons (ds_set (i := 7) sc_lay_from.nd rfl (by first | exact Or.inl rfl | exact Or.inr rfl) (de_ix hu (de_var 5) (de_var 6)))
    (dss_cons (ds_for PassesOwn.never rfl (di_seq (de_ix hu (de_var 3) (de_var 7))) (dg_name (i := 8) sc_lay_from.nd rfl (by first | exact Or.inl rfl | exact Or.inr rfl)) (dss_cons (ds_asg (de_callF (F_beside.mono (by decide)) hr (by rfl) (da_cons (de_var 0) (da_cons (de_var 7) (da_cons (de_ix hu (de_var 4) (de_var 7)) (da_cons (de_var 8) da_nil))))) (dg_tup rfl (dgs_cons (dg_name (i := 9) sc_lay_from.nd rfl (by first | exact Or.inl rfl | exact Or.inr rfl)) (dgs_cons (dg_name (i := 10) sc_lay_from.nd rfl (by first | exact Or.inl rfl | exact Or.inr rfl)) dgs_nil))))
    (dss_one (ds_if (dt_cmp (o_notIn hr.units65) (de_var 9) (de_var 4) rfl) (dss_cons (ds_store hu (de_var 10) (de_var 4) (de_var 9))
    (dss_one (ds_expr (de_lm PySem.F.slot_list_append PySem.F.type_list_append t_append (de_var 5) (da_cons (de_var 9) da_nil))))) dss_nil))))
    (dss_one (ds_aug (i := 6) sc_lay_from.nd rfl (by first | exact Or.inl rfl | exact Or.inr rfl) de_int i_add)))))
    (dss_one (ds_ret (de_var 4))))))))
set_option maxHeartbeats 0 in
theorem ok_laid (B : Bi mg) (C : Ks K mg) {f : Addr} {fd : FuncData} (F : Fun K "laid" "laid" s_laid f fd) (gm : mg "laid" = some (.ref f)) (hb : Binds K fd ["skin", "tree", "first"] []) (F_lay_from : Fn P w K mg base 3 "lay_from" 3 c_lay_from) : Fn P w K mg base 4 "laid" 3 m_laid := by
  refine fn_mk (N := N_laid) (fb := b_laid) F sc_laid gm hb fun cdv A outer s H E hr => ?_
  have hu := hu_ofG hr
  exact (dss_cons (ds_set (i := 3) sc_laid.nd rfl (by first | exact Or.inl rfl | exact Or.inr rfl) (de_callF (F_lay_from.mono (by decide)) hr (by rfl) (da_cons (de_var 0) (da_cons (de_var 1) (da_cons (de_var 2) da_nil)))))
    (dss_one (ds_ret (de_callTyL n_tuple (by rfl) B.z_tuple bb_tuple (le_lc (own := [("face", 4)]) rfl sc_laid.nd (di_range1 (by rfl) B.z_range (da_cons (de_callB c_len (by rfl) B.z_len bb_len (da_cons (de_var 0) da_nil)) da_nil)) (blkOk_by (N := N_laid) (sc := defScope s_laid) (by decide +kernel)) (fun _ _ _ _ _ => (dg_name (i := 4) sc_laid.nd rfl (by first | exact Or.inl rfl | exact Or.inr rfl))) (fun _ _ _ _ _ => dts_nil) (fun _ _ _ _ _ => (de_ix hu (de_var 3) (de_var 4))))))))
set_option maxHeartbeats 0 in
theorem ok_moved_home (B : Bi mg) (C : Ks K mg) {f : Addr} {fd : FuncData} (F : Fun K "moved_home" "moved_home" s_moved_home f fd) (gm : mg "moved_home" = some (.ref f)) (hb : Binds K fd ["some"] []) : Fn P w K mg base 1 "moved_home" 1 m_moved_home := by
  refine fn_mk (N := N_moved_home) (fb := b_moved_home) F sc_moved_home gm hb fun cdv A outer s H E hr => ?_
  have hu := hu_ofG hr
  exact (dss_cons (ds_set (i := 1) sc_moved_home.nd rfl (by first | exact Or.inl rfl | exact Or.inr rfl) (de_callBL (n_min rfl) (by rfl) B.z_min bb_min (le_lc (own := [("x", 3), ("y", 4)]) rfl sc_moved_home.nd (di_seq (de_var 0)) (blkOk_by (N := N_moved_home) (sc := defScope s_moved_home) (by decide +kernel)) (fun _ _ _ _ _ => (dg_tup rfl (dgs_cons (dg_name (i := 3) sc_moved_home.nd rfl (by first | exact Or.inl rfl | exact Or.inr rfl)) (dgs_cons (dg_name (i := 4) sc_moved_home.nd rfl (by first | exact Or.inl rfl | exact Or.inr rfl)) dgs_nil)))) (fun _ _ _ _ _ => dts_nil) (fun _ _ _ _ _ => (de_var 3)))))
    (dss_cons (ds_set (i := 2) sc_moved_home.nd rfl (by first | exact Or.inl rfl | exact Or.inr rfl) (de_callBL (n_min rfl) (by rfl) B.z_min bb_min (le_lc (own := [("x", 3), ("y", 4)]) rfl sc_moved_home.nd (di_seq (de_var 0)) (blkOk_by (N := N_moved_home) (sc := defScope s_moved_home) (by decide +kernel)) (fun _ _ _ _ _ => (dg_tup rfl (dgs_cons (dg_name (i := 3) sc_moved_home.nd rfl (by first | exact Or.inl rfl | exact Or.inr rfl)) (dgs_cons (dg_name (i := 4) sc_moved_home.nd rfl (by first | exact Or.inl rfl | exact Or.inr rfl)) dgs_nil)))) (fun _ _ _ _ _ => dts_nil) (fun _ _ _ _ _ => (de_var 4)))))
    (dss_one (ds_ret (de_callTyL n_tuple (by rfl) B.z_tuple bb_tuple (le_sortedL hr.units (by rfl) B.z_sorted bb_sorted (le_lc (own := [("x", 3), ("y", 4)]) rfl sc_moved_home.nd (di_seq (de_var 0)) (blkOk_by (N := N_moved_home) (sc := defScope s_moved_home) (by decide +kernel)) (fun _ _ _ _ _ => (dg_tup rfl (dgs_cons (dg_name (i := 3) sc_moved_home.nd rfl (by first | exact Or.inl rfl | exact Or.inr rfl)) (dgs_cons (dg_name (i := 4) sc_moved_home.nd rfl (by first | exact Or.inl rfl | exact Or.inr rfl)) dgs_nil)))) (fun _ _ _ _ _ => dts_nil) (fun _ _ _ _ _ => (de_tup (da_cons (de_op o_sub (de_var 3) (de_var 1)) (da_cons (de_op o_sub (de_var 4) (de_var 2)) da_nil)))))))))))
set_option maxHeartbeats 0 in
theorem ok_squares (B : Bi mg) (C : Ks K mg) {f : Addr} {fd : FuncData} (F : Fun K "squares" "squares" s_squares f fd) (gm : mg "squares" = some (.ref f)) (hb : Binds K fd ["skin", "tree"] []) (F_laid : Fn P w K mg base 4 "laid" 3 c_laid) (F_moved_home : Fn P w K mg base 1 "moved_home" 1 c_moved_home) : Fn P w K mg base 5 "squares" 2 m_squares := by
  refine fn_mk (N := N_squares) (fb := b_squares) F sc_squares gm hb fun cdv A outer s H E hr => ?_
  have hu := hu_ofG hr
  exact (dss_one (ds_ret (de_callF (F_moved_home.mono (by decide)) hr (by rfl) (da_cons (de_new (le_list rfl (by rfl) B.z_list bb_list (de_callTyL (n_dict hr.units65 rfl) (by rfl) B.z_dict bb_dict (le_lc (own := [("x", 2), ("y", 3), ("turn", 4)]) rfl sc_squares.nd (di_seq (de_callF (F_laid.mono (by decide)) hr (by rfl) (da_cons (de_var 0) (da_cons (de_var 1) (da_cons de_int da_nil))))) (blkOk_by (N := N_squares) (sc := defScope s_squares) (by decide +kernel)) (fun _ _ _ _ _ => (dg_tup rfl (dgs_cons (dg_name (i := 2) sc_squares.nd rfl (by first | exact Or.inl rfl | exact Or.inr rfl)) (dgs_cons (dg_name (i := 3) sc_squares.nd rfl (by first | exact Or.inl rfl | exact Or.inr rfl)) (dgs_cons (dg_name (i := 4) sc_squares.nd rfl (by first | exact Or.inl rfl | exact Or.inr rfl)) dgs_nil))))) (fun _ _ _ _ _ => dts_nil) (fun _ _ _ _ _ => (de_tup (da_cons (de_tup (da_cons (de_var 2) (da_cons (de_var 3) da_nil))) (da_cons de_bl da_nil)))))))) da_nil))))
set_option maxHeartbeats 0 in
theorem ok_least_squares (B : Bi mg) (C : Ks K mg) {f : Addr} {fd : FuncData} (F : Fun K "least_squares" "least_squares" s_least_squares f fd) (gm : mg "least_squares" = some (.ref f)) (hb : Binds K fd ["some"] []) (F_moved_home : Fn P w K mg base 1 "moved_home" 1 c_moved_home) : Fn P w K mg base 2 "least_squares" 1 m_least_squares := by
  refine fn_mk (N := N_least_squares) (fb := b_least_squares) F sc_least_squares gm hb fun cdv A outer s H E hr => ?_
  have hu := hu_ofG hr
  exact (dss_cons (ds_set (i := 1) sc_least_squares.nd rfl (by first | exact Or.inl rfl | exact Or.inr rfl) (de_new (le_lst da_nil)))
    (dss_cons (ds_for PassesOwn.never rfl (di_range1 (by rfl) B.z_range (da_cons de_int da_nil)) (dg_name (i := 2) sc_least_squares.nd rfl (by first | exact Or.inl rfl | exact Or.inr rfl)) (dss_cons (ds_setLc (i := 0) (own := [("x", 3), ("y", 4)]) rfl sc_least_squares.nd rfl rfl (sw_true rfl rfl rfl (by decide +kernel)) (di_seq (de_var 0)) (blkOk_by (N := N_least_squares) (sc := defScope s_least_squares) (by decide +kernel)) (fun _ _ _ _ _ => (dg_tup rfl (dgs_cons (dg_name (i := 3) sc_least_squares.nd rfl (by first | exact Or.inl rfl | exact Or.inr rfl)) (dgs_cons (dg_name (i := 4) sc_least_squares.nd rfl (by first | exact Or.inl rfl | exact Or.inr rfl)) dgs_nil)))) (fun _ _ _ _ _ => dts_nil) (fun _ _ _ _ _ => (de_tup (da_cons (de_un u_neg (de_var 4)) (da_cons (de_var 3) da_nil)))))
    (dss_one (ds_expr (de_lm PySem.F.slot_list_append PySem.F.type_list_append t_append (de_var 1) (da_cons (de_callF (F_moved_home.mono (by decide)) hr (by rfl) (da_cons (de_var 0) da_nil)) da_nil))))))
    (dss_one (ds_ret (de_callB (c_best false rfl hr.units) (by rfl) B.z_min bb_min (da_cons (de_var 1) da_nil))))))
set_option maxHeartbeats 0 in
theorem ok_L_hand (B : Bi mg) (C : Ks K mg) {f : Addr} {fd : FuncData} (F : Fun K "_law_hand" "_law_hand" s_L_hand f fd) (gm : mg "_law_hand" = some (.ref f)) (hb : Binds K fd ["_law_script", "_law_k"] []) : Fn P w K mg base 1 "_law_hand" 2 m_L_hand := by
  refine fn_mk (N := N_L_hand) (fb := b_L_hand) F sc_L_hand gm hb fun cdv A outer s H E hr => ?_
  have hu := hu_ofG hr
  exact (dss_cons (ds_set (i := 2) sc_L_hand.nd rfl (by first | exact Or.inl rfl | exact Or.inr rfl) de_int)
    (dss_cons (ds_if (dt_cmp (o_lt hr.units0) (de_var 1) (de_callB c_len (by rfl) B.z_len bb_len (da_cons (de_var 0) da_nil)) (nomark _)) (dss_one (ds_set (i := 2) sc_L_hand.nd rfl (by first | exact Or.inl rfl | exact Or.inr rfl) (de_ix hu (de_var 0) (de_var 1)))) dss_nil)
    (dss_one (ds_ret (de_new (le_lst (da_cons (de_op o_mul (de_var 2) (de_callTy c_int (by rfl) B.z_int bb_int (da_cons (de_cmp o_ge (de_var 2) (de_op o_pow de_int de_int) (nomark _)) da_nil))) (da_cons (de_op o_add (de_op o_add (de_op o_mod (de_var 2) de_int) (de_op o_mul de_int (de_var 1))) de_int) (da_cons de_int da_nil)))))))))
set_option maxHeartbeats 0 in
theorem ok_L_take (B : Bi mg) (C : Ks K mg) {f : Addr} {fd : FuncData} (F : Fun K "_law_take" "_law_take" s_L_take f fd) (gm : mg "_law_take" = some (.ref f)) (hb : Binds K fd ["_law_hand_here", "_law_many_here"] []) : Fn P w K mg base 1 "_law_take" 2 m_L_take := by
  refine fn_mk (N := N_L_take) (fb := b_L_take) F sc_L_take gm hb fun cdv A outer s H E hr => ?_
  have hu := hu_ofG hr
  exact (dss_cons (ds_if (dt_cmp o_gt (de_ix hu (de_var 0) de_int) de_int (nomark _)) (dss_cons (ds_asgM (de_tup (da_cons (de_op o_div (de_ix hu (de_var 0) de_int) (de_var 1)) (da_cons (de_op o_mod (de_ix hu (de_var 0) de_int) (de_var 1)) da_nil))) (dm_tup rfl (dms_cons (dm_sub hu (de_var 0) de_int) (dms_cons (dm_name (i := 2) sc_L_take.nd rfl (by first | exact Or.inl rfl | exact Or.inr rfl)) dms_nil))))
    (dss_one (ds_ret (de_var 2)))) dss_nil)
    (dss_cons (ds_store hu (de_op o_add (de_ix hu (de_var 0) de_int) de_int) (de_var 0) de_int)
    (dss_cons (ds_set (i := 3) sc_L_take.nd rfl (by first | exact Or.inl rfl | exact Or.inr rfl) (de_ix hu (de_var 0) de_int))
    (dss_cons (ds_set (i := 4) sc_L_take.nd rfl (by first | exact Or.inl rfl | exact Or.inr rfl) (de_op o_mod (de_op o_mul (de_ix hu (de_var 0) de_int) (de_op o_add (de_op o_add de_int (de_op o_mul (de_op o_mul de_int (de_var 3)) (de_var 3))) (de_op o_mul de_int (de_var 3)))) de_int))
    (dss_cons (ds_set (i := 5) sc_L_take.nd rfl (by first | exact Or.inl rfl | exact Or.inr rfl) (de_op o_add (de_op o_add (de_op o_mod (de_var 4) de_int) (de_op o_mul (de_var 3) de_int)) de_int))
    (dss_cons (ds_set (i := 4) sc_L_take.nd rfl (by first | exact Or.inl rfl | exact Or.inr rfl) (de_op o_mod (de_op o_mul (de_var 4) (de_var 5)) de_int))
    (dss_one (ds_ret (de_op o_mod (de_op o_add (de_op o_div (de_var 4) de_int) (de_op o_div (de_var 4) de_int)) (de_var 1))))))))))
set_option maxHeartbeats 0 in
theorem ok_L_pick (B : Bi mg) (C : Ks K mg) {f : Addr} {fd : FuncData} (F : Fun K "_law_pick" "_law_pick" s_L_pick f fd) (gm : mg "_law_pick" = some (.ref f)) (hb : Binds K fd ["_law_hand_here", "_law_some"] []) (F_L_take : Fn P w K mg base 1 "_law_take" 2 c_L_take) : Fn P w K mg base 2 "_law_pick" 2 m_L_pick := by
  refine fn_mk (N := N_L_pick) (fb := b_L_pick) F sc_L_pick gm hb fun cdv A outer s H E hr => ?_
  have hu := hu_ofG hr
  exact (dss_one (ds_ret (de_ix hu (de_var 1) (de_callF (F_L_take.mono (by decide)) hr (by rfl) (da_cons (de_var 0) (da_cons (de_callB c_len (by rfl) B.z_len bb_len (da_cons (de_var 1) da_nil)) da_nil))))))
set_option maxHeartbeats 0 in
theorem ok_L_left (B : Bi mg) (C : Ks K mg) {f : Addr} {fd : FuncData} (F : Fun K "_law_left" "_law_left" s_L_left f fd) (gm : mg "_law_left" = some (.ref f)) (hb : Binds K fd ["_law_rows", "_law_many_here"] []) : Fn P w K mg base 1 "_law_left" 2 m_L_left := by
  refine fn_mk (N := N_L_left) (fb := b_L_left) F sc_L_left gm hb fun cdv A outer s H E hr => ?_
  have hu := hu_ofG hr
  exact (dss_cons (ds_set (i := 2) sc_L_left.nd rfl (by first | exact Or.inl rfl | exact Or.inr rfl) (de_new (le_lst da_nil)))
    (dss_cons (ds_for PassesOwn.never rfl (di_range1 (by rfl) B.z_range (da_cons (de_var 1) da_nil)) (dg_name (i := 3) sc_L_left.nd rfl (by first | exact Or.inl rfl | exact Or.inr rfl)) (dss_one (ds_expr (de_extend (de_var 2) (le_lc (own := [("_law_i", 4)]) rfl sc_L_left.nd (di_range1 (by rfl) B.z_range (da_cons de_int da_nil)) (blkOk_by (N := N_L_left) (sc := defScope s_L_left) (by decide +kernel)) (fun _ _ _ _ _ => (dg_name (i := 4) sc_L_left.nd rfl (by first | exact Or.inl rfl | exact Or.inr rfl))) (fun _ _ _ _ _ => (dts_one (dt_cmp o_is (de_ix hu (de_ix hu (de_var 0) (de_var 3)) (de_var 4)) de_non (nomark _)))) (fun _ _ _ _ _ => (de_tup (da_cons (de_var 3) (da_cons (de_var 4) da_nil)))))))))
    (dss_one (ds_ret (de_var 2)))))
set_option maxHeartbeats 0 in
theorem ok_L_skin (B : Bi mg) (C : Ks K mg) {f : Addr} {fd : FuncData} (F : Fun K "_law_skin" "_law_skin" s_L_skin f fd) (gm : mg "_law_skin" = some (.ref f)) (hb : Binds K fd ["_law_hand_here", "_law_many_here"] []) (F_L_left : Fn P w K mg base 1 "_law_left" 2 c_L_left) (F_L_pick : Fn P w K mg base 2 "_law_pick" 2 c_L_pick) (F_L_take : Fn P w K mg base 1 "_law_take" 2 c_L_take) : Fn P w K mg base 3 "_law_skin" 2 m_L_skin := by
  refine fn_mk (N := N_L_skin) (fb := b_L_skin) F sc_L_skin gm hb fun cdv A outer s H E hr => ?_
  have hu := hu_ofG hr
  exact (dss_cons (ds_setLc (i := 2) (own := [("_law_f", 3)]) rfl sc_L_skin.nd rfl rfl (sw_true rfl rfl rfl (by decide +kernel)) (di_range1 (by rfl) B.z_range (da_cons (de_var 1) da_nil)) (blkOk_by (N := N_L_skin) (sc := defScope s_L_skin) (by decide +kernel)) (fun _ _ _ _ _ => (dg_name (i := 3) sc_L_skin.nd rfl (by first | exact Or.inl rfl | exact Or.inr rfl))) (fun _ _ _ _ _ => dts_nil) (fun _ _ _ _ _ => (de_new (le_rep (le_lst (da_cons de_non da_nil)) de_int))))
    (dss_cons (ds_for PassesOwn.never rfl (di_range2 (by rfl) B.z_range (da_cons de_int (da_cons (de_var 1) da_nil))) (dg_name (i := 3) sc_L_skin.nd rfl (by first | exact Or.inl rfl | exact Or.inr rfl)) (dss_cons (ds_asg (de_callF (F_L_pick.mono (by decide)) hr (by rfl) (da_cons (de_var 0) (da_cons (de_callF (F_L_left.mono (by decide)) hr (by rfl) (da_cons (de_var 2) (da_cons (de_var 3) da_nil))) da_nil))) (dg_tup rfl (dgs_cons (dg_name (i := 4) sc_L_skin.nd rfl (by first | exact Or.inl rfl | exact Or.inr rfl)) (dgs_cons (dg_name (i := 5) sc_L_skin.nd rfl (by first | exact Or.inl rfl | exact Or.inr rfl)) dgs_nil))))
    (dss_cons (ds_set (i := 6) sc_L_skin.nd rfl (by first | exact Or.inl rfl | exact Or.inr rfl) (de_callF (F_L_take.mono (by decide)) hr (by rfl) (da_cons (de_var 0) (da_cons de_int da_nil))))
    (dss_one (ds_asgM (de_tup (da_cons (de_tup (da_cons (de_var 4) (da_cons (de_var 5) da_nil))) (da_cons (de_tup (da_cons (de_var 3) (da_cons (de_var 6) da_nil))) da_nil))) (dm_tup rfl (dms_cons (dm_sub hu (de_ix hu (de_var 2) (de_var 3)) (de_var 6)) (dms_cons (dm_sub hu (de_ix hu (de_var 2) (de_var 4)) (de_var 5)) dms_nil))))))))
    (dss_cons (ds_set (i := 7) sc_L_skin.nd rfl (by first | exact Or.inl rfl | exact Or.inr rfl) (de_callF (F_L_left.mono (by decide)) hr (by rfl) (da_cons (de_var 2) (da_cons (de_var 1) da_nil))))
    (dss_cons (ds_while 1000000 PassesOwn.never (dt_cmpL (o_neL hr.units) (de_var 7) (le_lst da_nil) (nomark _)) (dss_cons (ds_asg (de_lm PySem.F.slot_list_pop PySem.F.type_list_pop t_popAt (de_var 7) (da_cons de_int da_nil)) (dg_tup rfl (dgs_cons (dg_name (i := 3) sc_L_skin.nd rfl (by first | exact Or.inl rfl | exact Or.inr rfl)) (dgs_cons (dg_name (i := 6) sc_L_skin.nd rfl (by first | exact Or.inl rfl | exact Or.inr rfl)) dgs_nil))))
    (dss_cons (ds_asg (de_lm PySem.F.slot_list_pop PySem.F.type_list_pop t_popAt (de_var 7) (da_cons (de_callF (F_L_take.mono (by decide)) hr (by rfl) (da_cons (de_var 0) (da_cons (de_callB c_len (by rfl) B.z_len bb_len (da_cons (de_var 7) da_nil)) da_nil))) da_nil)) (dg_tup rfl (dgs_cons (dg_name (i := 4) sc_L_skin.nd rfl (by first | exact Or.inl rfl | exact Or.inr rfl)) (dgs_cons (dg_name (i := 5) sc_L_skin.nd rfl (by first | exact Or.inl rfl | exact Or.inr rfl)) dgs_nil))))
    (dss_one (ds_asgM (de_tup (da_cons (de_tup (da_cons (de_var 4) (da_cons (de_var 5) da_nil))) (da_cons (de_tup (da_cons (de_var 3) (da_cons (de_var 6) da_nil))) da_nil))) (dm_tup rfl (dms_cons (dm_sub hu (de_ix hu (de_var 2) (de_var 3)) (de_var 6)) (dms_cons (dm_sub hu (de_ix hu (de_var 2) (de_var 4)) (de_var 5)) dms_nil))))))))
    (dss_one (ds_ret (de_callTyL n_tuple (by rfl) B.z_tuple bb_tuple (le_lc (own := [("_law_row", 8)]) rfl sc_L_skin.nd (di_seq (de_var 2)) (blkOk_by (N := N_L_skin) (sc := defScope s_L_skin) (by decide +kernel)) (fun _ _ _ _ _ => (dg_name (i := 8) sc_L_skin.nd rfl (by first | exact Or.inl rfl | exact Or.inr rfl))) (fun _ _ _ _ _ => dts_nil) (fun _ _ _ _ _ => (de_callTy c_tuple (by rfl) B.z_tuple bb_tuple (da_cons (de_var 8) da_nil)))))))))))
set_option maxHeartbeats 0 in
theorem ok_L_many (B : Bi mg) (C : Ks K mg) {f : Addr} {fd : FuncData} (F : Fun K "_law_many" "_law_many" s_L_many f fd) (gm : mg "_law_many" = some (.ref f)) (hb : Binds K fd ["_law_hand_here"] []) (F_L_pick : Fn P w K mg base 2 "_law_pick" 2 c_L_pick) (F_L_take : Fn P w K mg base 1 "_law_take" 2 c_L_take) : Fn P w K mg base 3 "_law_many" 1 m_L_many := by
  refine fn_mk (N := N_L_many) (fb := b_L_many) F sc_L_many gm hb fun cdv A outer s H E hr => ?_
  have hu := hu_ofG hr
  exact (dss_one (ds_ret (de_callF (F_L_pick.mono (by decide)) hr (by rfl) (da_cons (de_var 0) (da_cons (de_new (le_lst (da_cons de_int (da_cons de_int (da_cons de_int (da_cons de_int (da_cons de_int (da_cons de_int (da_cons de_int (da_cons (de_op o_add de_int (de_callF (F_L_take.mono (by decide)) hr (by rfl) (da_cons (de_var 0) (da_cons de_int da_nil)))) da_nil)))))))))) da_nil)))))
set_option maxHeartbeats 0 in
theorem ok_L_seams (B : Bi mg) (C : Ks K mg) {f : Addr} {fd : FuncData} (F : Fun K "_law_seams" "_law_seams" s_L_seams f fd) (gm : mg "_law_seams" = some (.ref f)) (hb : Binds K fd ["_law_skin_here"] []) : Fn P w K mg base 1 "_law_seams" 1 m_L_seams := by
  refine fn_mk (N := N_L_seams) (fb := b_L_seams) F sc_L_seams gm hb fun cdv A outer s H E hr => ?_
  have hu := hu_ofG hr
  exact (dss_cons (ds_set (i := 1) sc_L_seams.nd rfl (by first | exact Or.inl rfl | exact Or.inr rfl) (de_new (le_lst da_nil)))
    (dss_cons (ds_for PassesOwn.never rfl (di_enum (by rfl) B.z_enumerate (de_var 0)) (dg_tup rfl (dgs_cons (dg_name (i := 2) sc_L_seams.nd rfl (by first | exact Or.inl rfl | exact Or.inr rfl)) (dgs_cons (dg_name (i := 3) sc_L_seams.nd rfl (by first | exact Or.inl rfl | exact Or.inr rfl)) dgs_nil))) (dss_one (ds_for PassesOwn.never rfl (di_enum (by rfl) B.z_enumerate (de_var 3)) (dg_tup rfl (dgs_cons (dg_name (i := 4) sc_L_seams.nd rfl (by first | exact Or.inl rfl | exact Or.inr rfl)) (dgs_cons (dg_tup rfl (dgs_cons (dg_name (i := 5) sc_L_seams.nd rfl (by first | exact Or.inl rfl | exact Or.inr rfl)) (dgs_cons (dg_name (i := 6) sc_L_seams.nd rfl (by first | exact Or.inl rfl | exact Or.inr rfl)) dgs_nil))) dgs_nil))) (dss_one (ds_if (dt_cmp (o_lt hr.units0) (de_tup (da_cons (de_var 2) (da_cons (de_var 4) da_nil))) (de_tup (da_cons (de_var 5) (da_cons (de_var 6) da_nil))) (nomark _)) (dss_one (ds_expr (de_lm PySem.F.slot_list_append PySem.F.type_list_append t_append (de_var 1) (da_cons (de_tup (da_cons (de_var 2) (da_cons (de_var 4) (da_cons (de_var 5) (da_cons (de_var 6) da_nil))))) da_nil)))) dss_nil)))))
    (dss_one (ds_ret (de_var 1)))))
set_option maxHeartbeats 0 in
theorem ok_L_tree (B : Bi mg) (C : Ks K mg) {f : Addr} {fd : FuncData} (F : Fun K "_law_tree" "_law_tree" s_L_tree f fd) (gm : mg "_law_tree" = some (.ref f)) (hb : Binds K fd ["_law_hand_here", "_law_skin_here"] []) (F_L_seams : Fn P w K mg base 1 "_law_seams" 1 c_L_seams) (F_L_take : Fn P w K mg base 1 "_law_take" 2 c_L_take) : Fn P w K mg base 2 "_law_tree" 2 m_L_tree := by
  refine fn_mk (N := N_L_tree) (fb := b_L_tree) F sc_L_tree gm hb fun cdv A outer s H E hr => ?_
  have hu := hu_ofG hr
  exact (dss_cons (ds_set (i := 2) sc_L_tree.nd rfl (by first | exact Or.inl rfl | exact Or.inr rfl) (de_new (le_listEnum rfl (by rfl) B.z_list (by rfl) B.z_enumerate (de_callF (F_L_seams.mono (by decide)) hr (by rfl) (da_cons (de_var 1) da_nil)))))
    (dss_cons (ds_set (i := 3) sc_L_tree.nd rfl (by first | exact Or.inl rfl | exact Or.inr rfl) (de_new (le_listRg1 rfl (by rfl) B.z_list (by rfl) B.z_range (de_callB c_len (by rfl) B.z_len bb_len (da_cons (de_var 1) da_nil)))))
    (dss_cons (ds_set (i := 4) sc_L_tree.nd rfl (by first | exact Or.inl rfl | exact Or.inr rfl) (de_new (le_lst da_nil)))
    (dss_cons (ds_while 1000000 PassesOwn.never (dt_cmpL (o_neL hr.units) (de_var 2) (le_lst da_nil) (nomark _)) (dss_cons (ds_asg (de_lm PySem.F.slot_list_pop PySem.F.type_list_pop t_popAt (de_var 2) (da_cons (de_callF (F_L_take.mono (by decide)) hr (by rfl) (da_cons (de_var 0) (da_cons (de_callB c_len (by rfl) B.z_len bb_len (da_cons (de_var 2) da_nil)) da_nil))) da_nil)) (dg_tup rfl (dgs_cons (dg_name (i := 5) sc_L_tree.nd rfl (by first | exact Or.inl rfl | exact Or.inr rfl)) (dgs_cons (dg_tup rfl (dgs_cons (dg_name (i := 6) sc_L_tree.nd rfl (by first | exact Or.inl rfl | exact Or.inr rfl)) (dgs_cons (dg_name (i := 7) sc_L_tree.nd rfl (by first | exact Or.inl rfl | exact Or.inr rfl)) (dgs_cons (dg_name (i := 8) sc_L_tree.nd rfl (by first | exact Or.inl rfl | exact Or.inr rfl)) (dgs_cons (dg_name (i := 9) sc_L_tree.nd rfl (by first | exact Or.inl rfl | exact Or.inr rfl)) dgs_nil))))) dgs_nil))))
    (dss_one (ds_if (dt_cmp (o_ne hr.units) (de_ix hu (de_var 3) (de_var 6)) (de_ix hu (de_var 3) (de_var 8)) (nomark _)) (dss_cons (ds_asg (de_tup (da_cons (de_ix hu (de_var 3) (de_var 6)) (da_cons (de_ix hu (de_var 3) (de_var 8)) da_nil))) (dg_tup rfl (dgs_cons (dg_name (i := 10) sc_L_tree.nd rfl (by first | exact Or.inl rfl | exact Or.inr rfl)) (dgs_cons (dg_name (i := 11) sc_L_tree.nd rfl (by first | exact Or.inl rfl | exact Or.inr rfl)) dgs_nil))))
    (dss_cons (ds_setLc (i := 3) (own := [("_law_one", 12)]) rfl sc_L_tree.nd rfl rfl (sw_true rfl rfl rfl (by decide +kernel)) (di_seq (de_var 3)) (blkOk_by (N := N_L_tree) (sc := defScope s_L_tree) (by decide +kernel)) (fun _ _ _ _ _ => (dg_name (i := 12) sc_L_tree.nd rfl (by first | exact Or.inl rfl | exact Or.inr rfl))) (fun _ _ _ _ _ => dts_nil) (fun _ _ _ _ _ => (de_ifExp (dt_cmp (o_eq hr.units) (de_var 12) (de_var 10) (nomark _)) (de_var 11) (de_var 12))))
    (dss_one (ds_expr (de_lm PySem.F.slot_list_append PySem.F.type_list_append t_append (de_var 4) (da_cons (de_var 5) da_nil)))))) dss_nil))))
    (dss_one (ds_ret (de_callTyL n_tuple (by rfl) B.z_tuple bb_tuple (le_sorted rfl hr.units (by rfl) B.z_sorted bb_sorted (de_var 4)))))))))
set_option maxHeartbeats 0 in
theorem ok_L_next (B : Bi mg) (C : Ks K mg) {f : Addr} {fd : FuncData} (F : Fun K "_law_next" "_law_next" s_L_next f fd) (gm : mg "_law_next" = some (.ref f)) (hb : Binds K fd ["_law_place", "_law_side", "_law_back"] []) : Fn P w K mg base 1 "_law_next" 3 m_L_next := by
  refine fn_mk (N := N_L_next) (fb := b_L_next) F sc_L_next gm hb fun cdv A outer s H E hr => ?_
  have hu := hu_ofG hr
  exact (dss_cons (ds_asg (de_var 0) (dg_tup rfl (dgs_cons (dg_name (i := 3) sc_L_next.nd rfl (by first | exact Or.inl rfl | exact Or.inr rfl)) (dgs_cons (dg_name (i := 4) sc_L_next.nd rfl (by first | exact Or.inl rfl | exact Or.inr rfl)) (dgs_cons (dg_name (i := 5) sc_L_next.nd rfl (by first | exact Or.inl rfl | exact Or.inr rfl)) dgs_nil)))))
    (dss_cons (ds_set (i := 6) sc_L_next.nd rfl (by first | exact Or.inl rfl | exact Or.inr rfl) (de_op o_mod (de_op o_add (de_var 1) (de_var 5)) de_int))
    (dss_one (ds_ret (de_tup (da_cons (de_op o_add (de_var 3) (de_ix hu (de_new (le_lst (da_cons de_int (da_cons de_int (da_cons (de_un u_neg de_int) (da_cons de_int da_nil)))))) (de_var 6))) (da_cons (de_op o_add (de_var 4) (de_ix hu (de_new (le_lst (da_cons de_int (da_cons de_int (da_cons de_int (da_cons (de_un u_neg de_int) da_nil)))))) (de_var 6))) (da_cons (de_op o_mod (de_op o_sub (de_op o_add (de_var 6) de_int) (de_var 2)) de_int) da_nil))))))))
set_option maxHeartbeats 0 in
theorem ok_L_places (B : Bi mg) (C : Ks K mg) {f : Addr} {fd : FuncData} (F : Fun K "_law_places" "_law_places" s_L_places f fd) (gm : mg "_law_places" = some (.ref f)) (hb : Binds K fd ["_law_skin_here", "_law_some", "_law_first"] []) (F_L_next : Fn P w K mg base 1 "_law_next" 3 c_L_next) (F_L_seams : Fn P w K mg base 1 "_law_seams" 1 c_L_seams) : Fn P w K mg base 2 "_law_places" 3 m_L_places := by
  refine fn_mk (N := N_L_places) (fb := b_L_places) F sc_L_places gm hb fun cdv A outer s H E hr => ?_
  have hu := hu_ofG hr
  exact (dss_cons (ds_set (i := 3) sc_L_places.nd rfl (by first | exact Or.inl rfl | exact Or.inr rfl) (de_callF (F_L_seams.mono (by decide)) hr (by rfl) (da_cons (de_var 0) da_nil)))
    (dss_cons (ds_set (i := 4) sc_L_places.nd rfl (by first | exact Or.inl rfl | exact Or.inr rfl) (de_dict hr.units (dp_cons (de_var 2) (de_tup (da_cons de_int (da_cons de_int (da_cons de_int da_nil)))) dp_nil)))
    (dss_cons (ds_for PassesOwn.never rfl (di_range1 (by rfl) B.z_range (da_cons (de_callB c_len (by rfl) B.z_len bb_len (da_cons (de_var 0) da_nil)) da_nil)) (dg_name (i := 5) sc_L_places.nd rfl (by first | exact Or.inl rfl | exact Or.inr rfl)) (dss_one (ds_for PassesOwn.never rfl (di_seq (de_var 1)) (dg_name (i := 6) sc_L_places.nd rfl (by first | exact Or.inl rfl | exact Or.inr rfl)) (dss_cons (ds_asg (de_ix hu (de_var 3) (de_var 6)) (dg_tup rfl (dgs_cons (dg_name (i := 7) sc_L_places.nd rfl (by first | exact Or.inl rfl | exact Or.inr rfl)) (dgs_cons (dg_name (i := 8) sc_L_places.nd rfl (by first | exact Or.inl rfl | exact Or.inr rfl)) (dgs_cons (dg_name (i := 9) sc_L_places.nd rfl (by first | exact Or.inl rfl | exact Or.inr rfl)) (dgs_cons (dg_name (i := 10) sc_L_places.nd rfl (by first | exact Or.inl rfl | exact Or.inr rfl)) dgs_nil))))))
    (dss_one (ds_if (dt_w (dw_and (dt_cmp (o_in hr.units65) (de_var 7) (de_var 4) rfl) (dw_and1 (dt_cmp (o_notIn hr.units65) (de_var 9) (de_var 4) rfl)))) (dss_one (ds_store hu (de_callF (F_L_next.mono (by decide)) hr (by rfl) (da_cons (de_ix hu (de_var 4) (de_var 7)) (da_cons (de_var 8) (da_cons (de_var 10) da_nil)))) (de_var 4) (de_var 9))) (dss_one (ds_if (dt_w (dw_and (dt_cmp (o_in hr.units65) (de_var 9) (de_var 4) rfl) (dw_and1 (dt_cmp (o_notIn hr.units65) (de_var 7) (de_var 4) rfl)))) (dss_one (ds_store hu (de_callF (F_L_next.mono (by decide)) hr (by rfl) (da_cons (de_ix hu (de_var 4) (de_var 9)) (da_cons (de_var 10) (da_cons (de_var 8) da_nil)))) (de_var 4) (de_var 7))) dss_nil))))))))
    (dss_one (ds_ret (de_var 4))))))
set_option maxHeartbeats 0 in
theorem ok_L_at_home (B : Bi mg) (C : Ks K mg) {f : Addr} {fd : FuncData} (F : Fun K "_law_at_home" "_law_at_home" s_L_at_home f fd) (gm : mg "_law_at_home" = some (.ref f)) (hb : Binds K fd ["_law_some"] []) : Fn P w K mg base 1 "_law_at_home" 1 m_L_at_home := by
  refine fn_mk (N := N_L_at_home) (fb := b_L_at_home) F sc_L_at_home gm hb fun cdv A outer s H E hr => ?_
  have hu := hu_ofG hr
  exact (dss_cons (ds_asg (de_tup (da_cons (de_callBL (n_min rfl) (by rfl) B.z_min bb_min (le_lc (own := [("_law_x", 3), ("_law_y", 4)]) rfl sc_L_at_home.nd (di_seq (de_var 0)) (blkOk_by (N := N_L_at_home) (sc := defScope s_L_at_home) (by decide +kernel)) (fun _ _ _ _ _ => (dg_tup rfl (dgs_cons (dg_name (i := 3) sc_L_at_home.nd rfl (by first | exact Or.inl rfl | exact Or.inr rfl)) (dgs_cons (dg_name (i := 4) sc_L_at_home.nd rfl (by first | exact Or.inl rfl | exact Or.inr rfl)) dgs_nil)))) (fun _ _ _ _ _ => dts_nil) (fun _ _ _ _ _ => (de_var 3)))) (da_cons (de_callBL (n_min rfl) (by rfl) B.z_min bb_min (le_lc (own := [("_law_x", 3), ("_law_y", 4)]) rfl sc_L_at_home.nd (di_seq (de_var 0)) (blkOk_by (N := N_L_at_home) (sc := defScope s_L_at_home) (by decide +kernel)) (fun _ _ _ _ _ => (dg_tup rfl (dgs_cons (dg_name (i := 3) sc_L_at_home.nd rfl (by first | exact Or.inl rfl | exact Or.inr rfl)) (dgs_cons (dg_name (i := 4) sc_L_at_home.nd rfl (by first | exact Or.inl rfl | exact Or.inr rfl)) dgs_nil)))) (fun _ _ _ _ _ => dts_nil) (fun _ _ _ _ _ => (de_var 4)))) da_nil))) (dg_tup rfl (dgs_cons (dg_name (i := 1) sc_L_at_home.nd rfl (by first | exact Or.inl rfl | exact Or.inr rfl)) (dgs_cons (dg_name (i := 2) sc_L_at_home.nd rfl (by first | exact Or.inl rfl | exact Or.inr rfl)) dgs_nil))))
    (dss_one (ds_ret (de_callTyL n_tuple (by rfl) B.z_tuple bb_tuple (le_sortedL hr.units (by rfl) B.z_sorted bb_sorted (le_lc (own := [("_law_x", 3), ("_law_y", 4)]) rfl sc_L_at_home.nd (di_seq (de_var 0)) (blkOk_by (N := N_L_at_home) (sc := defScope s_L_at_home) (by decide +kernel)) (fun _ _ _ _ _ => (dg_tup rfl (dgs_cons (dg_name (i := 3) sc_L_at_home.nd rfl (by first | exact Or.inl rfl | exact Or.inr rfl)) (dgs_cons (dg_name (i := 4) sc_L_at_home.nd rfl (by first | exact Or.inl rfl | exact Or.inr rfl)) dgs_nil)))) (fun _ _ _ _ _ => dts_nil) (fun _ _ _ _ _ => (de_tup (da_cons (de_op o_sub (de_var 3) (de_var 1)) (da_cons (de_op o_sub (de_var 4) (de_var 2)) da_nil))))))))))
set_option maxHeartbeats 0 in
theorem ok1_L_same (d : Nat) (B : Bi mg) (C : Ks K mg) {f : Addr} {fd : FuncData} (F : Fun K "_law_same" "_law_same" s_L_same f fd) (gm : mg "_law_same" = some (.ref f)) (hb : Binds K fd ["_law_one", "_law_two"] []) (F_rec : Fn P w K mg base (0 + d) "_law_same" 2 (m_L_same d)) : Fn P w K mg base (0 + d + 1) "_law_same" 2 (m_L_same (d + 1)) := by
  refine fn_mk (N := N_L_same) (fb := b_L_same (m_L_same d)) F sc_L_same gm hb fun cdv A outer s H E hr => ?_
  have hu := hu_ofG hr
  exact (dss_cons (ds_if (dt_val (de_isi (T := "tuple") (by rfl) B.z_isinstance bb_isinstance (de_var 0) (by rfl) B.z_tuple bb_tuple)) (dss_one (ds_ret (de_and (de_isi (T := "tuple") (by rfl) B.z_isinstance bb_isinstance (de_var 1) (by rfl) B.z_tuple bb_tuple) (de_and (de_cmp (o_eq hr.units) (de_callB c_len (by rfl) B.z_len bb_len (da_cons (de_var 0) da_nil)) (de_callB c_len (by rfl) B.z_len bb_len (da_cons (de_var 1) da_nil)) (nomark _)) (de_one (de_callBL (n_all rfl) (by rfl) B.z_all bb_all (le_lc (own := [("_law_a", 2), ("_law_b", 3)]) rfl sc_L_same.nd (di_zip (by rfl) B.z_zip (de_var 0) (de_var 1)) (blkOk_by (N := N_L_same) (sc := defScope s_L_same) (by decide +kernel)) (fun _ _ _ _ _ => (dg_tup rfl (dgs_cons (dg_name (i := 2) sc_L_same.nd rfl (by first | exact Or.inl rfl | exact Or.inr rfl)) (dgs_cons (dg_name (i := 3) sc_L_same.nd rfl (by first | exact Or.inl rfl | exact Or.inr rfl)) dgs_nil)))) (fun _ _ _ _ _ => dts_nil) (fun _ _ _ _ _ => (de_callF (F_rec.mono (by omega)) hr (by rfl) (da_cons (de_var 2) (da_cons (de_var 3) da_nil))))))))))) dss_nil)
    (dss_cons (ds_if (dt_val (de_isi (T := "list") (by rfl) B.z_isinstance bb_isinstance (de_var 0) (by rfl) B.z_list bb_list)) (dss_one (ds_ret (de_and (de_isi (T := "list") (by rfl) B.z_isinstance bb_isinstance (de_var 1) (by rfl) B.z_list bb_list) (de_and (de_cmp (o_eq hr.units) (de_callB c_len (by rfl) B.z_len bb_len (da_cons (de_var 0) da_nil)) (de_callB c_len (by rfl) B.z_len bb_len (da_cons (de_var 1) da_nil)) (nomark _)) (de_one (de_callBL (n_all rfl) (by rfl) B.z_all bb_all (le_lc (own := [("_law_a", 2), ("_law_b", 3)]) rfl sc_L_same.nd (di_zip (by rfl) B.z_zip (de_var 0) (de_var 1)) (blkOk_by (N := N_L_same) (sc := defScope s_L_same) (by decide +kernel)) (fun _ _ _ _ _ => (dg_tup rfl (dgs_cons (dg_name (i := 2) sc_L_same.nd rfl (by first | exact Or.inl rfl | exact Or.inr rfl)) (dgs_cons (dg_name (i := 3) sc_L_same.nd rfl (by first | exact Or.inl rfl | exact Or.inr rfl)) dgs_nil)))) (fun _ _ _ _ _ => dts_nil) (fun _ _ _ _ _ => (de_callF (F_rec.mono (by omega)) hr (by rfl) (da_cons (de_var 2) (da_cons (de_var 3) da_nil))))))))))) dss_nil)
    (dss_cons (ds_if (dt_w (dw_or (dt_val (de_isi (T := "bool") (by rfl) B.z_isinstance bb_isinstance (de_var 0) (by rfl) B.z_bool bb_bool)) (dw_or1 (dt_val (de_isi (T := "int") (by rfl) B.z_isinstance bb_isinstance (de_var 0) (by rfl) B.z_int bb_int))))) (dss_one (ds_ret (de_and (de_isi (T := "int") (by rfl) B.z_isinstance bb_isinstance (de_var 1) (by rfl) B.z_int bb_int) (de_and (de_cmp (o_eq hr.units) (de_isi (T := "bool") (by rfl) B.z_isinstance bb_isinstance (de_var 0) (by rfl) B.z_bool bb_bool) (de_isi (T := "bool") (by rfl) B.z_isinstance bb_isinstance (de_var 1) (by rfl) B.z_bool bb_bool) (nomark _)) (de_one (de_cmp (o_eq hr.units) (de_var 0) (de_var 1) (nomark _))))))) dss_nil)
    (dss_one (ds_ret (de_cmp (o_eq hr.units) (de_var 0) (de_var 1) (nomark _)))))))
theorem ok_L_same (B : Bi mg) (C : Ks K mg) {f : Addr} {fd : FuncData} (F : Fun K "_law_same" "_law_same" s_L_same f fd) (gm : mg "_law_same" = some (.ref f)) (hb : Binds K fd ["_law_one", "_law_two"] []) : Fn P w K mg base 8 "_law_same" 2 (m_L_same 8) := by
  have go : ∀ d, Fn P w K mg base (0 + d) "_law_same" 2 (m_L_same d) := by
    intro d
    induction d with
    | zero => exact fn_none gm F.kp hb
    | succ d ih => exact ok1_L_same d B C F gm hb ih
  exact go 8
set_option maxHeartbeats 0 in
theorem ok_L_four (B : Bi mg) (C : Ks K mg) {f : Addr} {fd : FuncData} (F : Fun K "_law_four" "_law_four" s_L_four f fd) (gm : mg "_law_four" = some (.ref f)) (hb : Binds K fd ["_law_some"] []) (F_L_at_home : Fn P w K mg base 1 "_law_at_home" 1 c_L_at_home) : Fn P w K mg base 2 "_law_four" 1 m_L_four := by
  refine fn_mk (N := N_L_four) (fb := b_L_four) F sc_L_four gm hb fun cdv A outer s H E hr => ?_
  have hu := hu_ofG hr
  exact (dss_cons (ds_set (i := 1) sc_L_four.nd rfl (by first | exact Or.inl rfl | exact Or.inr rfl) (de_new (le_lst da_nil)))
    (dss_cons (ds_for PassesOwn.never rfl (di_le (le_lst (da_cons (de_tup (da_cons de_int (da_cons de_int da_nil))) (da_cons (de_tup (da_cons de_int (da_cons de_int da_nil))) (da_cons (de_tup (da_cons (de_un u_neg de_int) (da_cons de_int da_nil))) (da_cons (de_tup (da_cons de_int (da_cons (de_un u_neg de_int) da_nil))) da_nil)))))) (dg_tup rfl (dgs_cons (dg_name (i := 2) sc_L_four.nd rfl (by first | exact Or.inl rfl | exact Or.inr rfl)) (dgs_cons (dg_name (i := 3) sc_L_four.nd rfl (by first | exact Or.inl rfl | exact Or.inr rfl)) dgs_nil))) (dss_one (ds_expr (de_lm PySem.F.slot_list_append PySem.F.type_list_append t_append (de_var 1) (da_cons (de_callF (F_L_at_home.mono (by decide)) hr (by rfl) (da_cons (de_new (le_lc (own := [("_law_x", 4), ("_law_y", 5)]) rfl sc_L_four.nd (di_seq (de_var 0)) (blkOk_by (N := N_L_four) (sc := defScope s_L_four) (by decide +kernel)) (fun _ _ _ _ _ => (dg_tup rfl (dgs_cons (dg_name (i := 4) sc_L_four.nd rfl (by first | exact Or.inl rfl | exact Or.inr rfl)) (dgs_cons (dg_name (i := 5) sc_L_four.nd rfl (by first | exact Or.inl rfl | exact Or.inr rfl)) dgs_nil)))) (fun _ _ _ _ _ => dts_nil) (fun _ _ _ _ _ => (de_tup (da_cons (de_op o_sub (de_op o_mul (de_var 2) (de_var 4)) (de_op o_mul (de_var 3) (de_var 5))) (da_cons (de_op o_add (de_op o_mul (de_var 3) (de_var 4)) (de_op o_mul (de_var 2) (de_var 5))) da_nil)))))) da_nil)) da_nil)))))
    (dss_one (ds_ret (de_var 1)))))
set_option maxHeartbeats 0 in
theorem ok_L_drawn (B : Bi mg) (C : Ks K mg) {f : Addr} {fd : FuncData} (F : Fun K "_law_drawn" "_law_drawn" s_L_drawn f fd) (gm : mg "_law_drawn" = some (.ref f)) (hb : Binds K fd ["_law_hand_here"] []) (F_L_pick : Fn P w K mg base 2 "_law_pick" 2 c_L_pick) (F_L_take : Fn P w K mg base 1 "_law_take" 2 c_L_take) : Fn P w K mg base 3 "_law_drawn" 1 m_L_drawn := by
  refine fn_mk (N := N_L_drawn) (fb := b_L_drawn) F sc_L_drawn gm hb fun cdv A outer s H E hr => ?_
  have hu := hu_ofG hr
  exact (dss_cons (ds_set (i := 1) sc_L_drawn.nd rfl (by first | exact Or.inl rfl | exact Or.inr rfl) (de_dict hr.units (dp_cons (de_tup (da_cons (de_op o_sub (de_callF (F_L_take.mono (by decide)) hr (by rfl) (da_cons (de_var 0) (da_cons de_int da_nil))) de_int) (da_cons (de_op o_sub (de_callF (F_L_take.mono (by decide)) hr (by rfl) (da_cons (de_var 0) (da_cons de_int da_nil))) de_int) da_nil))) de_bl dp_nil)))
    (dss_cons (ds_for PassesOwn.never rfl (di_range1 (by rfl) B.z_range (da_cons (de_callF (F_L_pick.mono (by decide)) hr (by rfl) (da_cons (de_var 0) (da_cons (de_new (le_lst (da_cons de_int (da_cons de_int (da_cons de_int (da_cons de_int (da_cons de_int (da_cons de_int (da_cons de_int (da_cons de_int da_nil)))))))))) da_nil))) da_nil)) (dg_name (i := 2) sc_L_drawn.nd rfl (by first | exact Or.inl rfl | exact Or.inr rfl)) (dss_cons (ds_asg (de_callF (F_L_pick.mono (by decide)) hr (by rfl) (da_cons (de_var 0) (da_cons (de_new (le_sorted rfl hr.units (by rfl) B.z_sorted bb_sorted (de_var 1))) da_nil))) (dg_tup rfl (dgs_cons (dg_name (i := 3) sc_L_drawn.nd rfl (by first | exact Or.inl rfl | exact Or.inr rfl)) (dgs_cons (dg_name (i := 4) sc_L_drawn.nd rfl (by first | exact Or.inl rfl | exact Or.inr rfl)) dgs_nil))))
    (dss_cons (ds_set (i := 5) sc_L_drawn.nd rfl (by first | exact Or.inl rfl | exact Or.inr rfl) (de_callF (F_L_take.mono (by decide)) hr (by rfl) (da_cons (de_var 0) (da_cons de_int da_nil))))
    (dss_cons (ds_set (i := 6) sc_L_drawn.nd rfl (by first | exact Or.inl rfl | exact Or.inr rfl) (de_op o_add de_int (de_op o_mul de_int (de_callTy c_int (by rfl) B.z_int bb_int (da_cons (de_cmp (o_eq hr.units) (de_callF (F_L_take.mono (by decide)) hr (by rfl) (da_cons (de_var 0) (da_cons de_int da_nil))) de_int (nomark _)) da_nil)))))
    (dss_one (ds_store hu de_bl (de_var 1) (de_tup (da_cons (de_op o_add (de_var 3) (de_op o_mul (de_var 6) (de_ix hu (de_new (le_lst (da_cons de_int (da_cons de_int (da_cons (de_un u_neg de_int) (da_cons de_int da_nil)))))) (de_var 5)))) (da_cons (de_op o_add (de_var 4) (de_op o_mul (de_var 6) (de_ix hu (de_new (le_lst (da_cons de_int (da_cons de_int (da_cons de_int (da_cons (de_un u_neg de_int) da_nil)))))) (de_var 5)))) da_nil)))))))))
    (dss_one (ds_ret (de_callTyL n_tuple (by rfl) B.z_tuple bb_tuple (le_sorted rfl hr.units (by rfl) B.z_sorted bb_sorted (de_var 1)))))))

end

set_option maxHeartbeats 0 in
theorem body_law {P : Program} {w : World} {K : PySem.W.Frag} {mg : Str → Option Value} {base : Heap} (B : Bi mg) (C : Ks K mg)  (F_L_at_home : Fn P w K mg base 1 "_law_at_home" 1 c_L_at_home) (F_L_drawn : Fn P w K mg base 3 "_law_drawn" 1 c_L_drawn) (F_L_four : Fn P w K mg base 2 "_law_four" 1 c_L_four) (F_L_hand : Fn P w K mg base 1 "_law_hand" 2 c_L_hand) (F_L_many : Fn P w K mg base 3 "_law_many" 1 c_L_many) (F_L_places : Fn P w K mg base 2 "_law_places" 3 c_L_places) (F_L_same : Fn P w K mg base 8 "_law_same" 2 c_L_same) (F_L_skin : Fn P w K mg base 3 "_law_skin" 2 c_L_skin) (F_L_tree : Fn P w K mg base 2 "_law_tree" 2 c_L_tree) (F_least_squares : Fn P w K mg base 2 "least_squares" 1 c_least_squares) (F_squares : Fn P w K mg base 5 "squares" 2 c_squares) {f : Addr} {cdv : Value} {A : Around} {outer : List Env} {s : Shared} {H : Hp} {E : XK}
    (hr : RoomG 8 (A.deeper (PyProof.Rows.envOfC "law" (defScope s_law) s.heap.objs.size f cdv))) : DSs (cxOf CX0 P w K mg base N_law "law" (defScope s_law) f cdv A outer s H E).nox (defBody s_law) b_law := by
  have hu := hu_ofG hr
  exact (dss_cons (ds_for PassesOwn.never rfl (di_range1 (by rfl) B.z_range (da_cons (de_callB (c_max2 rfl) (by rfl) B.z_max bb_max (da_cons de_int (da_cons (de_callB (c_min2 rfl) (by rfl) B.z_min bb_min (da_cons (de_callB c_len (by rfl) B.z_len bb_len (da_cons (de_var 0) da_nil)) (da_cons de_int da_nil))) da_nil))) da_nil)) (dg_name (i := 1) sc_law.nd rfl (by first | exact Or.inl rfl | exact Or.inr rfl)) (dss_cons (ds_set (i := 2) sc_law.nd rfl (by first | exact Or.inl rfl | exact Or.inr rfl) (de_callF (F_L_hand.mono (by decide)) hr (by rfl) (da_cons (de_var 0) (da_cons (de_var 1) da_nil))))
    (dss_cons (ds_set (i := 3) sc_law.nd rfl (by first | exact Or.inl rfl | exact Or.inr rfl) (de_callF (F_L_skin.mono (by decide)) hr (by rfl) (da_cons (de_var 2) (da_cons (de_callF (F_L_many.mono (by decide)) hr (by rfl) (da_cons (de_var 2) da_nil)) da_nil))))
    (dss_one (ds_for PassesOwn.never rfl (di_range1 (by rfl) B.z_range (da_cons de_int da_nil)) (dg_name (i := 4) sc_law.nd rfl (by first | exact Or.inl rfl | exact Or.inr rfl)) (dss_cons (ds_set (i := 5) sc_law.nd rfl (by first | exact Or.inl rfl | exact Or.inr rfl) (de_callF (F_L_tree.mono (by decide)) hr (by rfl) (da_cons (de_var 2) (da_cons (de_var 3) da_nil))))
    (dss_cons (ds_set (i := 6) sc_law.nd rfl (by first | exact Or.inl rfl | exact Or.inr rfl) (de_callF (F_L_places.mono (by decide)) hr (by rfl) (da_cons (de_var 3) (da_cons (de_var 5) (da_cons de_int da_nil)))))
    (dss_cons (ds_set (i := 7) sc_law.nd rfl (by first | exact Or.inl rfl | exact Or.inr rfl) (de_callTyL (n_dict hr.units65 rfl) (by rfl) B.z_dict bb_dict (le_lc (own := [("_law_place", 10)]) rfl sc_law.nd (di_vals (de_var 6)) (blkOk_by (N := N_law) (sc := defScope s_law) (by decide +kernel)) (fun _ _ _ _ _ => (dg_name (i := 10) sc_law.nd rfl (by first | exact Or.inl rfl | exact Or.inr rfl))) (fun _ _ _ _ _ => dts_nil) (fun _ _ _ _ _ => (de_tup (da_cons (de_slice (de_var 10) dpo_none (dpo_some de_int)) (da_cons de_bl da_nil)))))))
    (dss_cons (ds_if (dt_not (dt_val (de_callF (F_L_same.mono (by decide)) hr (by rfl) (da_cons (de_callF (F_squares.mono (by decide)) hr (by rfl) (da_cons (de_var 3) (da_cons (de_var 5) da_nil))) (da_cons (de_callF (F_L_at_home.mono (by decide)) hr (by rfl) (da_cons (de_new (le_list rfl (by rfl) B.z_list bb_list (de_var 7))) da_nil)) da_nil))))) (dss_one (ds_ret de_bl)) dss_nil)
    (dss_one (ds_for PassesOwn.never rfl (di_seq (de_tup (da_cons (de_callF (F_squares.mono (by decide)) hr (by rfl) (da_cons (de_var 3) (da_cons (de_var 5) da_nil))) (da_cons (de_callF (F_L_drawn.mono (by decide)) hr (by rfl) (da_cons (de_var 2) da_nil)) da_nil)))) (dg_name (i := 8) sc_law.nd rfl (by first | exact Or.inl rfl | exact Or.inr rfl)) (dss_cons (ds_set (i := 9) sc_law.nd rfl (by first | exact Or.inl rfl | exact Or.inr rfl) (de_callF (F_L_four.mono (by decide)) hr (by rfl) (da_cons (de_var 8) da_nil)))
    (dss_one (ds_if (dt_not (dt_val (de_callBL (n_all rfl) (by rfl) B.z_all bb_all (le_lc (own := [("_law_one", 11)]) rfl sc_law.nd (di_le (le_catLO (le_lst (da_cons (de_var 8) da_nil)) (de_var 9))) (blkOk_by (N := N_law) (sc := defScope s_law) (by decide +kernel)) (fun _ _ _ _ _ => (dg_name (i := 11) sc_law.nd rfl (by first | exact Or.inl rfl | exact Or.inr rfl))) (fun _ _ _ _ _ => dts_nil) (fun _ _ _ _ _ => (de_callF (F_L_same.mono (by decide)) hr (by rfl) (da_cons (de_callF (F_least_squares.mono (by decide)) hr (by rfl) (da_cons (de_var 11) da_nil)) (da_cons (de_callB (c_best false rfl hr.units) (by rfl) B.z_min bb_min (da_cons (de_var 9) da_nil)) da_nil)))))))) (dss_one (ds_ret de_bl)) dss_nil))))))))))))))
    (dss_one (ds_ret de_bl)))
def spLaw (K : PySem.W.Frag) : Sp := fun vs H Q _ => ∃ (a : Addr) (ns : List Int), vs = [.ref a] ∧ ScAt K H a (ns.map V.int) ∧ ns.length ≤ 63 ∧ ∀ H', Q (.bl true) H'
theorem law_sp {P : Program} {w : World} {K : PySem.W.Frag} {mg : Str → Option Value} {base : Heap} {k : Nat} {f : Addr} {fd : FuncData} {ps : List Str} (F : FnG P w K mg base CX0 k f fd ps (spD K 1 m_law)) : FnG P w K mg base CX0 k f fd ps (spLaw K) := by
  refine F.imp fun vs H Q E ⟨a, ns, e, hS, hl, q⟩ => ?_
  subst e
  obtain ⟨hp', eq⟩ := law_pure ns hl
  exact ⟨[], [], [.scr ns], .bl true, hp', rfl, ⟨rfl, List.nodup_nil, fun n o a h _ => by simp at h⟩, by rw [Rps]; exact ⟨_, _, rfl, by rw [Rp]; exact ⟨a, rfl, hS⟩, Rps.nil⟩, eq, fun v H' μ' _ _ r => by rw [r.blE]; exact q H'⟩

set_option maxHeartbeats 0 in
theorem all_mk {l : PySem.W.OpenLaw} {w : World} {K : PySem.W.Frag} {h : Heap} {mg : Str → Option Value} {fa : Addr} (X : K.In h) (G : h.Ns mainGlobals mg) (hfa : mg "law" = some (.ref fa))
    {f0 : Addr} {od0 an0 : Option Addr} {sl0 : Array (Option Value)} {oc0 kV0 dc0 pm0 cd0 ct0 : Value}
    (a0 : PySem.W.nsIn K mainGlobals "seams" = some (some (.ref f0))) (l0 : K.lookup f0 = some ⟨oc0, od0, .func (PySem.W.fnOf "seams" "seams" (defArgs s_seams) (defBody s_seams) (defScope s_seams) .none kV0 dc0 pm0 an0 cd0 ct0), sl0⟩) (c0 : PySem.W.codeIn K cd0 "seams" = true) (k0 : PySem.W.keepIn K (.ref f0) = true)
    {f1 : Addr} {od1 an1 : Option Addr} {sl1 : Array (Option Value)} {oc1 kV1 dc1 pm1 cd1 ct1 : Value}
    (a1 : PySem.W.nsIn K mainGlobals "beside" = some (some (.ref f1))) (l1 : K.lookup f1 = some ⟨oc1, od1, .func (PySem.W.fnOf "beside" "beside" (defArgs s_beside) (defBody s_beside) (defScope s_beside) .none kV1 dc1 pm1 an1 cd1 ct1), sl1⟩) (c1 : PySem.W.codeIn K cd1 "beside" = true) (k1 : PySem.W.keepIn K (.ref f1) = true)
    {f2 : Addr} {od2 an2 : Option Addr} {sl2 : Array (Option Value)} {oc2 kV2 dc2 pm2 cd2 ct2 : Value}
    (a2 : PySem.W.nsIn K mainGlobals "sides_of_seams" = some (some (.ref f2))) (l2 : K.lookup f2 = some ⟨oc2, od2, .func (PySem.W.fnOf "sides_of_seams" "sides_of_seams" (defArgs s_sides_of_seams) (defBody s_sides_of_seams) (defScope s_sides_of_seams) .none kV2 dc2 pm2 an2 cd2 ct2), sl2⟩) (c2 : PySem.W.codeIn K cd2 "sides_of_seams" = true) (k2 : PySem.W.keepIn K (.ref f2) = true)
    {f3 : Addr} {od3 an3 : Option Addr} {sl3 : Array (Option Value)} {oc3 kV3 dc3 pm3 cd3 ct3 : Value}
    (a3 : PySem.W.nsIn K mainGlobals "lay_from" = some (some (.ref f3))) (l3 : K.lookup f3 = some ⟨oc3, od3, .func (PySem.W.fnOf "lay_from" "lay_from" (defArgs s_lay_from) (defBody s_lay_from) (defScope s_lay_from) .none kV3 dc3 pm3 an3 cd3 ct3), sl3⟩) (c3 : PySem.W.codeIn K cd3 "lay_from" = true) (k3 : PySem.W.keepIn K (.ref f3) = true)
    {f4 : Addr} {od4 an4 : Option Addr} {sl4 : Array (Option Value)} {oc4 kV4 dc4 pm4 cd4 ct4 : Value}
    (a4 : PySem.W.nsIn K mainGlobals "laid" = some (some (.ref f4))) (l4 : K.lookup f4 = some ⟨oc4, od4, .func (PySem.W.fnOf "laid" "laid" (defArgs s_laid) (defBody s_laid) (defScope s_laid) .none kV4 dc4 pm4 an4 cd4 ct4), sl4⟩) (c4 : PySem.W.codeIn K cd4 "laid" = true) (k4 : PySem.W.keepIn K (.ref f4) = true)
    {f5 : Addr} {od5 an5 : Option Addr} {sl5 : Array (Option Value)} {oc5 kV5 dc5 pm5 cd5 ct5 : Value}
    (a5 : PySem.W.nsIn K mainGlobals "moved_home" = some (some (.ref f5))) (l5 : K.lookup f5 = some ⟨oc5, od5, .func (PySem.W.fnOf "moved_home" "moved_home" (defArgs s_moved_home) (defBody s_moved_home) (defScope s_moved_home) .none kV5 dc5 pm5 an5 cd5 ct5), sl5⟩) (c5 : PySem.W.codeIn K cd5 "moved_home" = true) (k5 : PySem.W.keepIn K (.ref f5) = true)
    {f6 : Addr} {od6 an6 : Option Addr} {sl6 : Array (Option Value)} {oc6 kV6 dc6 pm6 cd6 ct6 : Value}
    (a6 : PySem.W.nsIn K mainGlobals "squares" = some (some (.ref f6))) (l6 : K.lookup f6 = some ⟨oc6, od6, .func (PySem.W.fnOf "squares" "squares" (defArgs s_squares) (defBody s_squares) (defScope s_squares) .none kV6 dc6 pm6 an6 cd6 ct6), sl6⟩) (c6 : PySem.W.codeIn K cd6 "squares" = true) (k6 : PySem.W.keepIn K (.ref f6) = true)
    {f7 : Addr} {od7 an7 : Option Addr} {sl7 : Array (Option Value)} {oc7 kV7 dc7 pm7 cd7 ct7 : Value}
    (a7 : PySem.W.nsIn K mainGlobals "least_squares" = some (some (.ref f7))) (l7 : K.lookup f7 = some ⟨oc7, od7, .func (PySem.W.fnOf "least_squares" "least_squares" (defArgs s_least_squares) (defBody s_least_squares) (defScope s_least_squares) .none kV7 dc7 pm7 an7 cd7 ct7), sl7⟩) (c7 : PySem.W.codeIn K cd7 "least_squares" = true) (k7 : PySem.W.keepIn K (.ref f7) = true)
    {f8 : Addr} {od8 an8 : Option Addr} {sl8 : Array (Option Value)} {oc8 kV8 dc8 pm8 cd8 ct8 : Value}
    (a8 : PySem.W.nsIn K mainGlobals "_law_hand" = some (some (.ref f8))) (l8 : K.lookup f8 = some ⟨oc8, od8, .func (PySem.W.fnOf "_law_hand" "_law_hand" (defArgs s_L_hand) (defBody s_L_hand) (defScope s_L_hand) .none kV8 dc8 pm8 an8 cd8 ct8), sl8⟩) (c8 : PySem.W.codeIn K cd8 "_law_hand" = true) (k8 : PySem.W.keepIn K (.ref f8) = true)
    {f9 : Addr} {od9 an9 : Option Addr} {sl9 : Array (Option Value)} {oc9 kV9 dc9 pm9 cd9 ct9 : Value}
    (a9 : PySem.W.nsIn K mainGlobals "_law_take" = some (some (.ref f9))) (l9 : K.lookup f9 = some ⟨oc9, od9, .func (PySem.W.fnOf "_law_take" "_law_take" (defArgs s_L_take) (defBody s_L_take) (defScope s_L_take) .none kV9 dc9 pm9 an9 cd9 ct9), sl9⟩) (c9 : PySem.W.codeIn K cd9 "_law_take" = true) (k9 : PySem.W.keepIn K (.ref f9) = true)
    {f10 : Addr} {od10 an10 : Option Addr} {sl10 : Array (Option Value)} {oc10 kV10 dc10 pm10 cd10 ct10 : Value}
    (a10 : PySem.W.nsIn K mainGlobals "_law_pick" = some (some (.ref f10))) (l10 : K.lookup f10 = some ⟨oc10, od10, .func (PySem.W.fnOf "_law_pick" "_law_pick" (defArgs s_L_pick) (defBody s_L_pick) (defScope s_L_pick) .none kV10 dc10 pm10 an10 cd10 ct10), sl10⟩) (c10 : PySem.W.codeIn K cd10 "_law_pick" = true) (k10 : PySem.W.keepIn K (.ref f10) = true)
    {f11 : Addr} {od11 an11 : Option Addr} {sl11 : Array (Option Value)} {oc11 kV11 dc11 pm11 cd11 ct11 : Value}
    (a11 : PySem.W.nsIn K mainGlobals "_law_left" = some (some (.ref f11))) (l11 : K.lookup f11 = some ⟨oc11, od11, .func (PySem.W.fnOf "_law_left" "_law_left" (defArgs s_L_left) (defBody s_L_left) (defScope s_L_left) .none kV11 dc11 pm11 an11 cd11 ct11), sl11⟩) (c11 : PySem.W.codeIn K cd11 "_law_left" = true) (k11 : PySem.W.keepIn K (.ref f11) = true)
    {f12 : Addr} {od12 an12 : Option Addr} {sl12 : Array (Option Value)} {oc12 kV12 dc12 pm12 cd12 ct12 : Value}
    (a12 : PySem.W.nsIn K mainGlobals "_law_skin" = some (some (.ref f12))) (l12 : K.lookup f12 = some ⟨oc12, od12, .func (PySem.W.fnOf "_law_skin" "_law_skin" (defArgs s_L_skin) (defBody s_L_skin) (defScope s_L_skin) .none kV12 dc12 pm12 an12 cd12 ct12), sl12⟩) (c12 : PySem.W.codeIn K cd12 "_law_skin" = true) (k12 : PySem.W.keepIn K (.ref f12) = true)
    {f13 : Addr} {od13 an13 : Option Addr} {sl13 : Array (Option Value)} {oc13 kV13 dc13 pm13 cd13 ct13 : Value}
    (a13 : PySem.W.nsIn K mainGlobals "_law_many" = some (some (.ref f13))) (l13 : K.lookup f13 = some ⟨oc13, od13, .func (PySem.W.fnOf "_law_many" "_law_many" (defArgs s_L_many) (defBody s_L_many) (defScope s_L_many) .none kV13 dc13 pm13 an13 cd13 ct13), sl13⟩) (c13 : PySem.W.codeIn K cd13 "_law_many" = true) (k13 : PySem.W.keepIn K (.ref f13) = true)
    {f14 : Addr} {od14 an14 : Option Addr} {sl14 : Array (Option Value)} {oc14 kV14 dc14 pm14 cd14 ct14 : Value}
    (a14 : PySem.W.nsIn K mainGlobals "_law_seams" = some (some (.ref f14))) (l14 : K.lookup f14 = some ⟨oc14, od14, .func (PySem.W.fnOf "_law_seams" "_law_seams" (defArgs s_L_seams) (defBody s_L_seams) (defScope s_L_seams) .none kV14 dc14 pm14 an14 cd14 ct14), sl14⟩) (c14 : PySem.W.codeIn K cd14 "_law_seams" = true) (k14 : PySem.W.keepIn K (.ref f14) = true)
    {f15 : Addr} {od15 an15 : Option Addr} {sl15 : Array (Option Value)} {oc15 kV15 dc15 pm15 cd15 ct15 : Value}
    (a15 : PySem.W.nsIn K mainGlobals "_law_tree" = some (some (.ref f15))) (l15 : K.lookup f15 = some ⟨oc15, od15, .func (PySem.W.fnOf "_law_tree" "_law_tree" (defArgs s_L_tree) (defBody s_L_tree) (defScope s_L_tree) .none kV15 dc15 pm15 an15 cd15 ct15), sl15⟩) (c15 : PySem.W.codeIn K cd15 "_law_tree" = true) (k15 : PySem.W.keepIn K (.ref f15) = true)
    {f16 : Addr} {od16 an16 : Option Addr} {sl16 : Array (Option Value)} {oc16 kV16 dc16 pm16 cd16 ct16 : Value}
    (a16 : PySem.W.nsIn K mainGlobals "_law_next" = some (some (.ref f16))) (l16 : K.lookup f16 = some ⟨oc16, od16, .func (PySem.W.fnOf "_law_next" "_law_next" (defArgs s_L_next) (defBody s_L_next) (defScope s_L_next) .none kV16 dc16 pm16 an16 cd16 ct16), sl16⟩) (c16 : PySem.W.codeIn K cd16 "_law_next" = true) (k16 : PySem.W.keepIn K (.ref f16) = true)
    {f17 : Addr} {od17 an17 : Option Addr} {sl17 : Array (Option Value)} {oc17 kV17 dc17 pm17 cd17 ct17 : Value}
    (a17 : PySem.W.nsIn K mainGlobals "_law_places" = some (some (.ref f17))) (l17 : K.lookup f17 = some ⟨oc17, od17, .func (PySem.W.fnOf "_law_places" "_law_places" (defArgs s_L_places) (defBody s_L_places) (defScope s_L_places) .none kV17 dc17 pm17 an17 cd17 ct17), sl17⟩) (c17 : PySem.W.codeIn K cd17 "_law_places" = true) (k17 : PySem.W.keepIn K (.ref f17) = true)
    {f18 : Addr} {od18 an18 : Option Addr} {sl18 : Array (Option Value)} {oc18 kV18 dc18 pm18 cd18 ct18 : Value}
    (a18 : PySem.W.nsIn K mainGlobals "_law_at_home" = some (some (.ref f18))) (l18 : K.lookup f18 = some ⟨oc18, od18, .func (PySem.W.fnOf "_law_at_home" "_law_at_home" (defArgs s_L_at_home) (defBody s_L_at_home) (defScope s_L_at_home) .none kV18 dc18 pm18 an18 cd18 ct18), sl18⟩) (c18 : PySem.W.codeIn K cd18 "_law_at_home" = true) (k18 : PySem.W.keepIn K (.ref f18) = true)
    {f19 : Addr} {od19 an19 : Option Addr} {sl19 : Array (Option Value)} {oc19 kV19 dc19 pm19 cd19 ct19 : Value}
    (a19 : PySem.W.nsIn K mainGlobals "_law_same" = some (some (.ref f19))) (l19 : K.lookup f19 = some ⟨oc19, od19, .func (PySem.W.fnOf "_law_same" "_law_same" (defArgs s_L_same) (defBody s_L_same) (defScope s_L_same) .none kV19 dc19 pm19 an19 cd19 ct19), sl19⟩) (c19 : PySem.W.codeIn K cd19 "_law_same" = true) (k19 : PySem.W.keepIn K (.ref f19) = true)
    {f20 : Addr} {od20 an20 : Option Addr} {sl20 : Array (Option Value)} {oc20 kV20 dc20 pm20 cd20 ct20 : Value}
    (a20 : PySem.W.nsIn K mainGlobals "_law_four" = some (some (.ref f20))) (l20 : K.lookup f20 = some ⟨oc20, od20, .func (PySem.W.fnOf "_law_four" "_law_four" (defArgs s_L_four) (defBody s_L_four) (defScope s_L_four) .none kV20 dc20 pm20 an20 cd20 ct20), sl20⟩) (c20 : PySem.W.codeIn K cd20 "_law_four" = true) (k20 : PySem.W.keepIn K (.ref f20) = true)
    {f21 : Addr} {od21 an21 : Option Addr} {sl21 : Array (Option Value)} {oc21 kV21 dc21 pm21 cd21 ct21 : Value}
    (a21 : PySem.W.nsIn K mainGlobals "_law_drawn" = some (some (.ref f21))) (l21 : K.lookup f21 = some ⟨oc21, od21, .func (PySem.W.fnOf "_law_drawn" "_law_drawn" (defArgs s_L_drawn) (defBody s_L_drawn) (defScope s_L_drawn) .none kV21 dc21 pm21 an21 cd21 ct21), sl21⟩) (c21 : PySem.W.codeIn K cd21 "_law_drawn" = true) (k21 : PySem.W.keepIn K (.ref f21) = true)
    {f22 : Addr} {od22 an22 : Option Addr} {sl22 : Array (Option Value)} {oc22 kV22 dc22 pm22 cd22 ct22 : Value}
    (a22 : PySem.W.nsIn K mainGlobals "law" = some (some (.ref f22))) (l22 : K.lookup f22 = some ⟨oc22, od22, .func (PySem.W.fnOf "law" "law" (defArgs s_law) (defBody s_law) (defScope s_law) .none kV22 dc22 pm22 an22 cd22 ct22), sl22⟩) (c22 : PySem.W.codeIn K cd22 "law" = true) (k22 : PySem.W.keepIn K (.ref f22) = true)
    (z_enumerate : PySem.W.nsIn K mainGlobals "enumerate" = some none)
    (z_len : PySem.W.nsIn K mainGlobals "len" = some none)
    (z_range : PySem.W.nsIn K mainGlobals "range" = some none)
    (z_tuple : PySem.W.nsIn K mainGlobals "tuple" = some none)
    (z_min : PySem.W.nsIn K mainGlobals "min" = some none)
    (z_sorted : PySem.W.nsIn K mainGlobals "sorted" = some none)
    (z_dict : PySem.W.nsIn K mainGlobals "dict" = some none)
    (z_list : PySem.W.nsIn K mainGlobals "list" = some none)
    (z_int : PySem.W.nsIn K mainGlobals "int" = some none)
    (z_isinstance : PySem.W.nsIn K mainGlobals "isinstance" = some none)
    (z_zip : PySem.W.nsIn K mainGlobals "zip" = some none)
    (z_all : PySem.W.nsIn K mainGlobals "all" = some none)
    (z_bool : PySem.W.nsIn K mainGlobals "bool" = some none)
    (z_max : PySem.W.nsIn K mainGlobals "max" = some none)
    {q0_STEPS : Addr} {dd0_STEPS : Option Addr} {nn0_STEPS : Nat} {ss0_STEPS : Array (Option Value)}
    {q1_STEPS : Addr} {dd1_STEPS : Option Addr} {nn1_STEPS : Nat} {ss1_STEPS : Array (Option Value)}
    {t1_0_STEPS : Tok}
    {t1_1_STEPS : Tok}
    (h1_STEPS : K.lookup q1_STEPS = some ⟨.type "tuple", dd1_STEPS, .seq #[.int (1) t1_0_STEPS, .int (0) t1_1_STEPS] nn1_STEPS, ss1_STEPS⟩)
    {q2_STEPS : Addr} {dd2_STEPS : Option Addr} {nn2_STEPS : Nat} {ss2_STEPS : Array (Option Value)}
    {t2_0_STEPS : Tok}
    {t2_1_STEPS : Tok}
    (h2_STEPS : K.lookup q2_STEPS = some ⟨.type "tuple", dd2_STEPS, .seq #[.int (0) t2_0_STEPS, .int (1) t2_1_STEPS] nn2_STEPS, ss2_STEPS⟩)
    {q3_STEPS : Addr} {dd3_STEPS : Option Addr} {nn3_STEPS : Nat} {ss3_STEPS : Array (Option Value)}
    {t3_0_STEPS : Tok}
    {t3_1_STEPS : Tok}
    (h3_STEPS : K.lookup q3_STEPS = some ⟨.type "tuple", dd3_STEPS, .seq #[.int (-1) t3_0_STEPS, .int (0) t3_1_STEPS] nn3_STEPS, ss3_STEPS⟩)
    {q4_STEPS : Addr} {dd4_STEPS : Option Addr} {nn4_STEPS : Nat} {ss4_STEPS : Array (Option Value)}
    {t4_0_STEPS : Tok}
    {t4_1_STEPS : Tok}
    (h4_STEPS : K.lookup q4_STEPS = some ⟨.type "tuple", dd4_STEPS, .seq #[.int (0) t4_0_STEPS, .int (-1) t4_1_STEPS] nn4_STEPS, ss4_STEPS⟩)
    (h0_STEPS : K.lookup q0_STEPS = some ⟨.type "tuple", dd0_STEPS, .seq #[.ref q1_STEPS, .ref q2_STEPS, .ref q3_STEPS, .ref q4_STEPS] nn0_STEPS, ss0_STEPS⟩)
    (g_STEPS : PySem.W.nsIn K mainGlobals "STEPS" = some (some (.ref q0_STEPS))) :
    ∃ fd : FuncData, (∀ (s : Shared) (v : Value), BindsTo s fd ⟨[v], []⟩ [("_law_script", v)]) ∧ ∀ base : Heap, K.In base → base.Ns mainGlobals mg → FnG l.prog w K mg base CX0 9 fa fd ["_law_script"] (spLaw K) := by
  have e := hfa.symm.trans (PySem.W.mg_of X G a22)
  cases e
  have B : Bi mg := ⟨PySem.W.mg_none_of X G z_enumerate, PySem.W.mg_none_of X G z_len, PySem.W.mg_none_of X G z_range, PySem.W.mg_none_of X G z_tuple, PySem.W.mg_none_of X G z_min, PySem.W.mg_none_of X G z_sorted, PySem.W.mg_none_of X G z_dict, PySem.W.mg_none_of X G z_list, PySem.W.mg_none_of X G z_int, PySem.W.mg_none_of X G z_isinstance, PySem.W.mg_none_of X G z_zip, PySem.W.mg_none_of X G z_all, PySem.W.mg_none_of X G z_bool, PySem.W.mg_none_of X G z_max⟩
  have C : Ks K mg := ⟨⟨_, .ref q0_STEPS, PySem.W.mg_of X G g_STEPS, rfl, fun _ _ => (Rp.wt h0_STEPS (by show 4 ≤ sizeLine; decide) (Paired.cons (show RelV (.ref q1_STEPS) (.ref q1_STEPS) from rfl) (Paired.cons (show RelV (.ref q2_STEPS) (.ref q2_STEPS) from rfl) (Paired.cons (show RelV (.ref q3_STEPS) (.ref q3_STEPS) from rfl) (Paired.cons (show RelV (.ref q4_STEPS) (.ref q4_STEPS) from rfl) Paired.nil)))) (Rps.mk (Rp.wt h1_STEPS (by show 2 ≤ sizeLine; decide) (Paired.cons (show RelV (.int (1)) (.int (1) t1_0_STEPS) from ⟨_, rfl⟩) (Paired.cons (show RelV (.int (0)) (.int (0) t1_1_STEPS) from ⟨_, rfl⟩) Paired.nil)) (Rps.mk Rp.int (Rps.mk Rp.int Rps.nil))) (Rps.mk (Rp.wt h2_STEPS (by show 2 ≤ sizeLine; decide) (Paired.cons (show RelV (.int (0)) (.int (0) t2_0_STEPS) from ⟨_, rfl⟩) (Paired.cons (show RelV (.int (1)) (.int (1) t2_1_STEPS) from ⟨_, rfl⟩) Paired.nil)) (Rps.mk Rp.int (Rps.mk Rp.int Rps.nil))) (Rps.mk (Rp.wt h3_STEPS (by show 2 ≤ sizeLine; decide) (Paired.cons (show RelV (.int (-1)) (.int (-1) t3_0_STEPS) from ⟨_, rfl⟩) (Paired.cons (show RelV (.int (0)) (.int (0) t3_1_STEPS) from ⟨_, rfl⟩) Paired.nil)) (Rps.mk Rp.int (Rps.mk Rp.int Rps.nil))) (Rps.mk (Rp.wt h4_STEPS (by show 2 ≤ sizeLine; decide) (Paired.cons (show RelV (.int (0)) (.int (0) t4_0_STEPS) from ⟨_, rfl⟩) (Paired.cons (show RelV (.int (-1)) (.int (-1) t4_1_STEPS) from ⟨_, rfl⟩) Paired.nil)) (Rps.mk Rp.int (Rps.mk Rp.int Rps.nil))) Rps.nil)))))⟩⟩
  have F0 := fun_mk (st := s_seams) l0 c0 k0
  have b0 := F0.binds (ps := ["skin"]) fun _ _ _ _ _ _ us hl => match us, hl with | [_], _ => rfl
  have G_seams := fun (base : Heap) => (ok_seams (P := l.prog) (w := w) (base := base) B C F0 (PySem.W.mg_of X G a0) b0).cl con_seams
  have F1 := fun_mk (st := s_beside) l1 c1 k1
  have b1 := F1.binds (ps := ["skin", "face", "place", "i"]) fun _ _ _ _ _ _ us hl => match us, hl with | [_, _, _, _], _ => rfl
  have G_beside := fun (base : Heap) => (ok_beside (P := l.prog) (w := w) (base := base) B C F1 (PySem.W.mg_of X G a1) b1)
  have F2 := fun_mk (st := s_sides_of_seams) l2 c2 k2
  have b2 := F2.binds (ps := ["skin", "some"]) fun _ _ _ _ _ _ us hl => match us, hl with | [_, _], _ => rfl
  have G_sides_of_seams := fun (base : Heap) => (ok_sides_of_seams (P := l.prog) (w := w) (base := base) B C F2 (PySem.W.mg_of X G a2) b2 (G_seams base))
  have F3 := fun_mk (st := s_lay_from) l3 c3 k3
  have b3 := F3.binds (ps := ["skin", "some", "first"]) fun _ _ _ _ _ _ us hl => match us, hl with | [_, _, _], _ => rfl
  have G_lay_from := fun (base : Heap) => (ok_lay_from (P := l.prog) (w := w) (base := base) B C F3 (PySem.W.mg_of X G a3) b3 (G_beside base) (G_sides_of_seams base)).cl con_lay_from
  have F4 := fun_mk (st := s_laid) l4 c4 k4
  have b4 := F4.binds (ps := ["skin", "tree", "first"]) fun _ _ _ _ _ _ us hl => match us, hl with | [_, _, _], _ => rfl
  have G_laid := fun (base : Heap) => (ok_laid (P := l.prog) (w := w) (base := base) B C F4 (PySem.W.mg_of X G a4) b4 (G_lay_from base)).cl con_laid
  have F5 := fun_mk (st := s_moved_home) l5 c5 k5
  have b5 := F5.binds (ps := ["some"]) fun _ _ _ _ _ _ us hl => match us, hl with | [_], _ => rfl
  have G_moved_home := fun (base : Heap) => (ok_moved_home (P := l.prog) (w := w) (base := base) B C F5 (PySem.W.mg_of X G a5) b5)
  have F6 := fun_mk (st := s_squares) l6 c6 k6
  have b6 := F6.binds (ps := ["skin", "tree"]) fun _ _ _ _ _ _ us hl => match us, hl with | [_, _], _ => rfl
  have G_squares := fun (base : Heap) => (ok_squares (P := l.prog) (w := w) (base := base) B C F6 (PySem.W.mg_of X G a6) b6 (G_laid base) (G_moved_home base)).cl con_squares
  have F7 := fun_mk (st := s_least_squares) l7 c7 k7
  have b7 := F7.binds (ps := ["some"]) fun _ _ _ _ _ _ us hl => match us, hl with | [_], _ => rfl
  have G_least_squares := fun (base : Heap) => (ok_least_squares (P := l.prog) (w := w) (base := base) B C F7 (PySem.W.mg_of X G a7) b7 (G_moved_home base)).cl con_least_squares
  have F8 := fun_mk (st := s_L_hand) l8 c8 k8
  have b8 := F8.binds (ps := ["_law_script", "_law_k"]) fun _ _ _ _ _ _ us hl => match us, hl with | [_, _], _ => rfl
  have G_L_hand := fun (base : Heap) => (ok_L_hand (P := l.prog) (w := w) (base := base) B C F8 (PySem.W.mg_of X G a8) b8).cl con_L_hand
  have F9 := fun_mk (st := s_L_take) l9 c9 k9
  have b9 := F9.binds (ps := ["_law_hand_here", "_law_many_here"]) fun _ _ _ _ _ _ us hl => match us, hl with | [_, _], _ => rfl
  have G_L_take := fun (base : Heap) => (ok_L_take (P := l.prog) (w := w) (base := base) B C F9 (PySem.W.mg_of X G a9) b9).cl con_L_take
  have F10 := fun_mk (st := s_L_pick) l10 c10 k10
  have b10 := F10.binds (ps := ["_law_hand_here", "_law_some"]) fun _ _ _ _ _ _ us hl => match us, hl with | [_, _], _ => rfl
  have G_L_pick := fun (base : Heap) => (ok_L_pick (P := l.prog) (w := w) (base := base) B C F10 (PySem.W.mg_of X G a10) b10 (G_L_take base))
  have F11 := fun_mk (st := s_L_left) l11 c11 k11
  have b11 := F11.binds (ps := ["_law_rows", "_law_many_here"]) fun _ _ _ _ _ _ us hl => match us, hl with | [_, _], _ => rfl
  have G_L_left := fun (base : Heap) => (ok_L_left (P := l.prog) (w := w) (base := base) B C F11 (PySem.W.mg_of X G a11) b11)
  have F12 := fun_mk (st := s_L_skin) l12 c12 k12
  have b12 := F12.binds (ps := ["_law_hand_here", "_law_many_here"]) fun _ _ _ _ _ _ us hl => match us, hl with | [_, _], _ => rfl
  have G_L_skin := fun (base : Heap) => (ok_L_skin (P := l.prog) (w := w) (base := base) B C F12 (PySem.W.mg_of X G a12) b12 (G_L_left base) (G_L_pick base) (G_L_take base)).cl con_L_skin
  have F13 := fun_mk (st := s_L_many) l13 c13 k13
  have b13 := F13.binds (ps := ["_law_hand_here"]) fun _ _ _ _ _ _ us hl => match us, hl with | [_], _ => rfl
  have G_L_many := fun (base : Heap) => (ok_L_many (P := l.prog) (w := w) (base := base) B C F13 (PySem.W.mg_of X G a13) b13 (G_L_pick base) (G_L_take base))
  have F14 := fun_mk (st := s_L_seams) l14 c14 k14
  have b14 := F14.binds (ps := ["_law_skin_here"]) fun _ _ _ _ _ _ us hl => match us, hl with | [_], _ => rfl
  have G_L_seams := fun (base : Heap) => (ok_L_seams (P := l.prog) (w := w) (base := base) B C F14 (PySem.W.mg_of X G a14) b14).cl con_L_seams
  have F15 := fun_mk (st := s_L_tree) l15 c15 k15
  have b15 := F15.binds (ps := ["_law_hand_here", "_law_skin_here"]) fun _ _ _ _ _ _ us hl => match us, hl with | [_, _], _ => rfl
  have G_L_tree := fun (base : Heap) => (ok_L_tree (P := l.prog) (w := w) (base := base) B C F15 (PySem.W.mg_of X G a15) b15 (G_L_seams base) (G_L_take base)).cl con_L_tree
  have F16 := fun_mk (st := s_L_next) l16 c16 k16
  have b16 := F16.binds (ps := ["_law_place", "_law_side", "_law_back"]) fun _ _ _ _ _ _ us hl => match us, hl with | [_, _, _], _ => rfl
  have G_L_next := fun (base : Heap) => (ok_L_next (P := l.prog) (w := w) (base := base) B C F16 (PySem.W.mg_of X G a16) b16).cl con_L_next
  have F17 := fun_mk (st := s_L_places) l17 c17 k17
  have b17 := F17.binds (ps := ["_law_skin_here", "_law_some", "_law_first"]) fun _ _ _ _ _ _ us hl => match us, hl with | [_, _, _], _ => rfl
  have G_L_places := fun (base : Heap) => (ok_L_places (P := l.prog) (w := w) (base := base) B C F17 (PySem.W.mg_of X G a17) b17 (G_L_next base) (G_L_seams base)).cl con_L_places
  have F18 := fun_mk (st := s_L_at_home) l18 c18 k18
  have b18 := F18.binds (ps := ["_law_some"]) fun _ _ _ _ _ _ us hl => match us, hl with | [_], _ => rfl
  have G_L_at_home := fun (base : Heap) => (ok_L_at_home (P := l.prog) (w := w) (base := base) B C F18 (PySem.W.mg_of X G a18) b18)
  have F19 := fun_mk (st := s_L_same) l19 c19 k19
  have b19 := F19.binds (ps := ["_law_one", "_law_two"]) fun _ _ _ _ _ _ us hl => match us, hl with | [_, _], _ => rfl
  have G_L_same := fun (base : Heap) => (ok_L_same (P := l.prog) (w := w) (base := base) B C F19 (PySem.W.mg_of X G a19) b19)
  have F20 := fun_mk (st := s_L_four) l20 c20 k20
  have b20 := F20.binds (ps := ["_law_some"]) fun _ _ _ _ _ _ us hl => match us, hl with | [_], _ => rfl
  have G_L_four := fun (base : Heap) => (ok_L_four (P := l.prog) (w := w) (base := base) B C F20 (PySem.W.mg_of X G a20) b20 (G_L_at_home base)).cl con_L_four
  have F21 := fun_mk (st := s_L_drawn) l21 c21 k21
  have b21 := F21.binds (ps := ["_law_hand_here"]) fun _ _ _ _ _ _ us hl => match us, hl with | [_], _ => rfl
  have G_L_drawn := fun (base : Heap) => (ok_L_drawn (P := l.prog) (w := w) (base := base) B C F21 (PySem.W.mg_of X G a21) b21 (G_L_pick base) (G_L_take base)).cl con_L_drawn
  have F22 := fun_mk (st := s_law) l22 c22 k22
  have b22 := F22.binds (ps := ["_law_script"]) fun _ _ _ _ _ _ us hl => match us, hl with | [_], _ => rfl
  refine ⟨PySem.W.fnOf "law" "law" (defArgs s_law) (defBody s_law) (defScope s_law) .none kV22 dc22 pm22 an22 cd22 ct22, fun s v => .of_eq rfl, fun base _ _ => ?_⟩
  have FL := fn_def (P := l.prog) (w := w) (mg := mg) (base := base) (k := 8) (N := N_law) (ps := ["_law_script"]) (fb := b_law) F22 sc_law
    (fun cdv A outer s H E hr => body_law B C (G_L_at_home base) (G_L_drawn base) (G_L_four base) (G_L_hand base) (G_L_many base) (G_L_places base) (G_L_same base) (G_L_skin base) (G_L_tree base) (G_least_squares base) (G_squares base) hr)
  exact law_sp FL
end Lw
open PySem PySem.W PyProof.Rows
set_option maxRecDepth 100000 in
set_option maxHeartbeats 0 in
theorem PySem.Challenge.cw_flatbody_k37_squares_holds : PySem.Challenge.rw_flatbody_k37_squares.Holds := by
  w_on; o_law; k_head; (case hw => w_witness2)
  k_fill
  refine Ve.walk_ofG (l := PySem.Challenge.rw_flatbody_k37_squares) (n := 63) (k := 9) (x := "_law_script") (CX := fun _ => L2.CX0) (sp := fun w => Lw.spLaw _) rfl (by decide) rfl ⟨⟨rfl, by decide, by decide⟩, rfl⟩ (fun w h Y => PySem.W.kIn_of Y) ?F (fun _ _ a ns hl ho hS => ⟨a, ns, rfl, Ve.scAt_of ho hS, hl, fun _ => rfl⟩) (fun _ _ _ _ _ h => h)
  case F =>
    intro w mg fa h KX G hmg
    refine' Lw.all_mk KX G hmg ?a0 ?l0 ?c0 ?k0 ?a1 ?l1 ?c1 ?k1 ?a2 ?l2 ?c2 ?k2 ?a3 ?l3 ?c3 ?k3 ?a4 ?l4 ?c4 ?k4 ?a5 ?l5 ?c5 ?k5 ?a6 ?l6 ?c6 ?k6 ?a7 ?l7 ?c7 ?k7 ?a8 ?l8 ?c8 ?k8 ?a9 ?l9 ?c9 ?k9 ?a10 ?l10 ?c10 ?k10 ?a11 ?l11 ?c11 ?k11 ?a12 ?l12 ?c12 ?k12 ?a13 ?l13 ?c13 ?k13 ?a14 ?l14 ?c14 ?k14 ?a15 ?l15 ?c15 ?k15 ?a16 ?l16 ?c16 ?k16 ?a17 ?l17 ?c17 ?k17 ?a18 ?l18 ?c18 ?k18 ?a19 ?l19 ?c19 ?k19 ?a20 ?l20 ?c20 ?k20 ?a21 ?l21 ?c21 ?k21 ?a22 ?l22 ?c22 ?k22 ?z_enumerate ?z_len ?z_range ?z_tuple ?z_min ?z_sorted ?z_dict ?z_list ?z_int ?z_isinstance ?z_zip ?z_all ?z_bool ?z_max ?h1_STEPS ?h2_STEPS ?h3_STEPS ?h4_STEPS ?h0_STEPS ?g_STEPS
    (case a0 => k_is); (case l0 => k_is); (case c0 => k_is); (case k0 => k_is); (case a1 => k_is); (case l1 => k_is); (case c1 => k_is); (case k1 => k_is); (case a2 => k_is); (case l2 => k_is); (case c2 => k_is); (case k2 => k_is); (case a3 => k_is); (case l3 => k_is); (case c3 => k_is); (case k3 => k_is); (case a4 => k_is); (case l4 => k_is); (case c4 => k_is); (case k4 => k_is); (case a5 => k_is); (case l5 => k_is); (case c5 => k_is); (case k5 => k_is); (case a6 => k_is); (case l6 => k_is); (case c6 => k_is); (case k6 => k_is); (case a7 => k_is); (case l7 => k_is); (case c7 => k_is); (case k7 => k_is); (case a8 => k_is); (case l8 => k_is); (case c8 => k_is); (case k8 => k_is); (case a9 => k_is); (case l9 => k_is); (case c9 => k_is); (case k9 => k_is); (case a10 => k_is); (case l10 => k_is); (case c10 => k_is); (case k10 => k_is); (case a11 => k_is); (case l11 => k_is); (case c11 => k_is); (case k11 => k_is); (case a12 => k_is); (case l12 => k_is); (case c12 => k_is); (case k12 => k_is); (case a13 => k_is); (case l13 => k_is); (case c13 => k_is); (case k13 => k_is); (case a14 => k_is); (case l14 => k_is); (case c14 => k_is); (case k14 => k_is); (case a15 => k_is); (case l15 => k_is); (case c15 => k_is); (case k15 => k_is); (case a16 => k_is); (case l16 => k_is); (case c16 => k_is); (case k16 => k_is); (case a17 => k_is); (case l17 => k_is); (case c17 => k_is); (case k17 => k_is); (case a18 => k_is); (case l18 => k_is); (case c18 => k_is); (case k18 => k_is); (case a19 => k_is); (case l19 => k_is); (case c19 => k_is); (case k19 => k_is); (case a20 => k_is); (case l20 => k_is); (case c20 => k_is); (case k20 => k_is); (case a21 => k_is); (case l21 => k_is); (case c21 => k_is); (case k21 => k_is); (case a22 => k_is); (case l22 => k_is); (case c22 => k_is); (case k22 => k_is); (case z_enumerate => k_is); (case z_len => k_is); (case z_range => k_is); (case z_tuple => k_is); (case z_min => k_is); (case z_sorted => k_is); (case z_dict => k_is); (case z_list => k_is); (case z_int => k_is); (case z_isinstance => k_is); (case z_zip => k_is); (case z_all => k_is); (case z_bool => k_is); (case z_max => k_is); (case g_STEPS => k_is); (case h0_STEPS => k_is); (case h1_STEPS => k_is); (case h2_STEPS => k_is); (case h3_STEPS => k_is); (case h4_STEPS => k_is)
