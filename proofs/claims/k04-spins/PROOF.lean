import PyProof.Rows.All
import Wide.All
import OpenK.AllK
import Wide.FinOn
import HandS.ForMost
import HandS.Walk
import HandS.TupAny
import HandS.Deep
import HandS.Style
import HandS.TupLe
import HandS.Wide
import HandS.IsInst
import HandS.TupLen
import HandS.More
import PySem.Challenge.RW_flatbody_k04_spins
set_option Elab.async false
set_option linter.all false
set_option maxRecDepth 100000
namespace Ve
open PySem PySem.Spec L2

inductive D where
  | non | bl (b : Bool) | int (i : Int) | str (x : Str) | tup (ds : List D) | ref (n : Nat) | scr (ns : List Int) | wt (ds : List D)

inductive O where
  | lst (xs : List D) | dic (kvs : List (D × D)) | dicL (kvs : List (D × D))

abbrev Hd := List O
abbrev Ls := List (Option D)

def TpAt (H : Hp) (a : Addr) (vs : List V) : Prop := H a = some (.tup vs)
def WtAt (K : PySem.W.Frag) (a : Addr) (vs : List V) : Prop := ∃ (o : Obj) (its : Array Value) (n : Nat), K.lookup a = some o ∧ o.cls = .type "tuple" ∧ o.data = .seq its n ∧ its.size ≤ sizeLine ∧ Vals vs its.toList
theorem TpAt.sq {K : PySem.W.Frag} {H : Hp} {a : Addr} {vs : List V} (h : TpAt H a vs) : SqT K H a vs := .inl (.inl h)
theorem WtAt.sq {K : PySem.W.Frag} {H : Hp} {a : Addr} {vs : List V} (h : WtAt K a vs) : SqT K H a vs := .inr h
def ScAt (K : PySem.W.Frag) (H : Hp) (a : Addr) (vs : List V) : Prop :=
  (∃ o, H a = some (.frz o (.lst vs))) ∨ ∃ (o : Obj) (its : Array Value) (n : Nat), K.lookup a = some o ∧ o.cls = .type "list" ∧ o.dict = none ∧ o.data = .seq its n ∧ its.size ≤ sizeLine ∧ Vals vs its.toList
theorem ScAt.sq {K : PySem.W.Frag} {H : Hp} {a : Addr} {vs : List V} (h : ScAt K H a vs) : SqL K H a vs := h.elim (fun ⟨o, e⟩ => .inl (.inr ⟨o, e⟩)) .inr

mutual
def Rp (K : PySem.W.Frag) (H : Hp) (μ : List Addr) : D → V → Prop
  | .non, v => v = .non
  | .bl b, v => v = .bl b
  | .int i, v => v = .int i
  | .str x, v => v = .str x
  | .ref n, v => ∃ a, μ[n]? = some a ∧ v = .ref a
  | .scr ns, v => ∃ a, v = .ref a ∧ ScAt K H a (ns.map V.int)
  | .tup ds, v => ∃ a vs, v = .ref a ∧ TpAt H a vs ∧ Rps K H μ ds vs
  | .wt ds, v => ∃ a vs, v = .ref a ∧ WtAt K a vs ∧ Rps K H μ ds vs
def Rps (K : PySem.W.Frag) (H : Hp) (μ : List Addr) : List D → List V → Prop
  | [], vs => vs = []
  | d :: ds, vs => ∃ v r, vs = v :: r ∧ Rp K H μ d v ∧ Rps K H μ ds r
end

def toKey : D → Option Key
  | .int i => some (.inl i)
  | .str x => some (.inr x)
  | _ => none
def toKeys : List D → Option (List Key)
  | [] => some []
  | d :: ds => match toKey d, toKeys ds with
    | some k, some ks => some (k :: ks)
    | _, _ => none

def RpK (K : PySem.W.Frag) (H : Hp) (μ : List Addr) : List (D × D) → List (Key × V) → Prop
  | [], vs => vs = []
  | p :: ds, vs => ∃ k v r, vs = (k, v) :: r ∧ toKey p.1 = some k ∧ Rp K H μ p.2 v ∧ RpK K H μ ds r
def RpT (K : PySem.W.Frag) (H : Hp) (μ : List Addr) : List (D × D) → List (List Key × V) → Prop
  | [], vs => vs = []
  | p :: ds, vs => ∃ ks k v r, p.1 = .tup ks ∧ vs = (k, v) :: r ∧ toKeys ks = some k ∧ Rp K H μ p.2 v ∧ RpT K H μ ds r

def KNd : List (D × D) → Prop
  | [] => True
  | p :: r => (∀ q ∈ r, q.1 ≠ p.1) ∧ KNd r

def Ro (K : PySem.W.Frag) (H : Hp) (μ : List Addr) : O → Option HO → Prop
  | .lst xs, h => ∃ vs, h = some (.lst vs) ∧ Rps K H μ xs vs
  | .dic kvs, h => KNd kvs ∧ ((∃ vs, h = some (.dK vs) ∧ RpK K H μ kvs vs) ∨ ∃ vs, h = some (.dT vs) ∧ RpT K H μ kvs vs)
  | .dicL kvs, h => KNd kvs ∧ ((∃ o vs, h = some (.frz o (.dK vs)) ∧ RpK K H μ kvs vs) ∨ ∃ o vs, h = some (.frz o (.dT vs)) ∧ RpT K H μ kvs vs)

structure RelH (K : PySem.W.Frag) (H : Hp) (μ : List Addr) (hp : Hd) : Prop where
  len : μ.length = hp.length
  nd : μ.Nodup
  obj : ∀ (n : Nat) (o : O) (a : Addr), hp[n]? = some o → μ[n]? = some a → Ro K H μ o (H a)

structure Ext (μ : List Addr) (H : Hp) (μ' : List Addr) (H' : Hp) : Prop where
  pre : ∃ ν, μ' = μ ++ ν
  new : ∀ a o, a ∉ μ → H a = some o → a ∉ μ'
  keep : ∀ a o, a ∉ μ → H a = some o → H' a = some o
  tups : ∀ a xs, H a = some (.tup xs) → H' a = some (.tup xs)
  scrs : ∀ a o xs, H a = some (.frz o (.lst xs)) → H' a = some (.frz o (.lst xs))

structure Mon (μ : List Addr) (H : Hp) (μ' : List Addr) (H' : Hp) : Prop where
  pre : ∃ ν, μ' = μ ++ ν
  tups : ∀ a xs, H a = some (.tup xs) → H' a = some (.tup xs)
  scrs : ∀ a o xs, H a = some (.frz o (.lst xs)) → H' a = some (.frz o (.lst xs))

def Rl (K : PySem.W.Frag) (H : Hp) (μ : List Addr) (ls : Ls) (σ : St) : Prop :=
  σ.length = ls.length ∧ ∀ (i : Nat) (d : D), ls[i]? = some (some d) → ∃ v, σ[i]? = some (some v) ∧ Rp K H μ d v

section
variable {K : PySem.W.Frag} {H H' H2 : Hp} {μ μ' μ2 : List Addr} {hp hp' : Hd} {ls : Ls} {σ : St}

theorem Ext.refl : Ext μ H μ H := ⟨⟨[], by simp⟩, fun _ _ h _ => h, fun _ _ _ h => h, fun _ _ h => h, fun _ _ _ h => h⟩
theorem Ext.trans (x : Ext μ H μ' H') (y : Ext μ' H' μ2 H2) : Ext μ H μ2 H2 := by
  obtain ⟨ν, e1⟩ := x.pre
  obtain ⟨ν2, e2⟩ := y.pre
  exact ⟨⟨ν ++ ν2, by rw [e2, e1, List.append_assoc]⟩, fun a o hn e => y.new a o (x.new a o hn e) (x.keep a o hn e), fun a o hn e => y.keep a o (x.new a o hn e) (x.keep a o hn e),
    fun a xs e => y.tups a xs (x.tups a xs e), fun a o xs e => y.scrs a o xs (x.scrs a o xs e)⟩
theorem Ext.m (x : Ext μ H μ' H') : Mon μ H μ' H' := ⟨x.pre, x.tups, x.scrs⟩
theorem Mon.at_ (x : Mon μ H μ' H') {n : Nat} {a : Addr} (h : μ[n]? = some a) : μ'[n]? = some a := by
  obtain ⟨ν, e⟩ := x.pre
  rw [e, List.getElem?_append_left (List.getElem?_eq_some_iff.mp h).1]
  exact h
theorem TpAt.mon (x : Mon μ H μ' H') {a : Addr} {vs : List V} (h : TpAt H a vs) : TpAt H' a vs := x.tups _ _ h
theorem ScAt.mon (x : Mon μ H μ' H') {a : Addr} {vs : List V} (h : ScAt K H a vs) : ScAt K H' a vs := h.elim (fun ⟨o, e⟩ => .inl ⟨o, x.scrs _ _ _ e⟩) .inr
mutual
theorem Rp.mon (x : Mon μ H μ' H') : ∀ {d : D} {v : V}, Rp K H μ d v → Rp K H' μ' d v
  | .non, _, h => by rw [Rp] at *; exact h
  | .bl b, _, h => by rw [Rp] at *; exact h
  | .int i, _, h => by rw [Rp] at *; exact h
  | .str s, _, h => by rw [Rp] at *; exact h
  | .ref n, _, h => by
    rw [Rp] at *
    obtain ⟨a, e, r⟩ := h
    exact ⟨a, x.at_ e, r⟩
  | .scr ns, _, h => by
    rw [Rp] at *
    obtain ⟨a, e, r⟩ := h
    exact ⟨a, e, r.mon x⟩
  | .tup ds, _, h => by
    rw [Rp] at *
    obtain ⟨a, vs, e, t, r⟩ := h
    exact ⟨a, vs, e, t.mon x, Rps.mon x r⟩
  | .wt ds, _, h => by
    rw [Rp] at *
    obtain ⟨a, vs, e, t, r⟩ := h
    exact ⟨a, vs, e, t, Rps.mon x r⟩
theorem Rps.mon (x : Mon μ H μ' H') : ∀ {ds : List D} {vs : List V}, Rps K H μ ds vs → Rps K H' μ' ds vs
  | [], _, h => by rw [Rps] at *; exact h
  | d :: ds, _, h => by
    rw [Rps] at *
    obtain ⟨v, r, e, h1, h2⟩ := h
    exact ⟨v, r, e, Rp.mon x h1, Rps.mon x h2⟩
end
theorem RpK.mon (x : Mon μ H μ' H') : ∀ {ds : List (D × D)} {vs : List (Key × V)}, RpK K H μ ds vs → RpK K H' μ' ds vs
  | [], _, h => by rw [RpK] at *; exact h
  | d :: ds, _, h => by
    rw [RpK] at *
    obtain ⟨k, v, r, e, h1, h2, h3⟩ := h
    exact ⟨k, v, r, e, h1, h2.mon x, RpK.mon x h3⟩
theorem RpT.mon (x : Mon μ H μ' H') : ∀ {ds : List (D × D)} {vs : List (List Key × V)}, RpT K H μ ds vs → RpT K H' μ' ds vs
  | [], _, h => by rw [RpT] at *; exact h
  | d :: ds, _, h => by
    rw [RpT] at *
    obtain ⟨ks, k, v, r, e0, e, h1, h2, h3⟩ := h
    exact ⟨ks, k, v, r, e0, e, h1, h2.mon x, RpT.mon x h3⟩
theorem Rl.mon (x : Mon μ H μ' H') (h : Rl K H μ ls σ) : Rl K H' μ' ls σ := ⟨h.1, fun i d e => let ⟨v, e1, r⟩ := h.2 i d e; ⟨v, e1, r.mon x⟩⟩
theorem Ro.mon (x : Mon μ H μ' H') {o : O} {h : Option HO} (r : Ro K H μ o h) : Ro K H' μ' o h := by
  cases o with
  | lst xs => obtain ⟨vs, e, q⟩ := r; exact ⟨vs, e, q.mon x⟩
  | dic kvs =>
    rcases r with ⟨nd, ⟨vs, e, q⟩ | ⟨vs, e, q⟩⟩
    · exact ⟨nd, .inl ⟨vs, e, q.mon x⟩⟩
    · exact ⟨nd, .inr ⟨vs, e, q.mon x⟩⟩
  | dicL kvs =>
    rcases r with ⟨nd, ⟨o, vs, e, q⟩ | ⟨o, vs, e, q⟩⟩
    · exact ⟨nd, .inl ⟨o, vs, e, q.mon x⟩⟩
    · exact ⟨nd, .inr ⟨o, vs, e, q.mon x⟩⟩
theorem Ro.some {o : O} {h : Option HO} (r : Ro K H μ o h) : ∃ u, h = some u ∧ (∀ xs, u ≠ .tup xs) ∧ ∀ ob xs, u ≠ .frz ob (.lst xs) := by
  cases o with
  | lst xs => obtain ⟨vs, e, q⟩ := r; exact ⟨_, e, (fun _ z => nomatch z), fun _ _ z => nomatch z⟩
  | dic kvs =>
    rcases r with ⟨nd, ⟨vs, e, q⟩ | ⟨vs, e, q⟩⟩ <;> exact ⟨_, e, (fun _ z => nomatch z), fun _ _ z => nomatch z⟩
  | dicL kvs =>
    rcases r with ⟨nd, ⟨o, vs, e, q⟩ | ⟨o, vs, e, q⟩⟩ <;> exact ⟨_, e, (fun _ z => nomatch z), fun _ _ z => nomatch z⟩
theorem Rp.ext (x : Ext μ H μ' H') {d : D} {v : V} (h : Rp K H μ d v) : Rp K H' μ' d v := h.mon x.m
theorem Rps.ext (x : Ext μ H μ' H') {d : List D} {v : List V} (h : Rps K H μ d v) : Rps K H' μ' d v := h.mon x.m
theorem Rl.ext (x : Ext μ H μ' H') (h : Rl K H μ ls σ) : Rl K H' μ' ls σ := h.mon x.m
theorem TpAt.ext (x : Ext μ H μ' H') {a : Addr} {vs : List V} (h : TpAt H a vs) : TpAt H' a vs := h.mon x.m
theorem RelH.at_ (r : RelH K H μ hp) {n : Nat} {o : O} (h : hp[n]? = some o) : ∃ a, μ[n]? = some a ∧ Ro K H μ o (H a) := by
  have hl := (List.getElem?_eq_some_iff.mp h).1
  rw [← r.len] at hl
  exact ⟨μ[n], List.getElem?_eq_getElem hl, r.obj n o _ h (List.getElem?_eq_getElem hl)⟩
theorem RelH.taken (r : RelH K H μ hp) {a : Addr} (h : a ∈ μ) : ∃ u, H a = some u ∧ (∀ xs, u ≠ .tup xs) ∧ ∀ ob xs, u ≠ .frz ob (.lst xs) := by
  obtain ⟨n, hn, e⟩ := List.mem_iff_getElem.mp h
  have hn' : n < hp.length := by rw [← r.len]; exact hn
  exact (r.obj n hp[n] a (List.getElem?_eq_getElem hn') (by rw [List.getElem?_eq_getElem hn, e])).some
theorem RelH.notIn (r : RelH K H μ hp) {a : Addr} (h : H a = none) : a ∉ μ := fun m => by
  obtain ⟨u, e, _⟩ := r.taken m
  rw [h] at e
  cases e
theorem Ext.laid (r : RelH K H μ hp) {p : Addr} {o : HO} (h : H p = none) : Ext μ H μ (upd H p o) :=
  ⟨⟨[], by simp⟩, fun _ _ n _ => n, fun a u _ e => by rw [upd_ne (ne_of_none e h)]; exact e, fun a xs e => by rw [upd_ne (ne_of_none e h)]; exact e, fun a o xs e => by rw [upd_ne (ne_of_none e h)]; exact e⟩
theorem RelH.laid (r : RelH K H μ hp) {p : Addr} {o : HO} (h : H p = none) : RelH K (upd H p o) μ hp :=
  ⟨r.len, r.nd, fun n ob a e1 e2 => by
    have q := r.obj n ob a e1 e2
    obtain ⟨u, e, _⟩ := q.some
    rw [upd_ne (ne_of_none e h)]
    exact q.mon (Ext.laid r h).m⟩
theorem Mon.grow {p : Addr} : Mon μ H (μ ++ [p]) H := ⟨⟨[p], rfl⟩, fun _ _ e => e, fun _ _ _ e => e⟩
theorem Ext.place {p : Addr} (x : Ext μ H μ' H') (hp0 : H p = none) : Ext μ H (μ' ++ [p]) H' := by
  obtain ⟨ν, e⟩ := x.pre
  refine ⟨⟨ν ++ [p], by rw [e, List.append_assoc]⟩, fun a o n e1 hm => ?_, x.keep, x.tups, x.scrs⟩
  rcases List.mem_append.mp hm with hm | hm
  · exact x.new a o n e1 hm
  · have : a = p := by simpa using hm
    subst this
    rw [hp0] at e1
    cases e1
theorem RelH.place (r : RelH K H μ hp) {p : Addr} {o : O} (hn : p ∉ μ) (q : Ro K H (μ ++ [p]) o (H p)) : RelH K H (μ ++ [p]) (hp ++ [o]) := by
  refine ⟨by simp [r.len], List.nodup_append.mpr ⟨r.nd, by simp, fun a ha b hb => ?_⟩, fun n ob a e1 e2 => ?_⟩
  · have : b = p := by simpa using hb
    subst this
    intro e
    subst e
    exact hn ha
  · by_cases hl : n < hp.length
    · rw [List.getElem?_append_left hl] at e1
      rw [List.getElem?_append_left (by rw [r.len]; exact hl)] at e2
      exact (r.obj n ob a e1 e2).mon Mon.grow
    · have hl2 : n < (hp ++ [o]).length := (List.getElem?_eq_some_iff.mp e1).1
      have : n = hp.length := by
        simp at hl2
        omega
      subst this
      rw [List.getElem?_append_right (Nat.le_refl _)] at e1
      rw [List.getElem?_append_right (by rw [r.len]; exact Nat.le_refl _)] at e2
      simp [r.len] at e1 e2
      subst e1; subst e2
      exact q
theorem RelH.put (r : RelH K H μ hp) {n : Nat} {a : Addr} {o : O} {u : HO} (h : μ[n]? = some a) (q : Ro K (upd H a u) μ o (some u)) : RelH K (upd H a u) μ (hp.set n o) ∧ Ext μ H μ (upd H a u) := by
  have ha : a ∈ μ := List.mem_of_getElem? h
  obtain ⟨u0, e0, nt, ns⟩ := r.taken ha
  have x : Ext μ H μ (upd H a u) := by
    refine ⟨⟨[], by simp⟩, fun _ _ n _ => n, fun b v hb e => ?_, fun b xs e => ?_, fun b ob xs e => ?_⟩
    · rw [upd_ne (show b ≠ a from fun z => hb (by rw [z]; exact ha))]
      exact e
    · rw [upd_ne (fun z => ?_)]
      · exact e
      · subst z
        rw [e0] at e
        exact nt _ (Option.some.inj e)
    · rw [upd_ne (fun z => ?_)]
      · exact e
      · subst z
        rw [e0] at e
        exact ns _ _ (Option.some.inj e)
  refine ⟨⟨by simp [r.len], r.nd, fun m ob b e1 e2 => ?_⟩, x⟩
  by_cases hm : m = n
  · subst hm
    rw [h] at e2
    cases e2
    have hl : m < hp.length := by rw [← r.len]; exact (List.getElem?_eq_some_iff.mp h).1
    rw [List.getElem?_set_self hl] at e1
    cases e1
    rw [upd_same]
    exact q
  · rw [List.getElem?_set_ne (Ne.symm hm)] at e1
    have hb : b ≠ a := fun z => by
      subst z
      obtain ⟨h1, h2⟩ := List.getElem?_eq_some_iff.mp h
      obtain ⟨h3, h4⟩ := List.getElem?_eq_some_iff.mp e2
      exact hm ((List.getElem_inj r.nd).mp (h4.trans h2.symm))
    rw [upd_ne hb]
    exact (r.obj m ob b e1 e2).mon x.m
end
end Ve
namespace Ve
open PySem PySem.Spec L2

abbrev AE := Ls → Hd → Option (D × Hd)
abbrev AT := Ls → Hd → Option (Bool × Hd)
abbrev AA := Ls → Hd → Option (List D × Hd)

def tD (K : PySem.W.Frag) (f : AE) : TE := fun σ H Q => ∃ ls hp μ d hp', Rl K H μ ls σ ∧ RelH K H μ hp ∧ f ls hp = some (d, hp') ∧
  ∀ v H' μ', Ext μ H μ' H' → RelH K H' μ' hp' → Rp K H' μ' d v → Q v H'
def tT (K : PySem.W.Frag) (f : AT) : TT := fun σ H Q => ∃ ls hp μ b hp', Rl K H μ ls σ ∧ RelH K H μ hp ∧ f ls hp = some (b, hp') ∧
  ∀ H' μ', Ext μ H μ' H' → RelH K H' μ' hp' → Q b H'
def tAs (K : PySem.W.Frag) (f : AA) : TA := fun σ H Q => ∃ ls hp μ ds hp', Rl K H μ ls σ ∧ RelH K H μ hp ∧ f ls hp = some (ds, hp') ∧
  ∀ vs H' μ', Ext μ H μ' H' → RelH K H' μ' hp' → Rps K H' μ' ds vs → Q vs H'
def tL (K : PySem.W.Frag) (f : AA) : TE := fun σ H Q => ∃ ls hp μ ds hp', Rl K H μ ls σ ∧ RelH K H μ hp ∧ f ls hp = some (ds, hp') ∧
  ∀ a vs H' μ', Ext μ H μ' H' → RelH K H' μ' hp' → H a = none → a ∉ μ' → H' a = some (.lst vs) → Rps K H' μ' ds vs → Q (.ref a) H'
abbrev DE (X : Cx) (e : Expr) (f : AE) : Prop := PE X e (tD X.K f)
abbrev DT (X : Cx) (e : Expr) (f : AT) : Prop := PT X e (tT X.K f)
abbrev DW (X : Cx) (e : Expr) (f : AT) : Prop := PW X e (tT X.K f)
abbrev DA (X : Cx) (es : List Expr) (f : AA) : Prop := PA X es (tAs X.K f)
abbrev LE (X : Cx) (e : Expr) (f : AA) : Prop := PE X e (tL X.K f)

theorem PE.imp {X : Cx} {e : Expr} {t t' : TE} (h : PE X e t) (i : ∀ σ H Q, t' σ H Q → t σ H Q) : PE X e t' := ⟨fun pins s σ H Q I q => h.run pins s σ H Q I (i σ H Q q)⟩
theorem PT.imp {X : Cx} {e : Expr} {t t' : TT} (h : PT X e t) (i : ∀ σ H Q, t' σ H Q → t σ H Q) : PT X e t' := ⟨fun pins s σ H Q I q => h.run pins s σ H Q I (i σ H Q q)⟩
theorem PW.imp {X : Cx} {e : Expr} {t t' : TT} (h : PW X e t) (i : ∀ σ H Q, t' σ H Q → t σ H Q) : PW X e t' := ⟨fun w pins s σ H Q I q => h.run w pins s σ H Q I (i σ H Q q)⟩
theorem PA.imp {X : Cx} {e : List Expr} {t t' : TA} (h : PA X e t) (i : ∀ σ H Q, t' σ H Q → t σ H Q) : PA X e t' := ⟨fun p pins s σ H Q I q => h.run p pins s σ H Q I (i σ H Q q)⟩
theorem PS.imp {X : Cx} {e : Stmt} {t t' : TS} (h : PS X e t) (i : ∀ D σ H, t' D σ H → t D σ H) : PS X e t' := ⟨fun pins s σ H Q I q => h.run pins s σ H Q I (i Q σ H q)⟩
theorem PSs.imp {X : Cx} {e : List Stmt} {t t' : TS} (h : PSs X e t) (i : ∀ D σ H, t' D σ H → t D σ H) : PSs X e t' := ⟨fun pins s σ H Q I q => h.run pins s σ H Q I (i Q σ H q)⟩

def mVar (i : Nat) : AE := fun ls hp => match ls[i]? with
  | some (some d) => some (d, hp)
  | _ => none
def mC (d : D) : AE := fun _ hp => some (d, hp)
def m2 (fa fb : AE) (g : D → D → Hd → Option (D × Hd)) : AE := fun ls hp => match fa ls hp with
  | some (a, hp1) => match fb ls hp1 with
    | some (b, hp2) => g a b hp2
    | none => none
  | none => none
def m1 (fa : AE) (g : D → Hd → Option (D × Hd)) : AE := fun ls hp => match fa ls hp with
  | some (a, hp1) => g a hp1
  | none => none
def mT (fa : AE) : AT := fun ls hp => match fa ls hp with
  | some (.bl b, hp1) => some (b, hp1)
  | _ => none
def mTE (fa : AT) : AE := fun ls hp => match fa ls hp with
  | some (b, hp1) => some (.bl b, hp1)
  | _ => none
def mNil : AA := fun _ hp => some ([], hp)
def mCons (fa : AE) (fr : AA) : AA := fun ls hp => match fa ls hp with
  | some (a, hp1) => match fr ls hp1 with
    | some (r, hp2) => some (a :: r, hp2)
    | none => none
  | none => none
def mAs (fa : AA) (g : List D → Hd → Option (D × Hd)) : AE := fun ls hp => match fa ls hp with
  | some (a, hp1) => g a hp1
  | none => none
def mNew (f : AA) : AE := fun ls hp => match f ls hp with
  | some (ds, hp1) => some (.ref hp1.length, hp1 ++ [.lst ds])
  | none => none

section
variable {X : Cx} {e a b : Expr} {es : List Expr} {fa fb : AE} {ft : AT} {fr : AA} {pos : Pos}

theorem de_var (i : Nat) {x : Str} (hN : X.N[i]? = some x := by rfl) (hv : Vis X.env.scope x := by first | exact Or.inl rfl | exact Or.inr (Or.inl rfl) | exact Or.inr (Or.inr rfl))
    (hd : (x == ("__debug__" : Str)) = false := by decide) (hcd : (x == ("__classdict__" : Str)) = false := by decide) : DE X (.Name x pos) (mVar i) :=
  PE.imp (pe_var hN hv hd hcd) fun σ H Q ⟨ls, hp, μ, d, hp', rl, rh, e, q⟩ => by
    unfold mVar at e
    split at e
    · rename_i d' e1
      cases e
      obtain ⟨v, e2, r⟩ := rl.2 i _ e1
      exact ⟨v, e2, q v H μ Ext.refl rh r⟩
    · cases e
theorem de_c {v : V} {d : D} {e : Expr} (h : PE X e (tC v)) (hd : ∀ H μ, Rp X.K H μ d v) : DE X e (mC d) :=
  PE.imp h fun σ H Q ⟨ls, hp, μ, d', hp', rl, rh, e, q⟩ => by
    cases e
    exact q v H μ Ext.refl rh (hd H μ)
theorem de_int {i j} : DE X (.Constant (.int i) j pos) (mC (.int i)) := de_c pe_int fun _ _ => by rw [Rp]
theorem de_bl {c j} : DE X (.Constant (.bool c) j pos) (mC (.bl c)) := de_c pe_bl fun _ _ => by rw [Rp]
theorem de_non {j} : DE X (.Constant .none j pos) (mC .non) := de_c pe_non fun _ _ => by rw [Rp]
theorem de_str {x j} : DE X (.Constant (.str x) j pos) (mC (.str x)) := de_c pe_str fun _ _ => by rw [Rp]

def RD (K : PySem.W.Frag) (g : D → D → Hd → Option (D × Hd)) : R2 := fun x y H Q => ∃ hp μ d1 d2 d hp', RelH K H μ hp ∧ Rp K H μ d1 x ∧ Rp K H μ d2 y ∧ g d1 d2 hp = some (d, hp') ∧
  ∀ v H' μ', Ext μ H μ' H' → RelH K H' μ' hp' → Rp K H' μ' d v → Q v H'
def RD1 (K : PySem.W.Frag) (g : D → Hd → Option (D × Hd)) : V → Hp → VK → Prop := fun x H Q => ∃ hp μ d1 d hp', RelH K H μ hp ∧ Rp K H μ d1 x ∧ g d1 hp = some (d, hp') ∧
  ∀ v H' μ', Ext μ H μ' H' → RelH K H' μ' hp' → Rp K H' μ' d v → Q v H'
def RDs (K : PySem.W.Frag) (g : List D → Hd → Option (D × Hd)) : List V → Hp → VK → Prop := fun xs H Q => ∃ hp μ ds d hp', RelH K H μ hp ∧ Rps K H μ ds xs ∧ g ds hp = some (d, hp') ∧
  ∀ v H' μ', Ext μ H μ' H' → RelH K H' μ' hp' → Rp K H' μ' d v → Q v H'

theorem tOp_of {K : PySem.W.Frag} {g : D → D → Hd → Option (D × Hd)} {σ : St} {H : Hp} {Q : VK} (h : tD K (m2 fa fb g) σ H Q) : tOp (RD K g) (tD K fa) (tD K fb) σ H Q := by
  obtain ⟨ls, hp, μ, d, hp', rl, rh, e, q⟩ := h
  unfold m2 at e
  cases e1 : fa ls hp with
  | none => rw [e1] at e; cases e
  | some p1 =>
    obtain ⟨d1, hp1⟩ := p1
    rw [e1] at e
    dsimp only at e
    cases e2 : fb ls hp1 with
    | none => rw [e2] at e; cases e
    | some p2 =>
      obtain ⟨d2, hp2⟩ := p2
      rw [e2] at e
      dsimp only at e
      exact ⟨ls, hp, μ, d1, hp1, rl, rh, e1, fun v1 H1 μ1 x1 rh1 r1 => ⟨ls, hp1, μ1, d2, hp2, rl.ext x1, rh1, e2, fun v2 H2 μ2 x2 rh2 r2 =>
        ⟨hp2, μ2, d1, d2, d, hp', rh2, r1.ext x2, r2, e, fun v H' μ' x3 rh3 r3 => q v H' μ' ((x1.trans x2).trans x3) rh3 r3⟩⟩⟩
theorem tUn_of {K : PySem.W.Frag} {g : D → Hd → Option (D × Hd)} {σ : St} {H : Hp} {Q : VK} (h : tD K (m1 fa g) σ H Q) : tUn (RD1 K g) (tD K fa) σ H Q := by
  obtain ⟨ls, hp, μ, d, hp', rl, rh, e, q⟩ := h
  unfold m1 at e
  cases e1 : fa ls hp with
  | none => rw [e1] at e; cases e
  | some p1 =>
    obtain ⟨d1, hp1⟩ := p1
    rw [e1] at e
    dsimp only at e
    exact ⟨ls, hp, μ, d1, hp1, rl, rh, e1, fun v1 H1 μ1 x1 rh1 r1 => ⟨hp1, μ1, d1, d, hp', rh1, r1, e, fun v H' μ' x3 rh3 r3 => q v H' μ' (x1.trans x3) rh3 r3⟩⟩
theorem tCB_of {K : PySem.W.Frag} {g : List D → Hd → Option (D × Hd)} {σ : St} {H : Hp} {Q : VK} (h : tD K (mAs fr g) σ H Q) : tCB (RDs K g) (tAs K fr) σ H Q := by
  obtain ⟨ls, hp, μ, d, hp', rl, rh, e, q⟩ := h
  unfold mAs at e
  cases e1 : fr ls hp with
  | none => rw [e1] at e; cases e
  | some p1 =>
    obtain ⟨d1, hp1⟩ := p1
    rw [e1] at e
    dsimp only at e
    exact ⟨ls, hp, μ, d1, hp1, rl, rh, e1, fun v1 H1 μ1 x1 rh1 r1 => ⟨hp1, μ1, d1, d, hp', rh1, r1, e, fun v H' μ' x3 rh3 r3 => q v H' μ' (x1.trans x3) rh3 r3⟩⟩

theorem de_op {op : Operator} {g : D → D → Hd → Option (D × Hd)} (ho : OpR X (binaryOp op) (RD X.K g)) (ha : DE X a fa) (hb : DE X b fb) : DE X (.BinOp a op b pos) (m2 fa fb g) :=
  PE.imp (pe_op ho ha hb) fun _ _ _ h => tOp_of h
theorem de_un {op : UnaryOp} {g : D → Hd → Option (D × Hd)} (ho : UnR X (unaryOp op) (RD1 X.K g)) (ha : DE X a fa) : DE X (.UnaryOp op a pos) (m1 fa g) :=
  PE.imp (pe_un ho ha) fun _ _ _ h => tUn_of h
theorem de_cmp {op : CmpOp} {g : D → D → Hd → Option (D × Hd)} (ho : OpR X (compareOp op) (RD X.K g)) (ha : DE X a fa) (hb : DE X b fb) (hm : behindInMarks op b = false) : DE X (.Compare a [op] [b] pos) (m2 fa fb g) :=
  PE.imp (pe_cmpR ho ha hb hm) fun _ _ _ h => tOp_of h
theorem tTest_of {K : PySem.W.Frag} {t : TE} {f : AE} {σ : St} {H : Hp} {Q : Bool → Hp → Prop} (i : ∀ σ H Q, tD K f σ H Q → t σ H Q) (h : tT K (mT f) σ H Q) : tTest t σ H Q := by
  obtain ⟨ls, hp, μ, c, hp', rl, rh, e, q⟩ := h
  unfold mT at e
  split at e
  · rename_i c' hp1 e1
    cases e
    refine i _ _ _ ⟨ls, hp, μ, .bl c, hp', rl, rh, e1, fun v H' μ' x1 rh1 r1 => ?_⟩
    rw [Rp] at r1
    exact ⟨c, r1, q H' μ' x1 rh1⟩
  · cases e
theorem dt_cmp {op : CmpOp} {g : D → D → Hd → Option (D × Hd)} (ho : OpR X (compareOp op) (RD X.K g)) (ha : DE X a fa) (hb : DE X b fb) (hm : behindInMarks op b = false) : DT X (.Compare a [op] [b] pos) (mT (m2 fa fb g)) :=
  PT.imp (pt_cmpR ho ha hb hm) fun _ _ _ h => tTest_of (fun _ _ _ h => tOp_of h) h

theorem da_nil : DA X [] mNil := PA.imp pa_nil fun σ H Q ⟨ls, hp, μ, ds, hp', rl, rh, e, q⟩ => by
  cases e
  exact q [] H μ Ext.refl rh (by rw [Rps])
theorem da_cons (ha : DE X e fa) (hr : DA X es fr) (hs : starEach (e :: es) X.env = (false, eval e X.env) :: starEach es X.env := by rfl) : DA X (e :: es) (mCons fa fr) :=
  PA.imp (pa_cons ha hr hs) fun σ H Q ⟨ls, hp, μ, ds, hp', rl, rh, e, q⟩ => by
    unfold mCons at e
    cases e1 : fa ls hp with
    | none => rw [e1] at e; cases e
    | some p1 =>
      obtain ⟨d1, hp1⟩ := p1
      rw [e1] at e
      dsimp only at e
      cases e2 : fr ls hp1 with
      | none => rw [e2] at e; cases e
      | some p2 =>
        obtain ⟨d2, hp2⟩ := p2
        rw [e2] at e
        cases e
        exact ⟨ls, hp, μ, d1, hp1, rl, rh, e1, fun v1 H1 μ1 x1 rh1 r1 => ⟨ls, hp1, μ1, d2, hp', rl.ext x1, rh1, e2, fun v2 H2 μ2 x2 rh2 r2 =>
          q _ H2 μ2 (x1.trans x2) rh2 (by rw [Rps]; exact ⟨v1, v2, rfl, r1.ext x2, r2⟩)⟩⟩
theorem Rps.len {K : PySem.W.Frag} {H : Hp} {μ : List Addr} : ∀ {ds : List D} {vs : List V}, Rps K H μ ds vs → vs.length = ds.length
  | [], vs, h => by rw [Rps] at h; rw [h]; rfl
  | d :: ds, vs, h => by
    rw [Rps] at h
    obtain ⟨v, r, e, _, h2⟩ := h
    rw [e, List.length_cons, List.length_cons, Rps.len h2]
def mTup (fr : AA) : AE := fun ls hp => match fr ls hp with
  | some (ds, hp1) => if ds.length ≤ sizeLine then some (.tup ds, hp1) else none
  | none => none
def mLst (fr : AA) : AA := fun ls hp => match fr ls hp with
  | some (ds, hp1) => if ds.length ≤ sizeLine then some (ds, hp1) else none
  | none => none
theorem de_tup {x1} (h : DA X es fr) : DE X (.Tuple es x1 pos) (mTup fr) :=
  PE.imp (pe_tup h) fun σ H Q ⟨ls, hp, μ, d, hp', rl, rh, e, q⟩ => by
    unfold mTup at e
    cases e1 : fr ls hp with
    | none => rw [e1] at e; cases e
    | some p1 =>
      obtain ⟨ds, hp1⟩ := p1
      rw [e1] at e
      dsimp only at e
      split at e
      · rename_i hl
        cases e
        refine ⟨ls, hp, μ, ds, hp', rl, rh, e1, fun vs H1 μ1 x1 rh1 r1 => ⟨by rw [r1.len]; exact hl, fun p hp0 => ?_⟩⟩
        have x2 := Ext.laid rh1 (o := .tup vs) hp0
        exact q _ _ μ1 (x1.trans x2) (rh1.laid hp0) (by rw [Rp]; exact ⟨p, vs, rfl, upd_same, r1.ext x2⟩)
      · cases e
theorem le_lst (h : DA X es fr) : LE X (.List es pos) (mLst fr) :=
  PE.imp (pe_lst h) fun σ H Q ⟨ls, hp, μ, d, hp', rl, rh, e, q⟩ => by
    unfold mLst at e
    cases e1 : fr ls hp with
    | none => rw [e1] at e; cases e
    | some p1 =>
      obtain ⟨ds, hp1⟩ := p1
      rw [e1] at e
      dsimp only at e
      split at e
      · rename_i hl
        cases e
        refine ⟨ls, hp, μ, d, hp', rl, rh, e1, fun vs H1 μ1 x1 rh1 r1 => ⟨by rw [r1.len]; exact hl, fun p hp0 => ?_⟩⟩
        have x2 := Ext.laid rh1 (o := .lst vs) hp0
        have h0 : H p = none := by
          cases hh : H p with
          | none => rfl
          | some o =>
            exfalso
            by_cases hm : p ∈ μ
            · exact rh1.notIn hp0 (by
                obtain ⟨ν, e⟩ := x1.pre
                rw [e]
                exact List.mem_append_left _ hm)
            · have := x1.keep p o hm hh
              rw [hp0] at this
              cases this
        exact q p vs _ μ1 (x1.trans x2) (rh1.laid hp0) h0 (rh1.notIn hp0) upd_same (r1.ext x2)
      · cases e
theorem de_new {f : AA} (h : LE X e f) : DE X e (mNew f) :=
  PE.imp h fun σ H Q ⟨ls, hp, μ, d, hp', rl, rh, e, q⟩ => by
    unfold mNew at e
    cases e1 : f ls hp with
    | none => rw [e1] at e; cases e
    | some p1 =>
      obtain ⟨ds, hp1⟩ := p1
      rw [e1] at e
      cases e
      refine ⟨ls, hp, μ, ds, hp1, rl, rh, e1, fun a vs H1 μ1 x1 rh1 h0 hn hl r1 => ?_⟩
      refine q (.ref a) H1 (μ1 ++ [a]) (x1.place h0) (rh1.place hn ⟨vs, hl, r1.mon Mon.grow⟩) ?_
      rw [Rp]
      refine ⟨a, ?_, rfl⟩
      rw [List.getElem?_append_right (by rw [rh1.len]; exact Nat.le_refl _), rh1.len]
      simp
end
end Ve
namespace Ve
open PySem PySem.Spec L2

def gI (c : Int → Int → Bool) (g : Int → Int → D) : D → D → Hd → Option (D × Hd)
  | .int i, .int j, hp => if c i j then some (g i j, hp) else none
  | _, _, _ => none
theorem gI_some {c : Int → Int → Bool} {g : Int → Int → D} {a b d : D} {hp hp' : Hd} (h : gI c g a b hp = some (d, hp')) : ∃ i j, a = .int i ∧ b = .int j ∧ c i j = true ∧ d = g i j ∧ hp' = hp := by
  unfold gI at h
  split at h
  · rename_i i j
    split at h
    · rename_i hc
      cases h
      exact ⟨i, j, rfl, rfl, hc, rfl, rfl⟩
    · cases h
  · cases h
theorem Rp.intE {K : PySem.W.Frag} {H : Hp} {μ : List Addr} {i : Int} {v : V} (h : Rp K H μ (.int i) v) : v = .int i := by rw [Rp] at h; exact h
theorem Rp.blE {K : PySem.W.Frag} {H : Hp} {μ : List Addr} {i : Bool} {v : V} (h : Rp K H μ (.bl i) v) : v = .bl i := by rw [Rp] at h; exact h
theorem Rp.nonE {K : PySem.W.Frag} {H : Hp} {μ : List Addr} {v : V} (h : Rp K H μ .non v) : v = .non := by rw [Rp] at h; exact h
theorem Rp.strE {K : PySem.W.Frag} {H : Hp} {μ : List Addr} {i : Str} {v : V} (h : Rp K H μ (.str i) v) : v = .str i := by rw [Rp] at h; exact h
theorem Rp.refE {K : PySem.W.Frag} {H : Hp} {μ : List Addr} {n : Nat} {v : V} (h : Rp K H μ (.ref n) v) : ∃ a, μ[n]? = some a ∧ v = .ref a := by rw [Rp] at h; exact h
theorem Rp.scrE {K : PySem.W.Frag} {H : Hp} {μ : List Addr} {ns : List Int} {v : V} (h : Rp K H μ (.scr ns) v) : ∃ a, v = .ref a ∧ ScAt K H a (ns.map V.int) := by rw [Rp] at h; exact h
theorem Rp.tupE {K : PySem.W.Frag} {H : Hp} {μ : List Addr} {ds : List D} {v : V} (h : Rp K H μ (.tup ds) v) : ∃ a vs, v = .ref a ∧ TpAt H a vs ∧ Rps K H μ ds vs := by rw [Rp] at h; exact h
theorem Rp.wtE {K : PySem.W.Frag} {H : Hp} {μ : List Addr} {ds : List D} {v : V} (h : Rp K H μ (.wt ds) v) : ∃ a vs, v = .ref a ∧ WtAt K a vs ∧ Rps K H μ ds vs := by rw [Rp] at h; exact h
theorem Rp.int {K : PySem.W.Frag} {H : Hp} {μ : List Addr} {i : Int} : Rp K H μ (.int i) (.int i) := by rw [Rp]
theorem Rp.bl {K : PySem.W.Frag} {H : Hp} {μ : List Addr} {i : Bool} : Rp K H μ (.bl i) (.bl i) := by rw [Rp]
theorem Rp.non {K : PySem.W.Frag} {H : Hp} {μ : List Addr} : Rp K H μ .non .non := by rw [Rp]
theorem Rp.str {K : PySem.W.Frag} {H : Hp} {μ : List Addr} {i : Str} : Rp K H μ (.str i) (.str i) := by rw [Rp]

section
variable {X : Cx}
theorem op_gI {f : Value → Value → Sem Value} {C : Int → Int → Prop} {c : Int → Int → Bool} {g : Int → Int → Int} (h : OpR X f (rI C fun i j => .int (g i j))) (hc : ∀ i j, c i j = true → C i j) :
    OpR X f (RD X.K (gI c fun i j => .int (g i j))) := fun pins s σ H x y v u Q I rx ry ⟨hp, μ, d1, d2, d, hp', rh, r1, r2, e, q⟩ => by
  obtain ⟨i, j, rfl, rfl, c1, rfl, rfl⟩ := gI_some e
  exact h pins s σ H x y v u Q I rx ry ⟨i, j, r1.intE, r2.intE, hc i j c1, q _ H μ Ext.refl rh Rp.int⟩
theorem op_gI0 {f : Value → Value → Sem Value} {c : Int → Int → Bool} {g : Int → Int → Int} (h : OpR X f (rI0 fun i j => .int (g i j))) :
    OpR X f (RD X.K (gI c fun i j => .int (g i j))) := fun pins s σ H x y v u Q I rx ry ⟨hp, μ, d1, d2, d, hp', rh, r1, r2, e, q⟩ => by
  obtain ⟨i, j, rfl, rfl, c1, rfl, rfl⟩ := gI_some e
  exact h pins s σ H x y v u Q I rx ry ⟨i, j, r1.intE, r2.intE, q _ H μ Ext.refl rh Rp.int⟩
theorem op_gB0 {f : Value → Value → Sem Value} {c : Int → Int → Bool} {g : Int → Int → Bool} (h : OpR X f (rI0 fun i j => .bl (g i j))) :
    OpR X f (RD X.K (gI c fun i j => .bl (g i j))) := fun pins s σ H x y v u Q I rx ry ⟨hp, μ, d1, d2, d, hp', rh, r1, r2, e, q⟩ => by
  obtain ⟨i, j, rfl, rfl, c1, rfl, rfl⟩ := gI_some e
  exact h pins s σ H x y v u Q I rx ry ⟨i, j, r1.intE, r2.intE, q _ H μ Ext.refl rh Rp.bl⟩

def gSub : D → D → Hd → Option (D × Hd) := gI (fun _ _ => true) fun i j => .int (i - j)
def cMul (i j : Int) : Bool := decide (((-(2 ^ 64) < i ∧ i < 2 ^ 64) ∨ (-(2 ^ 64) < j ∧ j < 2 ^ 64)) ∨ i.natAbs.log2 + j.natAbs.log2 < 1000000)
def gMul : D → D → Hd → Option (D × Hd) := gI cMul fun i j => .int (i * j)
def cDiv (_ j : Int) : Bool := decide (0 < j ∧ (j < 1073741824 ∨ j.natAbs.log2 < 9000))
def gDiv : D → D → Hd → Option (D × Hd) := gI cDiv fun i j => .int (i / j)
def gMod : D → D → Hd → Option (D × Hd) := gI (fun _ j => decide (0 < j)) fun i j => .int (i % j)
def cPow (i j : Int) : Bool := decide (0 ≤ j ∧ j ≤ 1000000 ∧ i.natAbs < 2 ^ 64)
def gPow : D → D → Hd → Option (D × Hd) := gI cPow fun i j => .int (i ^ j.toNat)
theorem o_sub : OpR X (binaryOp .Sub) (RD X.K gSub) := op_gI0 op_sub
theorem o_mul : OpR X (binaryOp .Mult) (RD X.K gMul) := fun pins s σ H x y v u Q I rx ry ⟨hp, μ, d1, d2, d, hp', rh, r1, r2, e, q⟩ => by
  obtain ⟨i, j, rfl, rfl, c1, rfl, rfl⟩ := gI_some e
  have q' := q _ H μ Ext.refl rh Rp.int
  rcases of_decide_eq_true c1 with c2 | c2
  · exact op_mul pins s σ H x y v u Q I rx ry ⟨i, j, r1.intE, r2.intE, c2, q'⟩
  · exact op_mulW pins s σ H x y v u Q I rx ry ⟨i, j, r1.intE, r2.intE, c2, q'⟩
theorem o_div : OpR X (binaryOp .FloorDiv) (RD X.K gDiv) := fun pins s σ H x y v u Q I rx ry ⟨hp, μ, d1, d2, d, hp', rh, r1, r2, e, q⟩ => by
  obtain ⟨i, j, rfl, rfl, c1, rfl, rfl⟩ := gI_some e
  have q' := q _ H μ Ext.refl rh Rp.int
  obtain ⟨c0, c2⟩ := of_decide_eq_true c1
  rcases c2 with c2 | c2
  · exact op_fdiv pins s σ H x y v u Q I rx ry ⟨i, j, r1.intE, r2.intE, ⟨c0, c2⟩, q'⟩
  · exact op_fdivW pins s σ H x y v u Q I rx ry ⟨i, j, r1.intE, r2.intE, ⟨c0, c2⟩, q'⟩
theorem o_mod : OpR X (binaryOp .Mod) (RD X.K gMod) := op_gI op_mod fun _ _ h => of_decide_eq_true h
theorem o_pow : OpR X (binaryOp .Pow) (RD X.K gPow) := op_gI op_pow fun i j h => (show 0 ≤ j ∧ j ≤ 1000000 ∧ i.natAbs < 2 ^ 64 from of_decide_eq_true h)
def gNeg : D → Hd → Option (D × Hd)
  | .int i, hp => some (.int (-i), hp)
  | _, _ => none
theorem u_neg : UnR X (unaryOp .USub) (RD1 X.K gNeg) := fun pins s σ H x v Q I rx ⟨hp, μ, d1, d, hp', rh, r1, e, q⟩ => by
  unfold gNeg at e
  split at e
  · rename_i i
    cases e
    exact un_neg pins s σ H x v Q I rx ⟨i, r1.intE, q _ H μ Ext.refl rh Rp.int⟩
  · cases e

def gAdd : D → D → Hd → Option (D × Hd)
  | .int i, .int j, hp => some (.int (i + j), hp)
  | .tup a, .tup b, hp => if a.length + b.length ≤ sizeLine then some (.tup (a ++ b), hp) else none
  | .str a, .str b, hp => if a.length + b.length ≤ sizeLine then some (.str (a ++ b), hp) else none
  | .int i, .bl b, hp => some (.int (i + (if b then 1 else 0)), hp)
  | _, _, _ => none
theorem Rps.append {K : PySem.W.Frag} {H : Hp} {μ : List Addr} : ∀ {a b : List D} {vs ws : List V}, Rps K H μ a vs → Rps K H μ b ws → Rps K H μ (a ++ b) (vs ++ ws)
  | [], b, vs, ws, h, h2 => by rw [Rps] at h; rw [h]; exact h2
  | d :: ds, b, vs, ws, h, h2 => by
    rw [Rps] at h
    obtain ⟨v, r, e, h3, h4⟩ := h
    rw [e, List.cons_append, List.cons_append, Rps]
    exact ⟨v, _, rfl, h3, Rps.append h4 h2⟩
theorem Rps.nil {K : PySem.W.Frag} {H : Hp} {μ : List Addr} : Rps K H μ [] [] := by rw [Rps]
theorem Rps.nil_iff {K : PySem.W.Frag} {H : Hp} {μ : List Addr} {a : List D} {vs : List V} (h : Rps K H μ a vs) : vs = [] ↔ a = [] := by
  have := h.len
  constructor
  · intro e
    rw [e] at this
    exact List.eq_nil_of_length_eq_zero this.symm
  · intro e
    rw [e] at this
    exact List.eq_nil_of_length_eq_zero this
theorem Rp.tup {K : PySem.W.Frag} {H : Hp} {μ : List Addr} {ds : List D} {a : Addr} {vs : List V} (h : H a = some (.tup vs)) (r : Rps K H μ ds vs) : Rp K H μ (.tup ds) (.ref a) := by rw [Rp]; exact ⟨a, vs, rfl, h, r⟩
theorem Rp.tup' {K : PySem.W.Frag} {H : Hp} {μ : List Addr} {ds : List D} {a : Addr} {vs : List V} (h : TpAt H a vs) (r : Rps K H μ ds vs) : Rp K H μ (.tup ds) (.ref a) := by rw [Rp]; exact ⟨a, vs, rfl, h, r⟩
theorem o_add : OpR X (binaryOp .Add) (RD X.K gAdd) := fun pins s σ H x y v u Q I rx ry ⟨hp, μ, d1, d2, d, hp', rh, r1, r2, e, q⟩ => by
  unfold gAdd at e
  split at e
  · rename_i i j
    cases e
    exact op_add pins s σ H x y v u Q I rx ry ⟨i, j, r1.intE, r2.intE, q _ H μ Ext.refl rh Rp.int⟩
  · rename_i a b
    split at e
    · rename_i hl
      cases e
      obtain ⟨p1, vs, e1, t1, q1⟩ := r1.tupE
      obtain ⟨p2, ws, e2, t2, q2⟩ := r2.tupE
      refine op_catA pins s σ H x y v u Q I rx ry ⟨p1, p2, vs, ws, e1, e2, t1.sq, t2.sq, by rw [q1.len, q2.len]; exact hl, fun z => ?_, fun _ z => ?_, fun _ _ p h0 => ?_⟩
      · have := q1.nil_iff.mp z
        subst this
        exact q _ H μ Ext.refl rh (Rp.tup' t2 q2)
      · have := q2.nil_iff.mp z
        subst this
        rw [List.append_nil] at q
        exact q _ H μ Ext.refl rh (Rp.tup' t1 q1)
      · have x2 := Ext.laid rh (o := .tup (vs ++ ws)) h0
        exact q _ _ μ x2 (rh.laid h0) (Rp.tup upd_same ((q1.append q2).ext x2))
    · cases e
  · rename_i a b
    split at e
    · rename_i hl
      cases e
      exact op_add_str pins s σ H x y v u Q I rx ry ⟨a, b, r1.strE, r2.strE, hl, q _ H μ Ext.refl rh Rp.str⟩
    · cases e
  · rename_i i b
    cases e
    exact op_add_ib pins s σ H x y v u Q I rx ry ⟨i, b, r1.intE, r2.blE, q _ H μ Ext.refl rh Rp.int⟩
  · cases e

def gLe : D → D → Hd → Option (D × Hd) := gI (fun _ _ => true) fun i j => .bl (decide (i ≤ j))
def gGt : D → D → Hd → Option (D × Hd) := gI (fun _ _ => true) fun i j => .bl (decide (j < i))
def gGe : D → D → Hd → Option (D × Hd) := gI (fun _ _ => true) fun i j => .bl (decide (j ≤ i))
theorem o_le : OpR X (compareOp .LtE) (RD X.K gLe) := op_gB0 op_le
theorem o_gt : OpR X (compareOp .Gt) (RD X.K gGt) := op_gB0 op_gt
theorem o_ge : OpR X (compareOp .GtE) (RD X.K gGe) := op_gB0 op_ge
def ints? : List D → Option (List Int)
  | [] => some []
  | .int i :: r => (ints? r).map (i :: ·)
  | _ :: _ => none
theorem ints?_eq : ∀ {ds : List D} {ns : List Int}, ints? ds = some ns → ds = ns.map D.int
  | [], ns, h => by cases h; rfl
  | d :: r, ns, h => by
    cases d <;> simp only [ints?] at h <;> try (cases h)
    rename_i i
    cases e : ints? r with
    | none => rw [e] at h; cases h
    | some m =>
      rw [e] at h
      cases h
      rw [ints?_eq e]
      rfl
theorem ints?_map : ∀ ns : List Int, ints? (ns.map D.int) = some ns
  | [] => rfl
  | n :: ns => by
    show (ints? (ns.map D.int)).map (n :: ·) = _
    rw [ints?_map ns]
    rfl
theorem Rps.ints {K : PySem.W.Frag} {H : Hp} {μ : List Addr} : ∀ {ns : List Int} {vs : List V}, Rps K H μ (ns.map D.int) vs → vs = ns.map V.int
  | [], vs, h => by rw [List.map_nil, Rps] at h; rw [h]; rfl
  | n :: ns, vs, h => by
    rw [List.map_cons, Rps] at h
    obtain ⟨v, r, e, h1, h2⟩ := h
    rw [e, h1.intE, Rps.ints h2]
    rfl
theorem Rps.ofInts {K : PySem.W.Frag} {H : Hp} {μ : List Addr} : ∀ {ns : List Int}, Rps K H μ (ns.map D.int) (ns.map V.int)
  | [] => Rps.nil
  | n :: ns => by
    rw [List.map_cons, List.map_cons, Rps]
    exact ⟨_, _, rfl, Rp.int, Rps.ofInts⟩
def gLt : D → D → Hd → Option (D × Hd)
  | .int i, .int j, hp => some (.bl (decide (i < j)), hp)
  | .tup a, .tup b, hp => match ints? a, ints? b with
    | some ns, some ms => some (.bl (HT.lexLt ns ms), hp)
    | _, _ => none
  | _, _, _ => none
theorem o_lt (hu : X.A.units < cLine) : OpR X (compareOp .Lt) (RD X.K gLt) := fun pins s σ H x y v u Q I rx ry ⟨hp, μ, d1, d2, d, hp', rh, r1, r2, e, q⟩ => by
  unfold gLt at e
  split at e
  · rename_i i j
    cases e
    exact op_lt pins s σ H x y v u Q I rx ry ⟨i, j, r1.intE, r2.intE, q _ H μ Ext.refl rh Rp.bl⟩
  · rename_i a b
    split at e
    · rename_i ns ms e1 e2
      cases e
      have z1 := ints?_eq e1
      have z2 := ints?_eq e2
      subst z1 z2
      obtain ⟨p1, vs, f1, t1, q1⟩ := r1.tupE
      obtain ⟨p2, ws, f2, t2, q2⟩ := r2.tupE
      have z1 := q1.ints
      have z2 := q2.ints
      subst z1 z2
      exact op_ltT hu pins s σ H x y v u Q I rx ry ⟨p1, p2, ns, ms, f1, f2, t1.sq, t2.sq, q _ H μ Ext.refl rh Rp.bl⟩
    · cases e
  · cases e

def mapO {α β : Type} (f : α → Option β) : List α → Option (List β)
  | [] => some []
  | x :: r => match f x, mapO f r with
    | some y, some ys => some (y :: ys)
    | _, _ => none
def pyF (hp : Hd) : Nat → D → Option PyData
  | 0, _ => none
  | n + 1, d => match d with
    | .non => some .none
    | .bl b => some (.bool b)
    | .int i => some (.int i)
    | .str x => some (.str x)
    | .tup ds => (mapO (pyF hp n) ds).map .tuple
    | .wt ds => (mapO (pyF hp n) ds).map .tuple
    | .scr ns => some (.list (ns.map .int))
    | .ref k => match hp[k]? with
      | some (.lst xs) => (mapO (pyF hp n) xs).map .list
      | _ => none
theorem DpAll.ints {K : PySem.W.Frag} {H : Hp} : ∀ ns : List Int, DpAll K H (ns.map V.int) (ns.map PyData.int)
  | [] => .nil
  | n :: ns => .cons (.int n) (DpAll.ints ns)
theorem pyF_dp {K : PySem.W.Frag} {H : Hp} {μ : List Addr} {hp : Hd} (rh : RelH K H μ hp) : ∀ (n : Nat) (d : D) (p : PyData) (v : V), pyF hp n d = some p → Rp K H μ d v → Dp K H v p
  | 0, d, p, v, h, _ => by simp [pyF] at h
  | n + 1, d, p, v, h, r => by
    have all : ∀ (ds : List D) (ps : List PyData) (vs : List V), mapO (pyF hp n) ds = some ps → Rps K H μ ds vs → DpAll K H vs ps := by
      intro ds
      induction ds with
      | nil =>
        intro ps vs h r
        rw [Rps] at r
        simp only [mapO] at h
        cases h
        subst r
        exact .nil
      | cons d ds ih =>
        intro ps vs h r
        rw [Rps] at r
        obtain ⟨v, w, e, r1, r2⟩ := r
        subst e
        simp only [mapO] at h
        split at h
        · rename_i y ys e1 e2
          cases h
          exact .cons (pyF_dp rh n d y v e1 r1) (ih _ _ e2 r2)
        · cases h
    cases d with
    | non => simp only [pyF] at h; cases h; cases r.nonE; exact .non
    | bl b => simp only [pyF] at h; cases h; cases r.blE; exact .bl b
    | int i => simp only [pyF] at h; cases h; cases r.intE; exact .int i
    | str x => simp only [pyF] at h; cases h; cases r.strE; exact .str x
    | scr ns =>
      simp only [pyF] at h
      cases h
      obtain ⟨a, rfl, s⟩ := r.scrE
      exact .lst s.sq (DpAll.ints ns)
    | tup ds =>
      simp only [pyF] at h
      obtain ⟨a, vs, rfl, t, q⟩ := r.tupE
      cases e : mapO (pyF hp n) ds with
      | none => rw [e] at h; cases h
      | some ps =>
        rw [e] at h
        cases h
        exact .tup t.sq (all _ _ _ e q)
    | wt ds =>
      simp only [pyF] at h
      obtain ⟨a, vs, rfl, t, q⟩ := r.wtE
      cases e : mapO (pyF hp n) ds with
      | none => rw [e] at h; cases h
      | some ps =>
        rw [e] at h
        cases h
        exact .tup t.sq (all _ _ _ e q)
    | ref k =>
      simp only [pyF] at h
      split at h
      · rename_i xs e0
        obtain ⟨a, ea, rfl⟩ := r.refE
        obtain ⟨a2, ea2, vs, eh, q⟩ := rh.at_ e0
        rw [ea] at ea2
        cases ea2
        cases e : mapO (pyF hp n) xs with
        | none => rw [e] at h; cases h
        | some ps =>
          rw [e] at h
          cases h
          exact .lst (.inl (.inl eh)) (all _ _ _ e q)
      · cases h
def eqH (hp : Hd) (x y : D) : Option Bool := match pyF hp 16 x, pyF hp 16 y with
  | some p, some q => if (SeqAt.shaped p && SeqAt.shaped q) = true then some (PyData.eqv p q) else none
  | _, _ => none
def gEq (x y : D) (hp : Hd) : Option (D × Hd) := match eqH hp x y with
  | some b => some (.bl b, hp)
  | none => none
def gNe (x y : D) (hp : Hd) : Option (D × Hd) := match eqH hp x y with
  | some b => some (.bl (!b), hp)
  | none => none
theorem eqH_some {hp : Hd} {x y : D} {b : Bool} (h : eqH hp x y = some b) : ∃ p q, pyF hp 16 x = some p ∧ pyF hp 16 y = some q ∧ SeqAt.shaped p = true ∧ SeqAt.shaped q = true ∧ b = PyData.eqv p q := by
  unfold eqH at h
  split at h
  · rename_i p q e1 e2
    split at h
    · rename_i hs
      rw [Bool.and_eq_true] at hs
      cases h
      exact ⟨p, q, e1, e2, hs.1, hs.2, rfl⟩
    · cases h
  · cases h
theorem o_eq (hu : X.A.units + 64 < cLine) : OpR X (compareOp .Eq) (RD X.K gEq) := fun pins s σ H x y v u Q I rx ry ⟨hp, μ, d1, d2, d, hp', rh, r1, r2, e, q⟩ => by
  unfold gEq at e
  split at e
  · rename_i b eb
    cases e
    obtain ⟨p, q2, e1, e2, s1, s2, rfl⟩ := eqH_some eb
    exact op_eqD hu pins s σ H x y v u Q I rx ry ⟨p, q2, pyF_dp rh _ _ _ _ e1 r1, pyF_dp rh _ _ _ _ e2 r2, s1, s2, q _ H μ Ext.refl rh Rp.bl⟩
  · cases e
theorem o_ne (hu : X.A.units + 64 < cLine) : OpR X (compareOp .NotEq) (RD X.K gNe) := fun pins s σ H x y v u Q I rx ry ⟨hp, μ, d1, d2, d, hp', rh, r1, r2, e, q⟩ => by
  unfold gNe at e
  split at e
  · rename_i b eb
    cases e
    obtain ⟨p, q2, e1, e2, s1, s2, rfl⟩ := eqH_some eb
    exact op_neD hu pins s σ H x y v u Q I rx ry ⟨p, q2, pyF_dp rh _ _ _ _ e1 r1, pyF_dp rh _ _ _ _ e2 r2, s1, s2, q _ H μ Ext.refl rh Rp.bl⟩
  · cases e
end
end Ve
namespace Ve
open PySem PySem.Spec L2

mutual
def D.same : D → D → Bool
  | .non, .non => true
  | .bl a, .bl b => a == b
  | .int a, .int b => decide (a = b)
  | .str a, .str b => decide (a = b)
  | .ref a, .ref b => a == b
  | .scr a, .scr b => decide (a = b)
  | .tup a, .tup b => D.sames a b
  | .wt a, .wt b => D.sames a b
  | _, _ => false
def D.sames : List D → List D → Bool
  | [], [] => true
  | a :: as, b :: bs => D.same a b && D.sames as bs
  | _, _ => false
end
mutual
theorem D.same_eq : ∀ (a b : D), D.same a b = true → a = b
  | .non, b, h => by cases b <;> simp [D.same] at h ⊢
  | .bl x, b, h => by cases b <;> simp [D.same] at h ⊢ <;> exact h
  | .int x, b, h => by cases b <;> simp [D.same] at h ⊢ <;> exact h
  | .str x, b, h => by cases b <;> simp [D.same] at h ⊢ <;> exact h
  | .ref x, b, h => by cases b <;> simp [D.same] at h ⊢ <;> exact h
  | .scr x, b, h => by cases b <;> simp [D.same] at h ⊢ <;> exact h
  | .tup x, b, h => by
    cases b <;> simp [D.same] at h ⊢
    exact D.sames_eq _ _ h
  | .wt x, b, h => by
    cases b <;> simp [D.same] at h ⊢
    exact D.sames_eq _ _ h
theorem D.sames_eq : ∀ (a b : List D), D.sames a b = true → a = b
  | [], b, h => by cases b <;> simp [D.sames] at h ⊢
  | x :: xs, b, h => by
    cases b with
    | nil => simp [D.sames] at h
    | cons y ys =>
      simp [D.sames] at h
      rw [D.same_eq x y h.1, D.sames_eq xs ys h.2]
end
mutual
theorem D.same_self : ∀ a : D, D.same a a = true
  | .non => by simp [D.same]
  | .bl x => by simp [D.same]
  | .int x => by simp [D.same]
  | .str x => by simp [D.same]
  | .ref x => by simp [D.same]
  | .scr x => by simp [D.same]
  | .tup x => by simp [D.same, D.sames_self x]
  | .wt x => by simp [D.same, D.sames_self x]
theorem D.sames_self : ∀ a : List D, D.sames a a = true
  | [] => by simp [D.sames]
  | x :: xs => by simp [D.sames, D.same_self x, D.sames_self xs]
end

inductive Fl where
  | nx | rt (d : D) | bk | ct
abbrev AS := Ls → Hd → Option (Fl × Ls × Hd)
def En (K : PySem.W.Frag) (Dn : Ends) (fl : Fl) (ls' : Ls) (H' : Hp) (μ' : List Addr) : Prop := match fl with
  | .nx => ∀ σ', Rl K H' μ' ls' σ' → Dn.nx σ' H'
  | .rt d => ∀ v, Rp K H' μ' d v → Dn.rt v H'
  | .bk => ∀ σ', Rl K H' μ' ls' σ' → Dn.bk σ' H'
  | .ct => ∀ σ', Rl K H' μ' ls' σ' → Dn.ct σ' H'
def tS (K : PySem.W.Frag) (f : AS) : TS := fun Dn σ H => ∃ ls hp μ fl ls' hp', Rl K H μ ls σ ∧ RelH K H μ hp ∧ f ls hp = some (fl, ls', hp') ∧
  ∀ H' μ', Ext μ H μ' H' → RelH K H' μ' hp' → En K Dn fl ls' H' μ'
abbrev DS (X : Cx) (e : Stmt) (f : AS) : Prop := PS X e (tS X.K f)
abbrev DSs (X : Cx) (e : List Stmt) (f : AS) : Prop := PSs X e (tS X.K f)

def sNext : AS := fun ls hp => some (.nx, ls, hp)
def sSeq (f g : AS) : AS := fun ls hp => match f ls hp with
  | some (.nx, ls1, hp1) => g ls1 hp1
  | r => r
def sBrk : AS := fun ls hp => some (.bk, ls, hp)
def sCnt : AS := fun ls hp => some (.ct, ls, hp)
def sDrop (f : AE) : AS := fun ls hp => match f ls hp with
  | some (_, hp1) => some (.nx, ls, hp1)
  | none => none
def sRet (f : AE) : AS := fun ls hp => match f ls hp with
  | some (d, hp1) => some (.rt d, ls, hp1)
  | none => none
def sRetN : AS := fun ls hp => some (.rt .non, ls, hp)
def sIf (c : AT) (f g : AS) : AS := fun ls hp => match c ls hp with
  | some (true, hp1) => f ls hp1
  | some (false, hp1) => g ls hp1
  | none => none
def sSet (i : Nat) (f : AE) : AS := fun ls hp => match f ls hp with
  | some (d, hp1) => some (.nx, ls.set i (some d), hp1)
  | none => none
inductive Tg where
  | nm (i : Nat) | tp (ts : List Tg)
mutual
def Tg.asg : Tg → D → Ls → Option Ls
  | .nm i, d, ls => some (ls.set i (some d))
  | .tp ts, .tup ds, ls => Tg.asgs ts ds ls
  | .tp ts, .wt ds, ls => Tg.asgs ts ds ls
  | .tp _, _, _ => none
def Tg.asgs : List Tg → List D → Ls → Option Ls
  | [], [], ls => some ls
  | t :: ts, d :: ds, ls => match Tg.asg t d ls with
    | some ls1 => Tg.asgs ts ds ls1
    | none => none
  | _, _, _ => none
end
mutual
def Tg.slots : Tg → List Nat
  | .nm i => [i]
  | .tp ts => Tg.slotss ts
def Tg.slotss : List Tg → List Nat
  | [] => []
  | t :: ts => Tg.slots t ++ Tg.slotss ts
end
def gD (K : PySem.W.Frag) (t : Tg) : TG := fun v σ H Q => ∃ ls μ d ls', Rl K H μ ls σ ∧ Rp K H μ d v ∧ t.asg d ls = some ls' ∧
  ∀ σ', Rl K H μ ls' σ' → (∀ vs : List Nat, (∀ i ∈ t.slots, i ∈ vs) → wipe σ' vs = wipe σ vs) → Q σ' H
def gDs (K : PySem.W.Frag) (t : List Tg) : TGs := fun v σ H Q => ∃ ls μ d ls', Rl K H μ ls σ ∧ Rps K H μ d v ∧ Tg.asgs t d ls = some ls' ∧
  ∀ σ', Rl K H μ ls' σ' → (∀ vs : List Nat, (∀ i ∈ Tg.slotss t, i ∈ vs) → wipe σ' vs = wipe σ vs) → Q σ' H
abbrev DG (X : Cx) (e : Expr) (t : Tg) : Prop := PG X e (gD X.K t)
abbrev DGs (X : Cx) (e : List Expr) (t : List Tg) : Prop := PGs X e (gDs X.K t)
theorem PG.imp {X : Cx} {e : Expr} {t t' : TG} (h : PG X e t) (i : ∀ v σ H Q, t' v σ H Q → t v σ H Q) : PG X e t' := ⟨fun pins s σ H v u Q I r q => h.run pins s σ H v u Q I r (i v σ H Q q)⟩
theorem PGs.imp {X : Cx} {e : List Expr} {t t' : TGs} (h : PGs X e t) (i : ∀ v σ H Q, t' v σ H Q → t v σ H Q) : PGs X e t' := ⟨fun pins s σ H v u Q I r q => h.run pins s σ H v u Q I r (i v σ H Q q)⟩
theorem Rl.set {K : PySem.W.Frag} {H : Hp} {μ : List Addr} {ls : Ls} {σ : St} {i : Nat} {d : D} {v : V} (h : Rl K H μ ls σ) (r : Rp K H μ d v) : Rl K H μ (ls.set i (some d)) (σ.set i (some v)) := by
  refine ⟨by rw [List.length_set, List.length_set, h.1], fun j e hj => ?_⟩
  by_cases hji : i = j
  · subst hji
    by_cases hl : i < ls.length
    · rw [List.getElem?_set_self hl] at hj
      cases hj
      exact ⟨v, List.getElem?_set_self (by rw [h.1]; exact hl), r⟩
    · rw [List.getElem?_eq_none (by simpa using hl)] at hj
      cases hj
  · rw [List.getElem?_set_ne hji] at hj
    rw [List.getElem?_set_ne hji]
    exact h.2 j e hj
theorem wipe_set {σ : St} {i : Nat} {x : Option V} : ∀ {vs : List Nat}, i ∈ vs → wipe (σ.set i x) vs = wipe σ vs
  | [], h => by cases h
  | v :: vs, h => by
    unfold wipe
    by_cases e : i ∈ vs
    · rw [wipe_set e]
    · rcases List.mem_cons.mp h with z | z
      · subst z
        have go : ∀ (ws : List Nat), i ∉ ws → wipe (σ.set i x) ws = (wipe σ ws).set i x := by
          intro ws
          induction ws with
          | nil => intro _; rfl
          | cons w ws ih =>
            intro hn
            unfold wipe
            rw [ih (fun z => hn (List.mem_cons_of_mem _ z)), List.set_comm _ _ (fun z => hn (by rw [z]; exact List.mem_cons_self))]
        rw [go vs e, List.set_set]
      · exact absurd z e

section
variable {X : Cx} {st : Stmt} {sts rest : List Stmt} {e a b : Expr} {f g : AS} {fa fb : AE} {ft : AT} {fr : AA} {pos : Pos}

theorem dss_nil : DSs X [] sNext := PSs.imp pss_nil fun Dn σ H ⟨ls, hp, μ, fl, ls', hp', rl, rh, e, q⟩ => by
  cases e
  exact q H μ Ext.refl rh σ rl
theorem dss_cons (h1 : DS X st f) (h2 : DSs X rest g) : DSs X (st :: rest) (sSeq f g) :=
  PSs.imp (pss_cons h1 h2) fun Dn σ H ⟨ls, hp, μ, fl, ls', hp', rl, rh, e, q⟩ => by
    unfold sSeq at e
    split at e
    · rename_i ls1 hp1 e1
      exact ⟨ls, hp, μ, .nx, ls1, hp1, rl, rh, e1, fun H1 μ1 x1 rh1 σ1 rl1 => ⟨ls1, hp1, μ1, fl, ls', hp', rl1, rh1, e, fun H' μ' x2 rh2 => q H' μ' (x1.trans x2) rh2⟩⟩
    · rename_i hne
      refine ⟨ls, hp, μ, fl, ls', hp', rl, rh, e, fun H1 μ1 x1 rh1 => ?_⟩
      have q' := q H1 μ1 x1 rh1
      cases fl with
      | nx => exact absurd e (hne ls' hp')
      | rt d => exact q'
      | bk => exact q'
      | ct => exact q'
theorem dss_one (h1 : DS X st f) : DSs X [st] f := PSs.imp (pss_one h1) fun _ _ _ h => h
theorem ds_pass : DS X (.Pass pos) sNext := PS.imp ps_pass fun Dn σ H ⟨ls, hp, μ, fl, ls', hp', rl, rh, e, q⟩ => by
  cases e
  exact q H μ Ext.refl rh σ rl
theorem ds_break : DS X (.Break pos) sBrk := PS.imp ps_break fun Dn σ H ⟨ls, hp, μ, fl, ls', hp', rl, rh, e, q⟩ => by
  cases e
  exact q H μ Ext.refl rh σ rl
theorem ds_continue : DS X (.Continue pos) sCnt := PS.imp ps_continue fun Dn σ H ⟨ls, hp, μ, fl, ls', hp', rl, rh, e, q⟩ => by
  cases e
  exact q H μ Ext.refl rh σ rl
theorem ds_expr (he : DE X e fa) (hs : swapsWith e none pos.line X.env = pure false := by rfl) : DS X (.Expr e pos) (sDrop fa) :=
  PS.imp (ps_expr he hs) fun Dn σ H ⟨ls, hp, μ, fl, ls', hp', rl, rh, e, q⟩ => by
    unfold sDrop at e
    split at e
    · rename_i d hp1 e1
      cases e
      exact ⟨ls, hp, μ, d, hp', rl, rh, e1, fun v H' μ' x1 rh1 r1 => q H' μ' x1 rh1 σ (rl.ext x1)⟩
    · cases e
theorem ds_ret (he : DE X e fa) : DS X (.Return (some e) pos) (sRet fa) :=
  PS.imp (ps_ret he) fun Dn σ H ⟨ls, hp, μ, fl, ls', hp', rl, rh, e, q⟩ => by
    unfold sRet at e
    split at e
    · rename_i d hp1 e1
      cases e
      exact ⟨ls, hp, μ, d, hp', rl, rh, e1, fun v H' μ' x1 rh1 r1 => q H' μ' x1 rh1 v r1⟩
    · cases e
theorem ds_retN : DS X (.Return none pos) sRetN := PS.imp ps_retN fun Dn σ H ⟨ls, hp, μ, fl, ls', hp', rl, rh, e, q⟩ => by
  cases e
  exact q H μ Ext.refl rh .non Rp.non
theorem En.seq {K : PySem.W.Frag} {Dn : Ends} {fl : Fl} {ls' : Ls} {H H1 H' : Hp} {μ μ1 μ' : List Addr} (h : En K Dn fl ls' H' μ') : En K Dn fl ls' H' μ' := h
theorem ds_if {c : Expr} {as bs : List Stmt} (hc : DT X c ft) (ha : DSs X as f) (hb : DSs X bs g) : DS X (.If c as bs pos) (sIf ft f g) :=
  PS.imp (ps_if hc ha hb) fun Dn σ H ⟨ls, hp, μ, fl, ls', hp', rl, rh, e, q⟩ => by
    unfold sIf at e
    split at e
    · rename_i hp1 e1
      exact ⟨ls, hp, μ, true, hp1, rl, rh, e1, fun H1 μ1 x1 rh1 => iteT ⟨ls, hp1, μ1, fl, ls', hp', rl.ext x1, rh1, e, fun H' μ' x2 rh2 => q H' μ' (x1.trans x2) rh2⟩⟩
    · rename_i hp1 e1
      exact ⟨ls, hp, μ, false, hp1, rl, rh, e1, fun H1 μ1 x1 rh1 => iteF ⟨ls, hp1, μ1, fl, ls', hp', rl.ext x1, rh1, e, fun H' μ' x2 rh2 => q H' μ' (x1.trans x2) rh2⟩⟩
    · cases e
theorem ds_set {i : Nat} {x : Str} {pos' : Pos} (hN : X.N.Nodup) (hi : X.N[i]? = some x) (hx : Loc X.env.scope x) (he : DE X e fa) (hs : swapsWith e (some (.Name x pos')) pos.line X.env = pure false := by rfl)
    (hf : X.fn x = true ∨ X.env.scope.names.lookup x = some .local := by first | exact .inl rfl | exact .inr rfl | assumption) : DS X (.Assign [.Name x pos'] e pos) (sSet i fa) :=
  PS.imp (ps_set hN hi hx he hs hf) fun Dn σ H ⟨ls, hp, μ, fl, ls', hp', rl, rh, e, q⟩ => by
    unfold sSet at e
    split at e
    · rename_i d hp1 e1
      cases e
      exact ⟨ls, hp, μ, d, hp', rl, rh, e1, fun v H' μ' x1 rh1 r1 => q H' μ' x1 rh1 _ ((rl.ext x1).set r1)⟩
    · cases e

theorem dg_name {i : Nat} {x : Str} (hN : X.N.Nodup) (hi : X.N[i]? = some x) (hx : Loc X.env.scope x) (hf : X.fn x = true ∨ X.env.scope.names.lookup x = some .local := by first | exact .inl rfl | exact .inr rfl | assumption) :
    DG X (.Name x pos) (.nm i) :=
  PG.imp (pg_name hN hi hx hf) fun v σ H Q ⟨ls, μ, d, ls', rl, r, e, q⟩ => by
    simp only [Tg.asg] at e
    cases e
    exact q _ (rl.set r) fun vs hvs => wipe_set (hvs i (by simp [Tg.slots]))
theorem dgs_nil : DGs X [] [] := PGs.imp pgs_nil fun v σ H Q ⟨ls, μ, d, ls', rl, r, e, q⟩ => by
  cases d with
  | nil =>
    simp only [Tg.asgs] at e
    cases e
    rw [Rps] at r
    exact ⟨r, q σ rl fun _ _ => rfl⟩
  | cons x xs => simp [Tg.asgs] at e
theorem dgs_cons {es : List Expr} {t : Tg} {ts : List Tg} (h1 : DG X e t) (h2 : DGs X es ts) (hs : (assignEach (e :: es) X.env).map (·.2) = assign e X.env :: (assignEach es X.env).map (·.2) := by rfl) : DGs X (e :: es) (t :: ts) :=
  PGs.imp (pgs_cons h1 h2 hs) fun v σ H Q ⟨ls, μ, d, ls', rl, r, e, q⟩ => by
    cases d with
    | nil => simp [Tg.asgs] at e
    | cons x xs =>
      simp only [Tg.asgs] at e
      split at e
      · rename_i ls1 e1
        rw [Rps] at r
        obtain ⟨v1, vs, rfl, r1, r2⟩ := r
        refine ⟨v1, vs, rfl, ls, μ, x, ls1, rl, r1, e1, fun σ1 rl1 w1 => ⟨ls1, μ, xs, ls', rl1, r2, e, fun σ2 rl2 w2 => q σ2 rl2 fun vs hvs => ?_⟩⟩
        rw [w2 vs fun i hi => hvs i (by simp [Tg.slotss, hi]), w1 vs fun i hi => hvs i (by simp [Tg.slotss, hi])]
      · cases e
theorem asgs_len : ∀ {ts : List Tg} {ds : List D} {ls ls' : Ls}, Tg.asgs ts ds ls = some ls' → ds.length = ts.length
  | [], [], _, _, _ => rfl
  | [], _ :: _, _, _, h => by simp [Tg.asgs] at h
  | _ :: _, [], _, _, h => by simp [Tg.asgs] at h
  | t :: ts, d :: ds, ls, ls', h => by
    simp only [Tg.asgs] at h
    split at h
    · rw [List.length_cons, List.length_cons, asgs_len h]
    · cases h
theorem dg_tup {es : List Expr} {k : Nat} {ts : List Tg} (hc : X.calm = true) (h : DGs X es ts) (hn : (assignEach es X.env).length = ts.length := by rfl) (hst : (assignEach es X.env).findIdx? (·.1) = none := by rfl) : DG X (.Tuple es k pos) (.tp ts) :=
  PG.imp (pg_tup (n := ts.length) hc h hn hst) fun v σ H Q ⟨ls, μ, d, ls', rl, r, e, q⟩ => by
    cases d <;> try (simp [Tg.asg] at e; done)
    · rename_i ds
      simp only [Tg.asg] at e
      obtain ⟨a, vs, rfl, t, rs⟩ := r.tupE
      exact ⟨a, vs, rfl, t.sq, by rw [rs.len, asgs_len e], ls, μ, ds, ls', rl, rs, e, fun σ' rl' w => q σ' rl' fun vs hvs => w vs fun i hi => hvs i (by simp [Tg.slots, hi])⟩
    · rename_i ds
      simp only [Tg.asg] at e
      obtain ⟨a, vs, rfl, t, rs⟩ := r.wtE
      exact ⟨a, vs, rfl, t.sq, by rw [rs.len, asgs_len e], ls, μ, ds, ls', rl, rs, e, fun σ' rl' w => q σ' rl' fun vs hvs => w vs fun i hi => hvs i (by simp [Tg.slots, hi])⟩
def sAsg (t : Tg) (f : AE) : AS := fun ls hp => match f ls hp with
  | some (d, hp1) => match t.asg d ls with
    | some ls1 => some (.nx, ls1, hp1)
    | none => none
  | none => none
theorem ds_asg {tg : Expr} {t : Tg} (he : DE X e fa) (hg : DG X tg t) (hs : swapsWithSole [tg] e pos.line X.env = pure false := by rfl) (hsw : swappedStores [tg] e X.env = pure none := by rfl) (h1 : (assignEach [tg] X.env).map (·.2) = [assign tg X.env] := by rfl) : DS X (.Assign [tg] e pos) (sAsg t fa) :=
  PS.imp (ps_asg he hg hs hsw h1) fun Dn σ H ⟨ls, hp, μ, fl, ls', hp', rl, rh, e, q⟩ => by
    unfold sAsg at e
    split at e
    · rename_i d hp1 e1
      split at e
      · rename_i ls1 e2
        cases e
        exact ⟨ls, hp, μ, d, hp', rl, rh, e1, fun v H' μ' x1 rh1 r1 => ⟨ls, μ', d, ls', rl.ext x1, r1, e2, fun σ' rl' _ => q H' μ' x1 rh1 σ' rl'⟩⟩
      · cases e
    · cases e
def sPar (i j : Nat) (f : AA) : AS := fun ls hp => match f ls hp with
  | some ([a, b], hp1) => some (.nx, (ls.set i (some a)).set j (some b), hp1)
  | _ => none
theorem ds_par {i j : Nat} {x y : Str} {px py pt : Pos} {kt k2 pt2} (hc : X.calm = true) (hN : X.N.Nodup) (hi : X.N[i]? = some x) (hj : X.N[j]? = some y) (hij : i ≠ j)
    (hx : X.env.scope.names.lookup x = some .local) (hy : X.env.scope.names.lookup y = some .local) (ha : DA X [a, b] fr)
    (hw : swappedStores [.Tuple [.Name x px, .Name y py] kt pt] (.Tuple [a, b] k2 pt2) X.env = pure (some [x, y]))
    (hs : swapsWithSole [.Tuple [.Name x px, .Name y py] kt pt] (.Tuple [a, b] k2 pt2) pos.line X.env = pure false := by rfl) : DS X (.Assign [.Tuple [.Name x px, .Name y py] kt pt] (.Tuple [a, b] k2 pt2) pos) (sPar i j fr) :=
  PS.imp (ps_par hc hN hi hj hij hx hy ha hw hs) fun Dn σ H ⟨ls, hp, μ, fl, ls', hp', rl, rh, e, q⟩ => by
    unfold sPar at e
    split at e
    · rename_i a b hp1 e1
      cases e
      refine ⟨ls, hp, μ, [a, b], hp', rl, rh, e1, fun vs H' μ' x1 rh1 r1 => ?_⟩
      rw [Rps] at r1
      obtain ⟨v, r, rfl, r1, r2⟩ := r1
      rw [Rps] at r2
      obtain ⟨w, r, rfl, r2, r3⟩ := r2
      rw [Rps] at r3
      subst r3
      exact ⟨v, w, rfl, q H' μ' x1 rh1 _ (((rl.ext x1).set r1).set r2)⟩
    · cases e

def sWhile (c : AT) (b : AS) : Nat → AS
  | 0, _, _ => none
  | n + 1, ls, hp => match c ls hp with
    | some (false, hp1) => some (.nx, ls, hp1)
    | some (true, hp1) => match b ls hp1 with
      | some (.nx, ls2, hp2) => sWhile c b n ls2 hp2
      | some (.ct, ls2, hp2) => sWhile c b n ls2 hp2
      | some (.bk, ls2, hp2) => some (.nx, ls2, hp2)
      | some (.rt d, ls2, hp2) => some (.rt d, ls2, hp2)
      | none => none
    | none => none
theorem ds_while (n : Nat) {c : Expr} {body : List Stmt} (hp : PassesOwn (model X.prog X.w) X.A X.env X.xe) (hc : DT X c ft) (hb : DSs X body f) : DS X (.While c body [] pos) (sWhile ft f n) :=
  PS.imp (ps_while hp hc hb) fun Dn σ H ⟨ls, hp, μ, fl, ls', hp', rl, rh, e, q⟩ => by
    refine ⟨fun m σ1 H1 => ∃ ls1 hp1 μ1, Ext μ H μ1 H1 ∧ Rl X.K H1 μ1 ls1 σ1 ∧ RelH X.K H1 μ1 hp1 ∧ sWhile ft f m ls1 hp1 = some (fl, ls', hp'), ⟨n, ls, hp, μ, Ext.refl, rl, rh, e⟩, ?_⟩
    rintro m σ1 H1 ⟨ls1, hp1, μ1, x1, rl1, rh1, e1⟩
    cases m with
    | zero => simp [sWhile] at e1
    | succ m =>
      simp only [sWhile] at e1
      split at e1
      · rename_i hp2 e2
        cases e1
        exact ⟨ls', hp1, μ1, false, hp', rl1, rh1, e2, fun H2 μ2 x2 rh2 => iteF (q H2 μ2 (x1.trans x2) rh2 σ1 (rl1.ext x2))⟩
      · rename_i hp2 e2
        refine ⟨ls1, hp1, μ1, true, hp2, rl1, rh1, e2, fun H2 μ2 x2 rh2 => iteT ?_⟩
        refine ⟨fun σ' H' => ∃ ls1 hp1 μ1, Ext μ H μ1 H' ∧ Rl X.K H' μ1 ls1 σ' ∧ RelH X.K H' μ1 hp1 ∧ sWhile ft f m ls1 hp1 = some (fl, ls', hp'), fun σ' H' h => ⟨m, Nat.lt_succ_self m, h⟩, ?_⟩
        split at e1
        · rename_i ls3 hp3 e3
          exact ⟨ls1, hp2, μ2, .nx, ls3, hp3, rl1.ext x2, rh2, e3, fun H3 μ3 x3 rh3 σ3 rl3 => ⟨ls3, hp3, μ3, (x1.trans x2).trans x3, rl3, rh3, e1⟩⟩
        · rename_i ls3 hp3 e3
          exact ⟨ls1, hp2, μ2, .ct, ls3, hp3, rl1.ext x2, rh2, e3, fun H3 μ3 x3 rh3 σ3 rl3 => ⟨ls3, hp3, μ3, (x1.trans x2).trans x3, rl3, rh3, e1⟩⟩
        · rename_i ls3 hp3 e3
          cases e1
          exact ⟨ls1, hp2, μ2, .bk, _, _, rl1.ext x2, rh2, e3, fun H3 μ3 x3 rh3 σ3 rl3 => q H3 μ3 ((x1.trans x2).trans x3) rh3 σ3 rl3⟩
        · rename_i d ls3 hp3 e3
          cases e1
          exact ⟨ls1, hp2, μ2, .rt d, _, _, rl1.ext x2, rh2, e3, fun H3 μ3 x3 rh3 => q H3 μ3 ((x1.trans x2).trans x3) rh3⟩
        · cases e1
      · cases e1

abbrev Gd := List (Nat × List D)
def gdOk : Gd → Hd → Bool
  | [], _ => true
  | (n, xs) :: r, hp => (match hp[n]? with
    | some (.lst ys) => D.sames ys xs
    | _ => false) && gdOk r hp
abbrev AI := Ls → Hd → Option (List D × Gd × Hd)
def Wk (K : PySem.W.Frag) (J : It) (items : List D) (gd : Gd) (μ : List Addr) (H : Hp) : Prop :=
  ∀ i H2 μ2 hp2, Ext μ H μ2 H2 → RelH K H2 μ2 hp2 → gdOk gd hp2 = true →
    (items.length ≤ i → J.stop i H2) ∧ (i < items.length → J.go i H2 ∧ ∀ x H3, J.yld i H2 x H3 → ∃ d, items[i]? = some d ∧ Ext μ2 H2 μ2 H3 ∧ RelH K H3 μ2 hp2 ∧ Rp K H3 μ2 d x)
def tI (K : PySem.W.Frag) (f : AI) : TI := fun σ H R => ∃ ls hp μ items gd hp', Rl K H μ ls σ ∧ RelH K H μ hp ∧ f ls hp = some (items, gd, hp') ∧
  ∀ J H' μ', Ext μ H μ' H' → RelH K H' μ' hp' → Wk K J items gd μ' H' → R J H'
abbrev DI (X : Cx) (tg e : Expr) (f : AI) : Prop := PI X tg e (tI X.K f)
theorem PI.imp {X : Cx} {tg e : Expr} {t t' : TI} (h : PI X tg e t) (i : ∀ σ H Q, t' σ H Q → t σ H Q) : PI X tg e t' := ⟨fun pins s σ H Q I q => h.run pins s σ H Q I (i σ H Q q)⟩
theorem PI.or {X : Cx} {tg e : Expr} {t t' : TI} (h : PI X tg e t) (h' : PI X tg e t') : PI X tg e (fun σ H Q => t σ H Q ∨ t' σ H Q) := ⟨fun pins s σ H Q I q => q.elim (h.run pins s σ H Q I) (h'.run pins s σ H Q I)⟩

def sFor (t : Tg) (gd : Gd) (b : AS) : List D → AS
  | [], ls, hp => if gdOk gd hp then some (.nx, ls, hp) else none
  | x :: xs, ls, hp => if gdOk gd hp then match t.asg x ls with
    | some ls1 => match b ls1 hp with
      | some (.nx, ls2, hp2) => sFor t gd b xs ls2 hp2
      | some (.ct, ls2, hp2) => sFor t gd b xs ls2 hp2
      | some (.bk, ls2, hp2) => some (.nx, ls2, hp2)
      | some (.rt d, ls2, hp2) => some (.rt d, ls2, hp2)
      | none => none
    | none => none else none
def sForI (fi : AI) (t : Tg) (b : AS) : AS := fun ls hp => match fi ls hp with
  | some (items, gd, hp1) => sFor t gd b items ls hp1
  | none => none
theorem ds_for {iter tg : Expr} {body : List Stmt} {fi : AI} {t : Tg} (hp : PassesOwn (model X.prog X.w) X.A X.env X.xe) (hc : X.calm = true) (hi : DI X tg iter fi) (hg : DG X tg t) (hb : DSs X body f)
    (hs : ∀ x, foldedSetIterable iter X.env x = pure x := by intro _; rfl) : DS X (.For tg iter body [] pos) (sForI fi t f) :=
  PS.imp (ps_for hp hc hi hg hb hs) fun Dn σ H ⟨ls, hp, μ, fl, ls', hp', rl, rh, e, q⟩ => by
    unfold sForI at e
    split at e
    · rename_i items gd hp1 e1
      refine ⟨ls, hp, μ, items, gd, hp1, rl, rh, e1, fun J H1 μ1 x1 rh1 wk => ?_⟩
      refine ⟨fun i m σ2 H2 => m + i = items.length ∧ ∃ ls2 hp2 μ2, Ext μ1 H1 μ2 H2 ∧ Rl X.K H2 μ2 ls2 σ2 ∧ RelH X.K H2 μ2 hp2 ∧ sFor t gd f (items.drop i) ls2 hp2 = some (fl, ls', hp'),
        ⟨items.length, by omega, ls, hp1, μ1, Ext.refl, rl.ext x1, rh1, e⟩, ?_⟩
      rintro i m σ2 H2 ⟨hm, ls2, hp2, μ2, x2, rl2, rh2, e2⟩
      by_cases hi : i < items.length
      · have hd : items.drop i = items[i] :: items.drop (i + 1) := List.drop_eq_getElem_cons hi
        rw [hd] at e2
        simp only [sFor] at e2
        split at e2
        · rename_i hgd
          obtain ⟨_, w2⟩ := wk i H2 μ2 hp2 x2 rh2 hgd
          obtain ⟨w3, w4⟩ := w2 hi
          refine .inr ⟨w3, fun σ' H' => m - 1 + (i + 1) = items.length ∧ ∃ ls2 hp2 μ2, Ext μ1 H1 μ2 H' ∧ Rl X.K H' μ2 ls2 σ' ∧ RelH X.K H' μ2 hp2 ∧ sFor t gd f (items.drop (i + 1)) ls2 hp2 = some (fl, ls', hp'),
            fun σ' H' h => ⟨m - 1, by omega, h⟩, fun x H3 hy => ?_⟩
          obtain ⟨d, ed, x3, rh3, r3⟩ := w4 x H3 hy
          rw [List.getElem?_eq_getElem hi] at ed
          cases ed
          split at e2
          · rename_i ls3 e3
            refine ⟨ls2, μ2, _, ls3, rl2.ext x3, r3, e3, fun σ3 rl3 _ => ?_⟩
            have hm' : m - 1 + (i + 1) = items.length := by omega
            split at e2
            · rename_i ls4 hp4 e4
              exact ⟨ls3, hp2, μ2, .nx, ls4, hp4, rl3, rh3, e4, fun H5 μ5 x5 rh5 σ5 rl5 => ⟨hm', ls4, hp4, μ5, (x2.trans x3).trans x5, rl5, rh5, e2⟩⟩
            · rename_i ls4 hp4 e4
              exact ⟨ls3, hp2, μ2, .ct, ls4, hp4, rl3, rh3, e4, fun H5 μ5 x5 rh5 σ5 rl5 => ⟨hm', ls4, hp4, μ5, (x2.trans x3).trans x5, rl5, rh5, e2⟩⟩
            · rename_i ls4 hp4 e4
              cases e2
              exact ⟨ls3, hp2, μ2, .bk, _, _, rl3, rh3, e4, fun H5 μ5 x5 rh5 σ5 rl5 => q H5 μ5 (x1.trans ((x2.trans x3).trans x5)) rh5 σ5 rl5⟩
            · rename_i d ls4 hp4 e4
              cases e2
              exact ⟨ls3, hp2, μ2, .rt d, _, _, rl3, rh3, e4, fun H5 μ5 x5 rh5 => q H5 μ5 (x1.trans ((x2.trans x3).trans x5)) rh5⟩
            · cases e2
          · cases e2
        · cases e2
      · rw [List.drop_eq_nil_of_le (by omega)] at e2
        simp only [sFor] at e2
        split at e2
        · rename_i hgd
          cases e2
          obtain ⟨w1, _⟩ := wk i H2 μ2 _ x2 rh2 hgd
          exact .inl ⟨w1 (by omega), q H2 μ2 (x1.trans x2) rh2 σ2 rl2⟩
        · cases e2
    · cases e
end
end Ve
namespace Ve
open PySem PySem.Spec L2

section
variable {K : PySem.W.Frag} {H H' H2 : Hp} {μ μ' μ2 : List Addr} {hp hp' : Hd} {ls : Ls} {σ : St}
theorem Ext.back (x : Ext μ H μ' H') (r : RelH K H' μ' hp) {p : Addr} (h : H' p = none) : H p = none := by
  cases hh : H p with
  | none => rfl
  | some o =>
    exfalso
    by_cases hm : p ∈ μ
    · exact r.notIn h (by
        obtain ⟨ν, e⟩ := x.pre
        rw [e]
        exact List.mem_append_left _ hm)
    · have := x.keep p o hm hh
      rw [h] at this
      cases this
theorem Mon.loose {D : Addr} {xs : List V} {o : HO} (h : H D = some (.lst xs)) : Mon μ H μ (upd H D o) :=
  ⟨⟨[], by simp⟩, fun a ys e => by rw [upd_ne (fun z => by subst z; rw [h] at e; cases e)]; exact e, fun a ob ys e => by rw [upd_ne (fun z => by subst z; rw [h] at e; cases e)]; exact e⟩
theorem RelH.loose (r : RelH K H μ hp) {D : Addr} {xs : List V} {o : HO} (h : H D = some (.lst xs)) (hn : D ∉ μ) : RelH K (upd H D o) μ hp :=
  ⟨r.len, r.nd, fun n ob a e1 e2 => by
    rw [upd_ne (fun z => hn (by rw [← z]; exact List.mem_of_getElem? e2))]
    exact (r.obj n ob a e1 e2).mon (Mon.loose h)⟩
theorem Ext.loose (x : Ext μ H μ' H') {D : Addr} {o : HO} (h : H D = none) : Ext μ H μ' (upd H' D o) :=
  ⟨x.pre, x.new, fun a u n e => by rw [upd_ne (ne_of_none e h)]; exact x.keep a u n e, fun a xs e => by rw [upd_ne (ne_of_none e h)]; exact x.tups a xs e, fun a ob xs e => by rw [upd_ne (ne_of_none e h)]; exact x.scrs a ob xs e⟩
end

def wipeL (ls : Ls) : List Nat → Ls
  | [] => ls
  | v :: vs => (wipeL ls vs).set v none
theorem wipeL_length (ls : Ls) : ∀ vs : List Nat, (wipeL ls vs).length = ls.length
  | [] => rfl
  | v :: vs => by unfold wipeL; rw [List.length_set, wipeL_length ls vs]
theorem Rl.wipe {K : PySem.W.Frag} {H : Hp} {μ : List Addr} {ls : Ls} {σ : St} (h : Rl K H μ ls σ) : ∀ vs : List Nat, Rl K H μ (wipeL ls vs) (wipe σ vs)
  | [] => h
  | v :: vs => by
    have ih := Rl.wipe h vs
    unfold wipeL L2.wipe
    refine ⟨by rw [List.length_set, List.length_set, ih.1], fun j e hj => ?_⟩
    by_cases hv : v = j
    · subst hv
      by_cases hl : v < (wipeL ls vs).length
      · rw [List.getElem?_set_self hl] at hj
        cases hj
      · rw [List.getElem?_eq_none (by simpa using hl)] at hj
        cases hj
    · rw [List.getElem?_set_ne hv] at hj
      rw [List.getElem?_set_ne hv]
      exact ih.2 j e hj
theorem wipe_none {σ : St} {v : Nat} : ∀ us : List Nat, v ∈ us → (wipe σ us).set v none = wipe σ us
  | [], h => by cases h
  | u :: us, h => by
    show ((wipe σ us).set u none).set v none = (wipe σ us).set u none
    by_cases hu : v = u
    · subst hu
      rw [List.set_set]
    · rcases List.mem_cons.mp h with z | z
      · exact absurd z hu
      · rw [List.set_comm _ _ (Ne.symm hu), wipe_none us z]
theorem wipe_key {σ : St} (vs : List Nat) : ∀ ws : List Nat, (∀ i ∈ ws, i ∈ vs) → wipe (wipe σ vs) ws = wipe σ vs
  | [], _ => rfl
  | v :: ws, hv => by
    show (wipe (wipe σ vs) ws).set v none = wipe σ vs
    rw [wipe_key vs ws fun i hi => hv i (List.mem_cons_of_mem _ hi)]
    exact wipe_none vs (hv v List.mem_cons_self)
theorem wipe_idem {σ : St} (vs : List Nat) : wipe (wipe σ vs) vs = wipe σ vs := wipe_key vs vs fun _ h => h
def tYesD : AT := fun _ hp => some (true, hp)
abbrev DTs (X : Cx) (es : List Expr) (f : AT) : Prop := PTs X es (tT X.K f)
def lcGo (t : Tg) (gd : Gd) (tt : AT) (te : AE) (ls0 : Ls) : List D → Hd → Option (List D × Hd)
  | [], hp => if gdOk gd hp then some ([], hp) else none
  | x :: xs, hp => if gdOk gd hp then match t.asg x ls0 with
    | some ls1 => match tt ls1 hp with
      | some (true, hp1) => match te ls1 hp1 with
        | some (d, hp2) => match lcGo t gd tt te ls0 xs hp2 with
          | some (r, hp3) => some (d :: r, hp3)
          | none => none
        | none => none
      | some (false, hp1) => lcGo t gd tt te ls0 xs hp1
      | none => none
    | none => none else none
def mLc (fi : AI) (t : Tg) (own : List Nat) (tt : AT) (te : AE) : AA := fun ls hp => match fi ls hp with
  | some (items, gd, hp1) => if items.length ≤ sizeLine then lcGo t gd tt te (wipeL ls own) items hp1 else none
  | none => none
theorem PTs.imp {X : Cx} {e : List Expr} {t t' : TT} (h : PTs X e t) (i : ∀ σ H Q, t' σ H Q → t σ H Q) : PTs X e t' := ⟨fun pins s σ H Q I q => h.run pins s σ H Q I (i σ H Q q)⟩

section
variable {X : Cx} {e elt tg iter : Expr} {es ifs : List Expr} {fi : AI} {t : Tg} {tt : AT} {te fa : AE} {fr : AA} {pos : Pos}
theorem dts_nil : DTs X [] tYesD := PTs.imp pts_nil fun σ H Q ⟨ls, hp, μ, b, hp', rl, rh, e, q⟩ => by
  cases e
  exact q H μ Ext.refl rh
theorem dts_one {c : Expr} (h : DT X c tt) : DTs X [c] tt := pts_one h

theorem tLc_of {K : PySem.W.Frag} {own : List Nat} {σ : St} {H : Hp} {Q : VK} (ho : ∀ i ∈ t.slots, i ∈ own) (h : tL K (mLc fi t own tt te) σ H Q) : tLc (tI K fi) (gD K t) (tT K tt) (tD K te) own σ H Q := by
  obtain ⟨ls, hp, μ, ds, hp', rl, rh, e, q⟩ := h
  unfold mLc at e
  split at e
  · rename_i items gd hp1 e1
    split at e
    · rename_i hsz
      refine ⟨ls, hp, μ, items, gd, hp1, rl, rh, e1, fun J H1 μ1 x1 rh1 wk D hD => ?_⟩
      have hD0 : H D = none := x1.back rh1 hD
      refine ⟨fun i m H2 => m + i = items.length ∧ ∃ acc accV r hp2 μ2, Ext μ1 H1 μ2 H2 ∧ D ∉ μ2 ∧ RelH K H2 μ2 hp2 ∧ H2 D = some (.lst accV) ∧ Rps K H2 μ2 acc accV ∧ acc.length ≤ i ∧
        lcGo t gd tt te (wipeL ls own) (items.drop i) hp2 = some (r, hp') ∧ acc ++ r = ds,
        ⟨items.length, by omega, [], [], ds, hp1, μ1, Ext.laid rh1 hD, rh1.notIn hD, rh1.laid hD, upd_same, Rps.nil, Nat.le_refl _, e, rfl⟩, ?_⟩
      rintro i m H2 ⟨hm, acc, accV, r, hp2, μ2, x2, nD, rh2, eD, ra, hl, e2, er⟩
      by_cases hi : i < items.length
      · have hd : items.drop i = items[i] :: items.drop (i + 1) := List.drop_eq_getElem_cons hi
        rw [hd] at e2
        simp only [lcGo] at e2
        split at e2
        · rename_i hgd
          obtain ⟨_, w2⟩ := wk i H2 μ2 hp2 x2 rh2 hgd
          obtain ⟨w3, w4⟩ := w2 hi
          refine .inr ⟨w3, fun H' => m - 1 + (i + 1) = items.length ∧ ∃ acc accV r hp2 μ2, Ext μ1 H1 μ2 H' ∧ D ∉ μ2 ∧ RelH K H' μ2 hp2 ∧ H' D = some (.lst accV) ∧ Rps K H' μ2 acc accV ∧ acc.length ≤ i + 1 ∧
            lcGo t gd tt te (wipeL ls own) (items.drop (i + 1)) hp2 = some (r, hp') ∧ acc ++ r = ds, fun H' h => ⟨m - 1, by omega, h⟩, fun x H3 hy => ?_⟩
          have hm' : m - 1 + (i + 1) = items.length := by omega
          obtain ⟨d, ed, x3, rh3, r3⟩ := w4 x H3 hy
          rw [List.getElem?_eq_getElem hi] at ed
          cases ed
          have eD3 : H3 D = some (.lst accV) := x3.keep _ _ nD eD
          split at e2
          · rename_i ls3 e3
            have rl3 := ((((rl.ext x1).ext x2).ext x3).wipe own)
            refine ⟨wipeL ls own, μ2, _, ls3, rl3, r3, e3, fun σ3 rl4 w => ⟨?_, ls3, hp2, μ2, ?_⟩⟩
            · rw [w own ho]
              exact wipe_idem own
            · split at e2
              · rename_i hp4 e4
                refine ⟨true, hp4, rl4, rh3, e4, fun H4 μ4 x4 rh4 => iteT ?_⟩
                have nD4 : D ∉ μ4 := x4.new _ _ nD eD3
                have eD4 : H4 D = some (.lst accV) := x4.keep _ _ nD eD3
                split at e2
                · rename_i d5 hp5 e5
                  split at e2
                  · rename_i r6 hp6 e6
                    cases e2
                    refine ⟨ls3, hp4, μ4, d5, hp5, rl4.ext x4, rh4, e5, fun y H5 μ5 x5 rh5 r5 => ?_⟩
                    have nD5 : D ∉ μ5 := x5.new _ _ nD4 eD4
                    have eD5 : H5 D = some (.lst accV) := x5.keep _ _ nD4 eD4
                    have x15 := (((x2.trans x3).trans x4).trans x5)
                    have ra5 := ((ra.ext x3).ext x4).ext x5
                    refine ⟨accV, eD5, ?_, hm', acc ++ [d5], accV ++ [y], r6, hp5, μ5, x15.loose hD, nD5, rh5.loose eD5 nD5, upd_same, ?_, ?_, e6, ?_⟩
                    · rw [ra.len]
                      omega
                    · have mo : Mon μ5 H5 μ5 (upd H5 D (.lst (accV ++ [y]))) := Mon.loose eD5
                      refine (ra5.append ?_).mon mo
                      rw [Rps]
                      exact ⟨y, [], rfl, r5, Rps.nil⟩
                    · rw [List.length_append]
                      simp
                      omega
                    · rw [← er, List.append_assoc]
                      rfl
                  · cases e2
                · cases e2
              · rename_i hp4 e4
                refine ⟨false, hp4, rl4, rh3, e4, fun H4 μ4 x4 rh4 => iteF ⟨hm', acc, accV, r, hp4, μ4, (x2.trans x3).trans x4, x4.new _ _ nD eD3, rh4, x4.keep _ _ nD eD3, (ra.ext x3).ext x4, by omega, e2, er⟩⟩
              · cases e2
          · cases e2
        · cases e2
      · rw [List.drop_eq_nil_of_le (by omega)] at e2
        simp only [lcGo] at e2
        split at e2
        · rename_i hgd
          cases e2
          obtain ⟨w1, _⟩ := wk i H2 μ2 _ x2 rh2 hgd
          rw [List.append_nil] at er
          subst er
          exact .inl ⟨w1 (by omega), q D accV H2 μ2 (x1.trans x2) rh2 hD0 nD eD ra⟩
        · cases e2
    · cases e
  · cases e
theorem le_lc {ifs : List Expr} {scope : Scope} {own : List (Str × Nat)} (hc : X.calm = true) (hN : X.N.Nodup) (hi : DI X tg iter fi) (ok : BlkOk X.N X.env.scope scope own)
    (hg : ∀ (s : Shared) (H : Hp) (C : Addr) (cl : List (Str × Addr)) (fp : List Addr), DG (X.blk s H scope (compEnvC scope cl C X.env) fp) tg t) (ht : ∀ (s : Shared) (H : Hp) (C : Addr) (cl : List (Str × Addr)) (fp : List Addr), DTs (X.blk s H scope (compEnvC scope cl C X.env) fp) ifs tt)
    (he : ∀ (s : Shared) (H : Hp) (C : Addr) (cl : List (Str × Addr)) (fp : List Addr), DE (X.blk s H scope (compEnvC scope cl C X.env) fp) elt te) (ho : ∀ i ∈ t.slots, i ∈ own.map (·.2) := by decide) (hs : ∀ x, foldedSetIterable iter X.env x = pure x := by intro _; rfl) :
    LE X (.ListComp elt [⟨tg, iter, ifs, 0⟩] scope pos) (mLc fi t (own.map (·.2)) tt te) :=
  PE.imp (pe_lc hc hN hi ok hg ht he hs) fun _ _ _ h => tLc_of ho h
theorem ds_setLc {i : Nat} {y : Str} {py spos : Pos} {scope : Scope} {own : List (Str × Nat)} (hc : X.calm = true) (hN : X.N.Nodup) (hy : X.N[i]? = some y) (hyl : X.env.scope.names.lookup y = some .local)
    (hsw : swapsWith (.ListComp elt [⟨tg, iter, ifs, 0⟩] scope pos) (some (.Name y py)) spos.line X.env = pure true) (hi : DI X tg iter fi) (ok : BlkOk X.N X.env.scope scope own)
    (hg : ∀ (s : Shared) (H : Hp) (C : Addr) (cl : List (Str × Addr)) (fp : List Addr), DG (X.blk s H scope (compEnvC scope cl C X.env) fp) tg t) (ht : ∀ (s : Shared) (H : Hp) (C : Addr) (cl : List (Str × Addr)) (fp : List Addr), DTs (X.blk s H scope (compEnvC scope cl C X.env) fp) ifs tt)
    (he : ∀ (s : Shared) (H : Hp) (C : Addr) (cl : List (Str × Addr)) (fp : List Addr), DE (X.blk s H scope (compEnvC scope cl C X.env) fp) elt te) (ho : ∀ i ∈ t.slots, i ∈ own.map (·.2) := by decide) (hs : ∀ x, foldedSetIterable iter X.env x = pure x := by intro _; rfl) :
    DS X (.Assign [.Name y py] (.ListComp elt [⟨tg, iter, ifs, 0⟩] scope pos) spos) (sSet i (mNew (mLc fi t (own.map (·.2)) tt te))) :=
  PS.imp (ps_setLc (g := gD X.K t) (tt := tT X.K tt) (te := tD X.K te) hc hN hy hyl hsw hi ok hg ht he hs) fun Dn σ H ⟨ls, hp, μ, fl, ls', hp', rl, rh, e, q⟩ => by
    refine tLc_of (K := X.K) (tt := tt) (te := te) ho ?_
    unfold sSet mNew at e
    cases e1 : mLc fi t (own.map (·.2)) tt te ls hp with
    | none => rw [e1] at e; cases e
    | some p1 =>
      obtain ⟨ds, hp1⟩ := p1
      rw [e1] at e
      cases e
      refine ⟨ls, hp, μ, ds, hp1, rl, rh, e1, fun a vs H1 μ1 x1 rh1 h0 hn hl r1 => ?_⟩
      refine q H1 (μ1 ++ [a]) (x1.place h0) (rh1.place hn ⟨vs, hl, r1.mon Mon.grow⟩) _ ((rl.ext (x1.place h0)).set ?_)
      rw [Rp]
      refine ⟨a, ?_, rfl⟩
      rw [List.getElem?_append_right (by rw [rh1.len]; exact Nat.le_refl _), rh1.len]
      simp

def spD (K : PySem.W.Frag) (n : Nat) (g : List D → Hd → Option (D × Hd)) : Sp := fun vs H Q _ => ∃ hp μ ds d hp', ds.length = n ∧ RelH K H μ hp ∧ Rps K H μ ds vs ∧ g ds hp = some (d, hp') ∧
  ∀ v H' μ', Ext μ H μ' H' → RelH K H' μ' hp' → Rp K H' μ' d v → Q v H'
def ar (n : Nat) (g : List D → Hd → Option (D × Hd)) : List D → Hd → Option (D × Hd) := fun ds hp => if ds.length = n then g ds hp else none
theorem de_call {k : Nat} {f : Addr} {fd : FuncData} {ps : List Str} {n : Nat} {g : List D → Hd → Option (D × Hd)} {x : Str} {p : Pos} (F : FnOk X.prog X.w X.K X.mg X.base CX0 k f fd ps (spD X.K n g)) (hr : Room k X.A) (hg : Gl X x) (hm : X.mg x = some (.ref f)) (hk : PySem.W.keepIn X.K (.ref f) = true)
    (hb : Binds X.K fd ps []) (ha : DA X (e :: es) fr) (hdb : (x == ("__debug__" : Str)) = false := by decide) (he : starEach (e :: es) X.env = (false, eval e X.env) :: starEach es X.env := by rfl) (hpl : (backTo pos (starEach es X.env)).any (·.1) = false := by rfl) :
    DE X (.Call (.Name x p) (e :: es) [] pos) (mAs fr (ar n g)) :=
  PE.imp (pe_call F hr hg hm hk hb .nil pass0 ha hdb he hpl) fun σ H Q h => by
    obtain ⟨ls, hp, μ, d, hp', rl, rh, e, q⟩ := h
    unfold mAs at e
    cases e1 : fr ls hp with
    | none => rw [e1] at e; cases e
    | some p1 =>
      obtain ⟨ds, hp1⟩ := p1
      rw [e1] at e
      simp only [ar] at e
      split at e
      · rename_i hn
        refine ⟨ls, hp, μ, ds, hp1, rl, rh, e1, fun vs H1 μ1 x1 rh1 r1 => ?_⟩
        show spD X.K n g (vs ++ []) H1 Q E0
        rw [List.append_nil]
        exact ⟨hp1, μ1, ds, d, hp', hn, rh1, r1, e, fun v H' μ' x2 rh2 r2 => q v H' μ' (x1.trans x2) rh2 r2⟩
      · cases e
theorem de_call0 {k : Nat} {f : Addr} {fd : FuncData} {ps : List Str} {n : Nat} {g : List D → Hd → Option (D × Hd)} {x : Str} {p : Pos} (F : FnOk X.prog X.w X.K X.mg X.base CX0 k f fd ps (spD X.K n g)) (hr : Room k X.A) (hg : Gl X x) (hm : X.mg x = some (.ref f)) (hk : PySem.W.keepIn X.K (.ref f) = true)
    (hb : Binds X.K fd ps []) (hdb : (x == ("__debug__" : Str)) = false := by decide) :
    DE X (.Call (.Name x p) [] [] pos) (mAs mNil (ar n g)) :=
  PE.imp (pe_call0 F hr hg hm hk hb .nil pass0 hdb) fun σ H Q h => by
    obtain ⟨ls, hp, μ, d, hp', rl, rh, e, q⟩ := h
    simp only [mAs, mNil, ar] at e
    split at e
    · rename_i hn
      exact ⟨hp, μ, [], d, hp', hn, rh, Rps.nil, e, fun v H' μ' x2 rh2 r2 => q v H' μ' x2 rh2 r2⟩
    · cases e
def stD (n : Nat) (ds : List D) : Ls := ds.map some ++ List.replicate (n - ds.length) none
def mDef (n : Nat) (f : AS) : List D → Hd → Option (D × Hd) := fun ds hp => match f (stD n ds) hp with
  | some (.rt d, _, hp') => some (d, hp')
  | some (.nx, _, hp') => some (.non, hp')
  | _ => none
theorem Rps.get {K : PySem.W.Frag} {H : Hp} {μ : List Addr} : ∀ {ds : List D} {vs : List V} {i : Nat} {d : D}, Rps K H μ ds vs → ds[i]? = some d → ∃ v, vs[i]? = some v ∧ Rp K H μ d v
  | [], _, _, _, _, e => by simp at e
  | x :: xs, vs, i, d, h, e => by
    rw [Rps] at h
    obtain ⟨v, r, rfl, h1, h2⟩ := h
    cases i with
    | zero =>
      simp at e
      subst e
      exact ⟨v, rfl, h1⟩
    | succ i =>
      obtain ⟨w, e1, e2⟩ := Rps.get h2 (by simpa using e)
      exact ⟨w, by simpa using e1, e2⟩
theorem Rl.start {K : PySem.W.Frag} {H : Hp} {μ : List Addr} {N : List Str} {ds : List D} {vs : List V} (r : Rps K H μ ds vs) : Rl K H μ (stD N.length ds) (L2.start N vs) := by
  refine ⟨by simp [stD, L2.start, r.len], fun i d hd => ?_⟩
  unfold stD at hd
  by_cases hi : i < ds.length
  · rw [List.getElem?_append_left (by simpa using hi), List.getElem?_map] at hd
    cases hx : ds[i]? with
    | none => rw [hx] at hd; cases hd
    | some d' =>
      rw [hx] at hd
      cases hd
      obtain ⟨v, e1, r1⟩ := r.get hx
      refine ⟨v, ?_, r1⟩
      unfold L2.start
      rw [List.getElem?_append_left (by simpa [r.len] using hi), List.getElem?_map, e1]
      rfl
  · rw [List.getElem?_append_right (by simpa using hi)] at hd
    rw [List.getElem?_replicate] at hd
    split at hd <;> cases hd
theorem fn_def {P : Program} {w : World} {K : PySem.W.Frag} {mg : Str → Option Value} {base : Heap} {x qual : Str} {st : Stmt} {f : Addr} {fd : FuncData} {N ps : List Str} {k : Nat} {fb : AS} (F : Fun K x qual st f fd) (S : FnScope N ps (defScope st))
    (body : ∀ (cdv : Value) (A : Around) (outer : List Env) (s : Shared) (H : Hp) (E : XK), Room k (A.deeper (PyProof.Rows.envOfC qual (defScope st) s.heap.objs.size f cdv)) →
      DSs (cxOf CX0 P w K mg base N qual (defScope st) f cdv A outer s H E).nox (defBody st) fb) : FnOk P w K mg base CX0 (k + 1) f fd ps (spD K ps.length (mDef N.length fb)) := by
  refine F.ok S (fun vs H Q E h => ?_) (fun cdv A outer s H vs Q E hr h => ⟨_, body cdv A outer s H E hr, ?_⟩)
  · obtain ⟨hp, μ, ds, d, hp', hn, rh, r, e, q⟩ := h
    rw [r.len, hn]
  · obtain ⟨hp, μ, ds, d, hp', hn, rh, r, e, q⟩ := h
    show tS K fb _ _ _
    unfold mDef at e
    split at e
    · rename_i d' ls' hp1 e1
      cases e
      exact ⟨stD N.length ds, hp, μ, .rt d, ls', hp', Rl.start r, rh, e1, fun H' μ' x1 rh1 v rv => q v H' μ' x1 rh1 rv⟩
    · rename_i ls' hp1 e1
      cases e
      exact ⟨stD N.length ds, hp, μ, .nx, ls', hp', Rl.start r, rh, e1, fun H' μ' x1 rh1 σ' rl' => q .non H' μ' x1 rh1 Rp.non⟩
    · cases e

theorem Wk.range {K : PySem.W.Frag} {lo : Int} {n : Nat} {μ : List Addr} {H : Hp} : Wk K (Itr lo n) ((List.range n).map fun i => D.int (lo + (i : Nat))) [] μ H := by
  intro i H2 μ2 hp2 x2 rh2 _
  refine ⟨fun hi => ?_, fun hi => ⟨?_, fun x H3 hy => ?_⟩⟩
  · show n ≤ i
    simpa using hi
  · show i < n
    simpa using hi
  · obtain ⟨rfl, rfl⟩ := hy
    refine ⟨.int (lo + (i : Nat)), ?_, Ext.refl, rh2, Rp.int⟩
    have : i < n := by simpa using hi
    rw [List.getElem?_map, List.getElem?_range this]
    rfl
def mR1 (fr : AA) : AI := fun ls hp => match fr ls hp with
  | some ([.int j], hp1) => if -(2 ^ 62) ≤ j ∧ j < 2 ^ 62 then some ((List.range j.toNat).map fun i => D.int (i : Nat), [], hp1) else none
  | _ => none
def mR2 (fr : AA) : AI := fun ls hp => match fr ls hp with
  | some ([.int i, .int j], hp1) => if -(2 ^ 62) ≤ i ∧ i < 2 ^ 62 ∧ -(2 ^ 62) ≤ j ∧ j < 2 ^ 62 then some ((List.range (j - i).toNat).map fun k => D.int (i + (k : Nat)), [], hp1) else none
  | _ => none
theorem di_range1 {a : Expr} {p : Pos} (hg : Gl X "range") (hm : X.mg "range" = none) (ha : DA X [a] fr) (hs : starEach [a] X.env = [(false, eval a X.env)] := by rfl) : DI X tg (.Call (.Name "range" p) [a] [] pos) (mR1 fr) :=
  PI.imp (pi_range1 hg hm ha hs) fun σ H R ⟨ls, hp, μ, items, gd, hp', rl, rh, e, q⟩ => by
    unfold mR1 at e
    split at e
    · rename_i j hp1 e1
      split at e
      · rename_i hj
        cases e
        refine ⟨ls, hp, μ, [.int j], hp', rl, rh, e1, fun vs H' μ' x1 rh1 r1 => ?_⟩
        rw [Rps] at r1
        obtain ⟨v, r, rfl, r1, r2⟩ := r1
        rw [Rps] at r2
        subst r2
        refine ⟨j, by rw [r1.intE], hj.1, hj.2, q _ H' μ' x1 rh1 ?_⟩
        have := Wk.range (K := X.K) (lo := 0) (n := j.toNat) (μ := μ') (H := H')
        simpa using this
      · cases e
    · cases e
theorem di_range2 {a b : Expr} {p : Pos} (hg : Gl X "range") (hm : X.mg "range" = none) (ha : DA X [a, b] fr) (hs : starEach [a, b] X.env = [(false, eval a X.env), (false, eval b X.env)] := by rfl) (hs2 : starEach [b] X.env = [(false, eval b X.env)] := by rfl) : DI X tg (.Call (.Name "range" p) [a, b] [] pos) (mR2 fr) :=
  PI.imp (pi_range2 hg hm ha hs hs2) fun σ H R ⟨ls, hp, μ, items, gd, hp', rl, rh, e, q⟩ => by
    unfold mR2 at e
    split at e
    · rename_i i j hp1 e1
      split at e
      · rename_i hj
        cases e
        refine ⟨ls, hp, μ, [.int i, .int j], hp', rl, rh, e1, fun vs H' μ' x1 rh1 r1 => ?_⟩
        rw [Rps] at r1
        obtain ⟨v, r, rfl, r1, r2⟩ := r1
        rw [Rps] at r2
        obtain ⟨v2, r, rfl, r2, r3⟩ := r2
        rw [Rps] at r3
        subst r3
        exact ⟨i, j, by rw [r1.intE, r2.intE], hj, q _ H' μ' x1 rh1 Wk.range⟩
      · cases e
    · cases e
def mIL (f : AA) : AI := fun ls hp => match f ls hp with
  | some (ds, hp1) => some (ds, [], hp1)
  | none => none
theorem di_le {l : Expr} {f : AA} (h : LE X l f) : DI X tg l (mIL f) :=
  PI.imp (pi_list h) fun σ H R ⟨ls, hp, μ, items, gd, hp', rl, rh, e, q⟩ => by
    unfold mIL at e
    split at e
    · rename_i ds hp1 e1
      cases e
      refine ⟨ls, hp, μ, items, hp', rl, rh, e1, fun a vs H1 μ1 x1 rh1 h0 hn hl r1 => ⟨a, rfl, ⟨vs, .inl (.inl hl)⟩, q _ H1 μ1 x1 rh1 ?_⟩⟩
      intro i H2 μ2 hp2 x2 rh2 _
      have h2 : H2 a = some (.lst vs) := x2.keep _ _ hn hl
      have hlen := r1.len
      refine ⟨fun hi => ⟨vs, .inl (.inl h2), by omega⟩, fun hi => ?_⟩
      obtain ⟨v, ev, rv⟩ := r1.get (List.getElem?_eq_getElem hi)
      refine ⟨⟨vs, v, .inl (.inl h2), ev⟩, fun x H3 hy => ?_⟩
      obtain ⟨rfl, hx⟩ := hy
      have := hx vs (.inl (.inl h2))
      rw [ev] at this
      cases this
      exact ⟨_, List.getElem?_eq_getElem hi, Ext.refl, rh2, rv.ext x2⟩
    · cases e
def itOf : D → Hd → Option (List D × Gd)
  | .tup ds, _ => some (ds, [])
  | .wt ds, _ => some (ds, [])
  | .scr ns, _ => some (ns.map .int, [])
  | .str x, _ => some (x.cps.toList.map fun c => .str ⟨#[c]⟩, [])
  | .ref n, hp => match hp[n]? with
    | some (.lst xs) => some (xs, [(n, xs)])
    | _ => none
  | _, _ => none
def mIS (f : AE) : AI := fun ls hp => match f ls hp with
  | some (d, hp1) => match itOf d hp1 with
    | some (items, gd) => some (items, gd, hp1)
    | none => none
  | none => none
theorem RelH.lst {K : PySem.W.Frag} {H : Hp} {μ : List Addr} {hp : Hd} (r : RelH K H μ hp) {n : Nat} {a : Addr} {xs : List D} (h : μ[n]? = some a) (e : hp[n]? = some (.lst xs)) : ∃ vs, H a = some (.lst vs) ∧ Rps K H μ xs vs := by
  obtain ⟨a2, e2, vs, q1, q2⟩ := r.at_ e
  rw [h] at e2
  cases e2
  exact ⟨vs, q1, q2⟩
theorem gdOk_one {n : Nat} {xs : List D} {hp : Hd} (h : gdOk [(n, xs)] hp = true) : hp[n]? = some (.lst xs) := by
  simp only [gdOk, Bool.and_true] at h
  split at h
  · rename_i ys e
    rw [e, D.sames_eq _ _ h]
  · cases h
theorem di_seq {l : Expr} (h : DE X l fa) : DI X tg l (mIS fa) :=
  PI.imp (PI.or (PI.or (pi_list h) (pi_tup h)) (pi_str h)) fun σ H R ⟨ls, hp, μ, items, gd, hp', rl, rh, e, q⟩ => by
    unfold mIS at e
    split at e
    · rename_i d hp1 e1
      split at e
      · rename_i items' gd' e2
        cases e
        cases d <;> simp only [itOf] at e2 <;> try (cases e2; done)
        · rename_i x
          cases e2
          refine .inr ⟨ls, hp, μ, _, hp', rl, rh, e1, fun v H1 μ1 x1 rh1 r1 => ⟨x, r1.strE, q _ H1 μ1 x1 rh1 ?_⟩⟩
          intro i H2 μ2 hp2 x2 rh2 _
          refine ⟨fun hi => ?_, fun hi => ⟨?_, fun y H3 hy => ?_⟩⟩
          · show x.cps.size ≤ i
            simpa using hi
          · show i < x.cps.size
            simpa using hi
          · obtain ⟨rfl, c, ec, rfl⟩ := hy
            refine ⟨.str ⟨#[c]⟩, ?_, Ext.refl, rh2, Rp.str⟩
            rw [List.getElem?_map]
            simp [ec]
        · rename_i ds
          cases e2
          refine .inl (.inr ⟨ls, hp, μ, _, hp', rl, rh, e1, fun v H1 μ1 x1 rh1 r1 => ?_⟩)
          obtain ⟨a, vs, rfl, ta, ra⟩ := r1.tupE
          refine ⟨a, rfl, ⟨vs, ta.sq⟩, q _ H1 μ1 x1 rh1 ?_⟩
          intro i H2 μ2 hp2 x2 rh2 _
          have h2 : SqT X.K H2 a vs := (ta.ext x2).sq
          have hlen := ra.len
          refine ⟨fun hi => ⟨vs, h2, by omega⟩, fun hi => ?_⟩
          obtain ⟨v, ev, rv⟩ := ra.get (List.getElem?_eq_getElem hi)
          refine ⟨⟨vs, v, h2, ev⟩, fun x H3 hy => ?_⟩
          obtain ⟨rfl, hx⟩ := hy
          have := hx vs h2
          rw [ev] at this
          cases this
          exact ⟨_, List.getElem?_eq_getElem hi, Ext.refl, rh2, rv.ext x2⟩
        · rename_i n
          split at e2
          · rename_i xs e3
            cases e2
            refine .inl (.inl ⟨ls, hp, μ, _, hp', rl, rh, e1, fun v H1 μ1 x1 rh1 r1 => ?_⟩)
            obtain ⟨a, ea, rfl⟩ := r1.refE
            obtain ⟨vs, ev, _⟩ := rh1.lst ea e3
            refine ⟨a, rfl, ⟨vs, .inl (.inl ev)⟩, q _ H1 μ1 x1 rh1 ?_⟩
            intro i H2 μ2 hp2 x2 rh2 hg
            obtain ⟨vs2, ev2, ra⟩ := rh2.lst (x2.m.at_ ea) (gdOk_one hg)
            have hlen := ra.len
            refine ⟨fun hi => ⟨vs2, .inl (.inl ev2), by omega⟩, fun hi => ?_⟩
            obtain ⟨v, ev, rv⟩ := ra.get (List.getElem?_eq_getElem hi)
            refine ⟨⟨vs2, v, .inl (.inl ev2), ev⟩, fun x H3 hy => ?_⟩
            obtain ⟨rfl, hx⟩ := hy
            have := hx vs2 (.inl (.inl ev2))
            rw [ev] at this
            cases this
            exact ⟨_, List.getElem?_eq_getElem hi, Ext.refl, rh2, rv⟩
          · cases e2
        · rename_i ns
          cases e2
          refine .inl (.inl ⟨ls, hp, μ, _, hp', rl, rh, e1, fun v H1 μ1 x1 rh1 r1 => ?_⟩)
          obtain ⟨a, rfl, sa⟩ := r1.scrE
          refine ⟨a, rfl, ⟨_, sa.sq⟩, q _ H1 μ1 x1 rh1 ?_⟩
          intro i H2 μ2 hp2 x2 rh2 hg
          have h2 : SqL X.K H2 a (ns.map V.int) := (sa.mon x2.m).sq
          refine ⟨fun hi => ⟨_, h2, by simpa using hi⟩, fun hi => ?_⟩
          have hi' : i < ns.length := by simpa using hi
          refine ⟨⟨_, .int ns[i], h2, by simp [hi']⟩, fun x H3 hy => ?_⟩
          obtain ⟨rfl, hx⟩ := hy
          have := hx _ h2
          refine ⟨.int ns[i], by simp [hi'], Ext.refl, rh2, ?_⟩
          simp [hi'] at this
          subst this
          exact Rp.int
        · rename_i ds
          cases e2
          refine .inl (.inr ⟨ls, hp, μ, _, hp', rl, rh, e1, fun v H1 μ1 x1 rh1 r1 => ?_⟩)
          obtain ⟨a, vs, rfl, ta, ra⟩ := r1.wtE
          refine ⟨a, rfl, ⟨vs, ta.sq⟩, q _ H1 μ1 x1 rh1 ?_⟩
          intro i H2 μ2 hp2 x2 rh2 _
          have h2 : SqT X.K H2 a vs := ta.sq
          have hlen := ra.len
          refine ⟨fun hi => ⟨vs, h2, by omega⟩, fun hi => ?_⟩
          obtain ⟨v, ev, rv⟩ := ra.get (List.getElem?_eq_getElem hi)
          refine ⟨⟨vs, v, h2, ev⟩, fun x H3 hy => ?_⟩
          obtain ⟨rfl, hx⟩ := hy
          have := hx vs h2
          rw [ev] at this
          cases this
          exact ⟨_, List.getElem?_eq_getElem hi, Ext.refl, rh2, rv.ext x2⟩
      · cases e
    · cases e
end
end Ve
namespace Ve
open PySem PySem.Spec L2

theorem toKey_inj : ∀ {a b : D} {k : Key}, toKey a = some k → toKey b = some k → a = b := by
  intro a b k h1 h2
  cases a <;> simp only [toKey] at h1 <;> try (cases h1; done)
  · cases h1
    cases b <;> simp only [toKey] at h2 <;> try (cases h2; done)
    cases h2
    rfl
  · cases h1
    cases b <;> simp only [toKey] at h2 <;> try (cases h2; done)
    cases h2
    rfl
theorem toKeys_inj : ∀ {a b : List D} {k : List Key}, toKeys a = some k → toKeys b = some k → a = b
  | [], b, k, h1, h2 => by
    simp only [toKeys] at h1
    cases h1
    cases b with
    | nil => rfl
    | cons x xs =>
      simp only [toKeys] at h2
      split at h2 <;> cases h2
  | x :: xs, b, k, h1, h2 => by
    simp only [toKeys] at h1
    split at h1
    · rename_i k1 ks e1 e2
      cases h1
      cases b with
      | nil => simp [toKeys] at h2
      | cons y ys =>
        simp only [toKeys] at h2
        split at h2
        · rename_i k2 ks2 e3 e4
          cases h2
          rw [toKey_inj e1 e3, toKeys_inj e2 e4]
        · cases h2
    · cases h1
def look : List (D × D) → D → Option D
  | [], _ => none
  | (a, v) :: r, k => if D.same a k = true then some v else look r k
def putD : List (D × D) → D → D → List (D × D)
  | [], k, v => [(k, v)]
  | (a, x) :: r, k, v => if D.same a k = true then (a, v) :: r else (a, x) :: putD r k v
theorem same_iff {a b : D} : D.same a b = true ↔ a = b := ⟨D.same_eq a b, fun e => by rw [e]; exact D.same_self b⟩

section
variable {K : PySem.W.Frag} {H H' : Hp} {μ μ' : List Addr}
def RpO (K : PySem.W.Frag) (H : Hp) (μ : List Addr) : Option D → Option V → Prop
  | some d, some v => Rp K H μ d v
  | none, none => True
  | _, _ => False
theorem RpK.look {k : D} {k' : Key} (hk : toKey k = some k') : ∀ {kvs : List (D × D)} {vs : List (Key × V)}, RpK K H μ kvs vs → RpO K H μ (look kvs k) (valV vs k')
  | [], _, h => by
    rw [RpK] at h
    subst h
    exact True.intro
  | (a, v) :: r, _, h => by
    rw [RpK] at h
    obtain ⟨ka, w, rs, rfl, h1, h2, h3⟩ := h
    unfold Ve.look
    by_cases e : a = k
    · subst e
      rw [hk] at h1
      cases h1
      rw [if_pos (D.same_self a), valV_pos (p := (k', w)) rfl]
      exact h2
    · have e2 : ¬ ka = k' := fun z => e (toKey_inj h1 (by rw [hk, z]))
      rw [if_neg (fun z => e (same_iff.mp z)), valV_neg (p := (ka, w)) e2]
      exact RpK.look hk h3
theorem RpT.look {k : List D} {k' : List Key} (hk : toKeys k = some k') : ∀ {kvs : List (D × D)} {vs : List (List Key × V)}, RpT K H μ kvs vs → RpO K H μ (look kvs (.tup k)) (valV vs k')
  | [], _, h => by
    rw [RpT] at h
    subst h
    exact True.intro
  | (a, v) :: r, _, h => by
    rw [RpT] at h
    obtain ⟨ds, ka, w, rs, e0, rfl, h1, h2, h3⟩ := h
    have e0 : a = .tup ds := e0
    subst e0
    unfold Ve.look
    by_cases e : ds = k
    · subst e
      rw [hk] at h1
      cases h1
      rw [if_pos (D.same_self _), valV_pos (p := (k', w)) rfl]
      exact h2
    · have e2 : ¬ ka = k' := fun z => e (toKeys_inj h1 (by rw [hk, z]))
      rw [if_neg (fun z => e (D.tup.inj (same_iff.mp z))), valV_neg (p := (ka, w)) e2]
      exact RpT.look hk h3
theorem putK_cons {κ : Type} [DecidableEq κ] {a k : κ} {x v : V} {r : List (κ × V)} : putK ((a, x) :: r) k v = if a = k then (a, v) :: r.map (fun kv => if kv.1 = k then (kv.1, v) else kv) else (a, x) :: putK r k v := by
  unfold putK
  by_cases e : a = k
  · simp [e]
  · simp only [List.any_cons, e, decide_false, Bool.false_or, List.map_cons, if_neg, not_false_eq_true, ite_false]
    split <;> simp
theorem map_none {κ : Type} [DecidableEq κ] {k : κ} {v : V} : ∀ {r : List (κ × V)}, (∀ p ∈ r, p.1 ≠ k) → r.map (fun kv => if kv.1 = k then (kv.1, v) else kv) = r
  | [], _ => rfl
  | p :: r, h => by
    rw [List.map_cons, if_neg (h p List.mem_cons_self), map_none fun q hq => h q (List.mem_cons_of_mem _ hq)]
theorem RpK.keys : ∀ {kvs : List (D × D)} {vs : List (Key × V)}, RpK K H μ kvs vs → ∀ p ∈ vs, ∃ q ∈ kvs, toKey q.1 = some p.1
  | [], _, h, p, hp => by
    rw [RpK] at h
    subst h
    cases hp
  | x :: xs, _, h, p, hp => by
    rw [RpK] at h
    obtain ⟨ka, w, rs, rfl, h1, h2, h3⟩ := h
    rcases List.mem_cons.mp hp with e | e
    · subst e
      exact ⟨x, List.mem_cons_self, h1⟩
    · obtain ⟨q, hq, e2⟩ := RpK.keys h3 p e
      exact ⟨q, List.mem_cons_of_mem _ hq, e2⟩
theorem RpT.keys : ∀ {kvs : List (D × D)} {vs : List (List Key × V)}, RpT K H μ kvs vs → ∀ p ∈ vs, ∃ q ∈ kvs, ∃ ds, q.1 = .tup ds ∧ toKeys ds = some p.1
  | [], _, h, p, hp => by
    rw [RpT] at h
    subst h
    cases hp
  | x :: xs, _, h, p, hp => by
    rw [RpT] at h
    obtain ⟨ds, ka, w, rs, e0, rfl, h1, h2, h3⟩ := h
    rcases List.mem_cons.mp hp with e | e
    · subst e
      exact ⟨x, List.mem_cons_self, ds, e0, h1⟩
    · obtain ⟨q, hq, e2⟩ := RpT.keys h3 p e
      exact ⟨q, List.mem_cons_of_mem _ hq, e2⟩
theorem RpK.put {k d : D} {k' : Key} {v : V} (hk : toKey k = some k') (rv : Rp K H μ d v) : ∀ {kvs : List (D × D)} {vs : List (Key × V)}, KNd kvs → RpK K H μ kvs vs → RpK K H μ (putD kvs k d) (putK vs k' v)
  | [], _, _, h => by
    rw [RpK] at h
    subst h
    unfold putD
    rw [RpK]
    exact ⟨k', v, [], rfl, hk, rv, by rw [RpK]⟩
  | (a, x) :: r, _, nd, h => by
    rw [RpK] at h
    obtain ⟨ka, w, rs, rfl, h1, h2, h3⟩ := h
    have h1 : toKey a = some ka := h1
    unfold putD
    rw [putK_cons]
    by_cases e : a = k
    · subst e
      rw [hk] at h1
      cases h1
      rw [if_pos (D.same_self a), if_pos rfl, RpK, map_none]
      · exact ⟨k', v, rs, rfl, hk, rv, h3⟩
      · intro p hp z
        obtain ⟨q, hq, e2⟩ := RpK.keys h3 p hp
        rw [z] at e2
        exact nd.1 q hq (toKey_inj e2 hk)
    · rw [if_neg (fun z => e (same_iff.mp z)), if_neg (fun z => e (toKey_inj h1 (by rw [hk, z]))), RpK]
      exact ⟨ka, w, _, rfl, h1, h2, RpK.put hk rv nd.2 h3⟩
theorem RpT.put {k : List D} {d : D} {k' : List Key} {v : V} (hk : toKeys k = some k') (rv : Rp K H μ d v) : ∀ {kvs : List (D × D)} {vs : List (List Key × V)}, KNd kvs → RpT K H μ kvs vs → RpT K H μ (putD kvs (.tup k) d) (putK vs k' v)
  | [], _, _, h => by
    rw [RpT] at h
    subst h
    unfold putD
    rw [RpT]
    exact ⟨k, k', v, [], rfl, rfl, hk, rv, by rw [RpT]⟩
  | (a, x) :: r, _, nd, h => by
    rw [RpT] at h
    obtain ⟨ds, ka, w, rs, e0, rfl, h1, h2, h3⟩ := h
    have e0 : a = .tup ds := e0
    subst e0
    unfold putD
    rw [putK_cons]
    by_cases e : ds = k
    · subst e
      rw [hk] at h1
      cases h1
      rw [if_pos (D.same_self _), if_pos rfl, RpT, map_none]
      · exact ⟨ds, k', v, rs, rfl, rfl, hk, rv, h3⟩
      · intro p hp z
        obtain ⟨q, hq, ds2, e3, e2⟩ := RpT.keys h3 p hp
        rw [z] at e2
        exact nd.1 q hq (by rw [e3, toKeys_inj e2 hk])
    · rw [if_neg (fun z => e (D.tup.inj (same_iff.mp z))), if_neg (fun z => e (toKeys_inj h1 (by rw [hk, z]))), RpT]
      exact ⟨ds, ka, w, _, rfl, rfl, h1, h2, RpT.put hk rv nd.2 h3⟩
theorem putD_mem {k v : D} : ∀ {kvs : List (D × D)} {p : D × D}, p ∈ putD kvs k v → p = (k, v) ∨ p ∈ kvs ∨ (p.1 = k ∧ ∃ q ∈ kvs, q.1 = k)
  | [], p, h => by
    simp [putD] at h
    exact .inl h
  | (a, x) :: r, p, h => by
    unfold putD at h
    split at h
    · rename_i e
      have e := same_iff.mp e
      subst e
      rcases List.mem_cons.mp h with z | z
      · exact .inl z
      · exact .inr (.inl (List.mem_cons_of_mem _ z))
    · rcases List.mem_cons.mp h with z | z
      · exact .inr (.inl (by rw [z]; exact List.mem_cons_self))
      · rcases putD_mem z with z | z | ⟨z1, q, hq, z2⟩
        · exact .inl z
        · exact .inr (.inl (List.mem_cons_of_mem _ z))
        · exact .inr (.inr ⟨z1, q, List.mem_cons_of_mem _ hq, z2⟩)
theorem putD_key {k v : D} : ∀ {kvs : List (D × D)} {p : D × D}, p ∈ putD kvs k v → p.1 = k ∨ ∃ q ∈ kvs, q.1 = p.1 := fun h => by
  rcases putD_mem h with z | z | ⟨z1, _⟩
  · exact .inl (by rw [z])
  · exact .inr ⟨_, z, rfl⟩
  · exact .inl z1
theorem KNd.put {k v : D} : ∀ {kvs : List (D × D)}, KNd kvs → KNd (putD kvs k v)
  | [], _ => by
    unfold putD
    exact ⟨(fun q h => nomatch h), True.intro⟩
  | (a, x) :: r, nd => by
    unfold putD
    split
    · exact nd
    · rename_i e
      refine ⟨fun q hq z => ?_, KNd.put nd.2⟩
      rcases putD_key hq with w | ⟨q2, h2, w⟩
      · exact e (same_iff.mpr (by rw [← w, z]))
      · exact nd.1 q2 h2 (by rw [w, z])
theorem length_putD {k v : D} : ∀ {kvs : List (D × D)}, (putD kvs k v).length ≤ kvs.length + 1
  | [] => by simp [putD]
  | (a, x) :: r => by
    unfold putD
    split
    · simp
    · have := @length_putD k v r
      simp
      omega
theorem RpK.len : ∀ {kvs : List (D × D)} {vs : List (Key × V)}, RpK K H μ kvs vs → vs.length = kvs.length
  | [], _, h => by
    rw [RpK] at h
    subst h
    rfl
  | _ :: _, _, h => by
    rw [RpK] at h
    obtain ⟨ka, w, rs, rfl, h1, h2, h3⟩ := h
    rw [List.length_cons, List.length_cons, RpK.len h3]
theorem RpT.len : ∀ {kvs : List (D × D)} {vs : List (List Key × V)}, RpT K H μ kvs vs → vs.length = kvs.length
  | [], _, h => by
    rw [RpT] at h
    subst h
    rfl
  | _ :: _, _, h => by
    rw [RpT] at h
    obtain ⟨ds, ka, w, rs, e0, rfl, h1, h2, h3⟩ := h
    rw [List.length_cons, List.length_cons, RpT.len h3]
theorem Rp.keyV {k : D} {k' : Key} {v : V} (hk : toKey k = some k') (r : Rp K H μ k v) : v = kV k' := by
  cases k <;> simp only [toKey] at hk <;> try (cases hk; done)
  · cases hk
    exact r.intE
  · cases hk
    exact r.strE
theorem Rps.keysV : ∀ {ks : List D} {k' : List Key} {vs : List V}, toKeys ks = some k' → Rps K H μ ks vs → vs = k'.map kV
  | [], k', vs, hk, r => by
    simp only [toKeys] at hk
    cases hk
    rw [Rps] at r
    exact r
  | d :: ds, k', vs, hk, r => by
    simp only [toKeys] at hk
    split at hk
    · rename_i k ks e1 e2
      cases hk
      rw [Rps] at r
      obtain ⟨v, w, rfl, r1, r2⟩ := r
      rw [List.map_cons, r1.keyV e1, Rps.keysV e2 r2]
    · cases hk
end

section
variable {X : Cx} {pins : List (Addr × Obj)} {σ : St} {H : Hp} {s : Shared} {a : Addr}
theorem inv_dT (I : Inv X pins σ H s) (e : H a = some (.dK [])) : Inv X pins σ (upd H a (.dT [])) s := by
  obtain ⟨z, hd, vs, rel, o, es, ep, h1, h2, h3, h4, h5, h6⟩ := dk_of I.hok e
  have hv : vs = [] := by
    cases rel
    rfl
  subst hv
  have he : es.toList = [] := by
    generalize es.toList = l at h5
    cases h5
    rfl
  exact d_write (t' := s.toks) (h' := s.heap) I (by rw [e]; exact True.intro) ⟨rfl, fun _ _ => rfl⟩ ⟨o, h1⟩ ⟨Nat.zero_le _, hd, [], .nil, o, es, ep, h1, h2, h3, by rw [he]; rfl, by simp⟩
end
end Ve
namespace Ve
open PySem PySem.Spec L2

def dKind (kvs : List (D × D)) : D → Bool
  | .tup ks => (toKeys ks).isSome && (match kvs with
    | [] => true
    | (.tup _, _) :: _ => true
    | _ => false)
  | k => (toKey k).isSome && (match kvs with
    | [] => true
    | (.tup _, _) :: _ => false
    | _ => true)
section
variable {X : Cx} {pins : List (Addr × Obj)} {σ : St} {H : Hp} {s : Shared} {a : Addr} {μ : List Addr} {hp : Hd} {n : Nat}
theorem inv_dK (I : Inv X pins σ H s) (e : H a = some (.dT [])) : Inv X pins σ (upd H a (.dK [])) s := by
  obtain ⟨z, hd, xs, rel, o, es, ep, h1, h2, h3, h4, h5, h6⟩ := dt_of I.hok e
  have hv : xs = [] := by
    cases rel
    rfl
  subst hv
  have he : es.toList = [] := by
    first
      | exact h4
      | exact h5
  exact d_write (t' := s.toks) (h' := s.heap) I (by rw [e]; exact True.intro) ⟨rfl, fun _ _ => rfl⟩ ⟨o, h1⟩ ⟨Nat.zero_le _, hd, [], .nil, o, es, ep, h1, h2, h3, by
    have : es = #[] := by
      cases es
      simp at he
      subst he
      rfl
    subst this
    exact ⟨fun i hi => by simp at hi, by exact .nil, by simp⟩⟩

theorem RelH.dic (r : RelH X.K H μ hp) {kvs : List (D × D)} (h : μ[n]? = some a) (e : hp[n]? = some (.dic kvs)) : KNd kvs ∧ ((∃ vs, H a = some (.dK vs) ∧ RpK X.K H μ kvs vs) ∨ ∃ vs, H a = some (.dT vs) ∧ RpT X.K H μ kvs vs) := by
  obtain ⟨a2, e2, q⟩ := r.at_ e
  rw [h] at e2
  cases e2
  exact q
theorem RelH.dicL (r : RelH X.K H μ hp) {kvs : List (D × D)} (h : μ[n]? = some a) (e : hp[n]? = some (.dicL kvs)) : KNd kvs ∧ ((∃ o vs, H a = some (.frz o (.dK vs)) ∧ RpK X.K H μ kvs vs) ∨ ∃ o vs, H a = some (.frz o (.dT vs)) ∧ RpT X.K H μ kvs vs) := by
  obtain ⟨a2, e2, q⟩ := r.at_ e
  rw [h] at e2
  cases e2
  exact q
theorem set_same {α : Type} {l : List α} {n : Nat} {x : α} (h : l[n]? = some x) : l.set n x = l := by
  obtain ⟨hl, e⟩ := List.getElem?_eq_some_iff.mp h
  rw [← e]
  exact List.set_getElem_self hl
theorem dKind_leaf {kvs : List (D × D)} {k : D} (h : dKind kvs k = true) (nt : ∀ ks, k ≠ .tup ks) : ∃ k', toKey k = some k' := by
  cases k <;> simp only [dKind] at h <;> try (simp [toKey] at h; done)
  · exact ⟨_, rfl⟩
  · exact ⟨_, rfl⟩
  · exact absurd rfl (nt _)
theorem dKind_leaf2 {p : D × D} {r : List (D × D)} {k : D} (h : dKind (p :: r) k = true) (nt : ∀ ks, k ≠ .tup ks) : ∀ ks, p.1 ≠ .tup ks := by
  obtain ⟨a, b⟩ := p
  cases k <;> cases a <;> simp [dKind] at h ⊢ <;> exact absurd rfl (nt _)
theorem dKind_tup {kvs : List (D × D)} {ks : List D} (h : dKind kvs (.tup ks) = true) : (∃ k', toKeys ks = some k') ∧ ∀ p r, kvs = p :: r → ∃ ds, p.1 = .tup ds := by
  simp only [dKind, Bool.and_eq_true] at h
  refine ⟨Option.isSome_iff_exists.mp h.1, fun p r e => ?_⟩
  subst e
  obtain ⟨a, b⟩ := p
  cases a <;> simp at h ⊢
theorem RpK.tupNot {kvs : List (D × D)} {vs : List (Key × V)} {p : D × D} {r : List (D × D)} {ds : List D} (h : RpK X.K H μ kvs vs) (e : kvs = p :: r) (e2 : p.1 = .tup ds) : False := by
  subst e
  rw [RpK] at h
  obtain ⟨ka, w, rs, rfl, h1, h2, h3⟩ := h
  rw [e2] at h1
  simp [toKey] at h1
theorem RpT.leafNot {kvs : List (D × D)} {vs : List (List Key × V)} {p : D × D} {r : List (D × D)} (h : RpT X.K H μ kvs vs) (e : kvs = p :: r) (e2 : ∀ ks, p.1 ≠ .tup ks) : False := by
  subst e
  rw [RpT] at h
  obtain ⟨ds, ka, w, rs, e0, rfl, h1, h2, h3⟩ := h
  exact e2 _ e0
theorem dic_kind (I : Inv X pins σ H s) (rh : RelH X.K H μ hp) {kvs : List (D × D)} {k : D} (ha : μ[n]? = some a) (eh : hp[n]? = some (.dic kvs)) (hk : dKind kvs k = true) :
    ∃ H', Inv X pins σ H' s ∧ Ext μ H μ H' ∧ RelH X.K H' μ hp ∧ KNd kvs ∧ (((∀ ks, k ≠ .tup ks) ∧ ∃ vs, H' a = some (.dK vs) ∧ RpK X.K H' μ kvs vs) ∨ ((∃ ks, k = .tup ks) ∧ ∃ vs, H' a = some (.dT vs) ∧ RpT X.K H' μ kvs vs)) := by
  obtain ⟨nd, q⟩ := rh.dic ha eh
  by_cases hkt : ∃ ks, k = .tup ks
  · obtain ⟨ks, rfl⟩ := hkt
    obtain ⟨_, h2⟩ := dKind_tup hk
    rcases q with ⟨vs, e, r⟩ | ⟨vs, e, r⟩
    · cases kvs with
      | nil =>
        rw [RpK] at r
        subst r
        obtain ⟨r1, x1⟩ := rh.put (o := .dic []) (u := .dT []) ha ⟨True.intro, .inr ⟨[], rfl, by rw [RpT]⟩⟩
        rw [set_same eh] at r1
        exact ⟨_, inv_dT I e, x1, r1, nd, .inr ⟨⟨ks, rfl⟩, [], upd_same, by rw [RpT]⟩⟩
      | cons p kr =>
        obtain ⟨ds, e3⟩ := h2 p kr rfl
        exact (r.tupNot rfl e3).elim
    · exact ⟨H, I, Ext.refl, rh, nd, .inr ⟨⟨ks, rfl⟩, vs, e, r⟩⟩
  · have nt : ∀ ks, k ≠ .tup ks := fun ks e => hkt ⟨ks, e⟩
    rcases q with ⟨vs, e, r⟩ | ⟨vs, e, r⟩
    · exact ⟨H, I, Ext.refl, rh, nd, .inl ⟨nt, vs, e, r⟩⟩
    · cases kvs with
      | nil =>
        rw [RpT] at r
        subst r
        obtain ⟨r1, x1⟩ := rh.put (o := .dic []) (u := .dK []) ha ⟨True.intro, .inl ⟨[], rfl, by rw [RpK]⟩⟩
        rw [set_same eh] at r1
        exact ⟨_, inv_dK I e, x1, r1, nd, .inl ⟨nt, [], upd_same, by rw [RpK]⟩⟩
      | cons p kr => exact (r.leafNot rfl (dKind_leaf2 hk nt)).elim
def dicOf : O → Option (List (D × D))
  | .dic kvs => some kvs
  | .dicL kvs => if kvs.isEmpty then none else some kvs
  | _ => none
theorem dic_get (I : Inv X pins σ H s) (rh : RelH X.K H μ hp) {o : O} {kvs : List (D × D)} {k : D} {y : V} (ha : μ[n]? = some a) (eh : hp[n]? = some o) (eo : dicOf o = some kvs) (hk : dKind kvs k = true) (ry : Rp X.K H μ k y) :
    ∃ H' r, Inv X pins σ H' s ∧ Ext μ H μ H' ∧ RelH X.K H' μ hp ∧ DGet H' a y r ∧ RpO X.K H' μ (look kvs k) r := by
  cases o with
  | lst xs => simp [dicOf] at eo
  | dic kvs' =>
    simp only [dicOf] at eo
    cases eo
    obtain ⟨H', I', x, rh', nd, q⟩ := dic_kind I rh ha eh hk
    rcases q with ⟨nt, vs, e, r⟩ | ⟨⟨ks, rfl⟩, vs, e, r⟩
    · obtain ⟨k', e1⟩ := dKind_leaf hk nt
      exact ⟨H', _, I', x, rh', .inl ⟨vs, k', .inl e, ry.keyV e1, rfl⟩, r.look e1⟩
    · obtain ⟨⟨k', e1⟩, _⟩ := dKind_tup hk
      obtain ⟨b, ws, rfl, hb, rs⟩ := (ry.ext x).tupE
      have := rs.keysV e1
      subst this
      exact ⟨H', _, I', x, rh', .inr ⟨vs, k', b, .inl e, rfl, hb, rfl⟩, r.look e1⟩
  | dicL kvs' =>
    simp only [dicOf] at eo
    split at eo
    · cases eo
    · rename_i ne
      cases eo
      obtain ⟨nd, q⟩ := rh.dicL ha eh
      cases kvs with
      | nil => exact absurd rfl ne
      | cons p kr =>
        by_cases hkt : ∃ ks, k = .tup ks
        · obtain ⟨ks, rfl⟩ := hkt
          obtain ⟨⟨k', e1⟩, h2⟩ := dKind_tup hk
          rcases q with ⟨o, vs, e, r⟩ | ⟨o, vs, e, r⟩
          · obtain ⟨ds, e3⟩ := h2 p kr rfl
            exact (r.tupNot rfl e3).elim
          · obtain ⟨b, ws, rfl, hb, rs⟩ := ry.tupE
            have := rs.keysV e1
            subst this
            exact ⟨H, _, I, Ext.refl, rh, .inr ⟨vs, k', b, .inr ⟨o, e⟩, rfl, hb, rfl⟩, r.look e1⟩
        · have nt : ∀ ks, k ≠ .tup ks := fun ks e => hkt ⟨ks, e⟩
          obtain ⟨k', e1⟩ := dKind_leaf hk nt
          rcases q with ⟨o, vs, e, r⟩ | ⟨o, vs, e, r⟩
          · exact ⟨H, _, I, Ext.refl, rh, .inl ⟨vs, k', .inr ⟨o, e⟩, ry.keyV e1, rfl⟩, r.look e1⟩
          · exact (r.leafNot rfl (dKind_leaf2 hk nt)).elim
end

def inL (hp : Hd) (x : D) (ys : List D) : Option Bool := match pyF hp 16 x, mapO (pyF hp 15) ys with
  | some d, some ds => if (SeqAt.shaped d && SeqAt.shaped (.list ds)) = true then some (ds.any fun z => PyData.eqv z d) else none
  | _, _ => none
def flatD : D → Bool
  | .non => true
  | .bl _ => true
  | .int _ => true
  | .str _ => true
  | _ => false
def eqF : D → D → Bool
  | .non, .non => true
  | .bl a, .bl b => a == b
  | .bl a, .int b => (if a then 1 else 0) == b
  | .int a, .bl b => a == (if b then 1 else 0)
  | .int a, .int b => a == b
  | .str a, .str b => a == b
  | _, _ => false
def inB (x y : D) (hp : Hd) : Option Bool := match y with
  | .ref n => match hp[n]? with
    | some (.lst ys) => inL hp x ys
    | some o => match dicOf o with
      | some kvs => if dKind kvs x = true then some (look kvs x).isSome else none
      | none => none
    | none => none
  | .tup ys => if (flatD x && ys.all flatD) = true then some (ys.any fun z => eqF z x) else none
  | .str z => match x with
    | .str c => some (!(Builtin.Str.occurrences z c 0 z.length 1).isEmpty)
    | _ => none
  | _ => none
def gIn (x y : D) (hp : Hd) : Option (D × Hd) := match inB x y hp with
  | some b => some (.bl b, hp)
  | none => none
def gNotIn (x y : D) (hp : Hd) : Option (D × Hd) := match inB x y hp with
  | some b => some (.bl (!b), hp)
  | none => none
section
variable {X : Cx}
theorem Rp.flat {K : PySem.W.Frag} {H : Hp} {μ : List Addr} {d : D} {v : V} (f : flatD d = true) (r : Rp K H μ d v) : flatV v = true ∧ ∀ e w, flatD e = true → Rp K H μ e w → eqV v w = eqF d e := by
  cases d <;> simp only [flatD] at f <;> try (cases f; done)
  · cases r.nonE
    refine ⟨rfl, fun e w fe re => ?_⟩
    cases e <;> simp only [flatD] at fe <;> try (cases fe; done)
    · cases re.nonE; rfl
    · cases re.blE; rfl
    · cases re.intE; rfl
    · cases re.strE; rfl
  · cases r.blE
    refine ⟨rfl, fun e w fe re => ?_⟩
    cases e <;> simp only [flatD] at fe <;> try (cases fe; done)
    · cases re.nonE; rfl
    · cases re.blE; rfl
    · cases re.intE; rfl
    · cases re.strE; rfl
  · cases r.intE
    refine ⟨rfl, fun e w fe re => ?_⟩
    cases e <;> simp only [flatD] at fe <;> try (cases fe; done)
    · cases re.nonE; rfl
    · cases re.blE; rfl
    · cases re.intE; rfl
    · cases re.strE; rfl
  · cases r.strE
    refine ⟨rfl, fun e w fe re => ?_⟩
    cases e <;> simp only [flatD] at fe <;> try (cases fe; done)
    · cases re.nonE; rfl
    · cases re.blE; rfl
    · cases re.intE; rfl
    · cases re.strE; rfl
theorem Rps.flats {K : PySem.W.Frag} {H : Hp} {μ : List Addr} {e : D} {w : V} (fe : flatD e = true) (re : Rp K H μ e w) : ∀ {ds : List D} {vs : List V}, ds.all flatD = true → Rps K H μ ds vs → vs.all flatV = true ∧ (vs.any fun y => eqV y w) = ds.any fun z => eqF z e
  | [], vs, _, r => by
    rw [Rps] at r
    subst r
    exact ⟨rfl, rfl⟩
  | d :: ds, vs, f, r => by
    rw [Rps] at r
    obtain ⟨v, x, rfl, r1, r2⟩ := r
    rw [List.all_cons, Bool.and_eq_true] at f
    obtain ⟨h1, h2⟩ := r1.flat f.1
    obtain ⟨h3, h4⟩ := Rps.flats fe re f.2 r2
    exact ⟨by rw [List.all_cons, h1, h3]; rfl, by rw [List.any_cons, List.any_cons, h4, h2 e w fe re]⟩
theorem dpAll_of {K : PySem.W.Frag} {H : Hp} {μ : List Addr} {hp : Hd} (rh : RelH K H μ hp) {n : Nat} : ∀ (ds : List D) (ps : List PyData) (vs : List V), mapO (pyF hp n) ds = some ps → Rps K H μ ds vs → DpAll K H vs ps
  | [], ps, vs, h, r => by
    rw [Rps] at r
    simp only [mapO] at h
    cases h
    subst r
    exact .nil
  | d :: ds, ps, vs, h, r => by
    rw [Rps] at r
    obtain ⟨v, w, e, r1, r2⟩ := r
    subst e
    simp only [mapO] at h
    split at h
    · rename_i y ys e1 e2
      cases h
      exact .cons (pyF_dp rh n d y v e1 r1) (dpAll_of rh _ _ _ e2 r2)
    · cases h
theorem inL_some {hp : Hd} {x : D} {ys : List D} {b : Bool} (h : inL hp x ys = some b) : ∃ d ds, pyF hp 16 x = some d ∧ mapO (pyF hp 15) ys = some ds ∧ SeqAt.shaped d = true ∧ SeqAt.shaped (.list ds) = true ∧ b = ds.any fun z => PyData.eqv z d := by
  unfold inL at h
  split at h
  · rename_i d ds e1 e2
    split at h
    · rename_i hs
      rw [Bool.and_eq_true] at hs
      cases h
      exact ⟨d, ds, e1, e2, hs.1, hs.2, rfl⟩
    · cases h
  · cases h
theorem o_in (hu : X.A.units + 65 < cLine) : OpR X (compareOp .In) (RD X.K gIn) := fun pins s σ H x y v u Q I rx ry ⟨hp, μ, d1, d2, d, hp', rh, r1, r2, e, q⟩ => by
  unfold gIn at e
  split at e
  · rename_i b eb
    cases e
    unfold inB at eb
    split at eb
    · rename_i n
      obtain ⟨a, ea, rfl⟩ := r2.refE
      split at eb
      · rename_i ys e2
        obtain ⟨d, ds, e3, e4, s1, s2, rfl⟩ := inL_some eb
        obtain ⟨vs, ev, rv⟩ := rh.lst ea e2
        exact op_inD hu pins s σ H x _ v u Q I rx ry ⟨d, ds, pyF_dp rh _ _ _ _ e3 r1, .lst (.inl (.inl ev)) (dpAll_of rh _ _ _ e4 rv), s1, s2, q _ H μ Ext.refl rh Rp.bl⟩
      · rename_i o e2
        split at eb
        · rename_i kvs eo
          split at eb
          · rename_i hk
            cases eb
            obtain ⟨H', r, I', x', rh', g, ro⟩ := dic_get I rh ea e2 eo hk r1
            obtain rfl : u = Value.ref a := ry
            refine d_in (by omega) I' g rx fun s' I2 => ?_
            have hr : r.isSome = (look kvs d1).isSome := by
              cases h1 : look kvs d1 <;> cases h2 : r <;> rw [h1, h2] at ro <;> first | rfl | exact ro.elim
            rw [hr]
            exact ⟨.bl _, H', I2, rfl, q _ H' μ x' rh' Rp.bl⟩
          · cases eb
        · cases eb
      · cases eb
    · rename_i ys
      split at eb
      · rename_i hf
        rw [Bool.and_eq_true] at hf
        cases eb
        obtain ⟨a, vs, rfl, ta, ra⟩ := r2.tupE
        obtain ⟨f1, _⟩ := r1.flat hf.1
        obtain ⟨f2, f3⟩ := Rps.flats hf.1 r1 hf.2 ra
        refine op_in_seq pins s σ H x _ v u Q I rx ry ⟨a, vs, rfl, .inr ta.sq, f1, f2, ?_⟩
        rw [if_neg (by decide)]
        unfold inV
        rw [f3]
        exact q _ H μ Ext.refl rh Rp.bl
      · cases eb
    · rename_i z
      split at eb
      · rename_i c
        cases eb
        exact op_in_str pins s σ H x y v u Q I rx ry ⟨_, _, r1.strE, r2.strE, q _ H μ Ext.refl rh Rp.bl⟩
      · cases eb
    · cases eb
  · cases e
theorem o_notIn (hu : X.A.units + 65 < cLine) : OpR X (compareOp .NotIn) (RD X.K gNotIn) := fun pins s σ H x y v u Q I rx ry ⟨hp, μ, d1, d2, d, hp', rh, r1, r2, e, q⟩ => by
  unfold gNotIn at e
  split at e
  · rename_i b eb
    cases e
    unfold inB at eb
    split at eb
    · rename_i n
      obtain ⟨a, ea, rfl⟩ := r2.refE
      split at eb
      · rename_i ys e2
        obtain ⟨d, ds, e3, e4, s1, s2, rfl⟩ := inL_some eb
        obtain ⟨vs, ev, rv⟩ := rh.lst ea e2
        exact op_notInD hu pins s σ H x _ v u Q I rx ry ⟨d, ds, pyF_dp rh _ _ _ _ e3 r1, .lst (.inl (.inl ev)) (dpAll_of rh _ _ _ e4 rv), s1, s2, q _ H μ Ext.refl rh Rp.bl⟩
      · rename_i o e2
        split at eb
        · rename_i kvs eo
          split at eb
          · rename_i hk
            cases eb
            obtain ⟨H', r, I', x', rh', g, ro⟩ := dic_get I rh ea e2 eo hk r1
            obtain rfl : u = Value.ref a := ry
            refine d_notIn (by omega) I' g rx fun s' I2 => ?_
            have hr : r.isSome = (look kvs d1).isSome := by
              cases h1 : look kvs d1 <;> cases h2 : r <;> rw [h1, h2] at ro <;> first | rfl | exact ro.elim
            rw [hr]
            exact ⟨.bl _, H', I2, rfl, q _ H' μ x' rh' Rp.bl⟩
          · cases eb
        · cases eb
      · cases eb
    · rename_i ys
      split at eb
      · rename_i hf
        rw [Bool.and_eq_true] at hf
        cases eb
        obtain ⟨a, vs, rfl, ta, ra⟩ := r2.tupE
        obtain ⟨f1, _⟩ := r1.flat hf.1
        obtain ⟨f2, f3⟩ := Rps.flats hf.1 r1 hf.2 ra
        refine op_notIn_seq pins s σ H x _ v u Q I rx ry ⟨a, vs, rfl, .inr ta.sq, f1, f2, ?_⟩
        rw [if_pos rfl]
        unfold inV
        rw [f3]
        exact q _ H μ Ext.refl rh Rp.bl
      · cases eb
    · rename_i z
      split at eb
      · rename_i c
        cases eb
        exact op_notin_str pins s σ H x y v u Q I rx ry ⟨_, _, r1.strE, r2.strE, q _ H μ Ext.refl rh Rp.bl⟩
      · cases eb
    · cases eb
  · cases e
end
end Ve
namespace Ve
open PySem PySem.Spec L2

theorem PE.or {X : Cx} {e : Expr} {t t' : TE} (h : PE X e t) (h' : PE X e t') : PE X e (fun σ H Q => t σ H Q ∨ t' σ H Q) := ⟨fun pins s σ H Q I q => q.elim (h.run pins s σ H Q I) (h'.run pins s σ H Q I)⟩

def gIx (x y : D) (hp : Hd) : Option (D × Hd) := match x with
  | .tup ds => match y with
    | .int i => match atI ds i with
      | some d => some (d, hp)
      | none => none
    | _ => none
  | .wt ds => match y with
    | .int i => match atI ds i with
      | some d => some (d, hp)
      | none => none
    | _ => none
  | .scr ns => match y with
    | .int i => match atI ns i with
      | some d => some (.int d, hp)
      | none => none
    | _ => none
  | .str z => match y with
    | .int i => if z.length ≤ sizeLine then match atI z.cps.toList i with
      | some c => some (.str ⟨#[c]⟩, hp)
      | none => none else none
    | _ => none
  | .ref n => match hp[n]? with
    | some (.lst ds) => match y with
      | .int i => match atI ds i with
        | some d => some (d, hp)
        | none => none
      | _ => none
    | some o => match dicOf o with
      | some kvs => if dKind kvs y = true then match look kvs y with
        | some d => some (d, hp)
        | none => none else none
      | none => none
    | none => none
  | _ => none
theorem atI_rps {K : PySem.W.Frag} {H : Hp} {μ : List Addr} {ds : List D} {vs : List V} {i : Int} {d : D} (r : Rps K H μ ds vs) (h : atI ds i = some d) : ∃ v, atI vs i = some v ∧ Rp K H μ d v := by
  unfold atI at h ⊢
  rw [r.len]
  cases e : ixN ds.length i with
  | none => rw [e] at h; cases h
  | some j =>
    rw [e] at h
    obtain ⟨v, e2, r2⟩ := r.get h
    exact ⟨v, e2, r2⟩
theorem atI_map {α β : Type} (f : α → β) {xs : List α} {i : Int} {x : α} (h : atI xs i = some x) : atI (xs.map f) i = some (f x) := by
  unfold atI at h ⊢
  rw [List.length_map]
  cases e : ixN xs.length i with
  | none => rw [e] at h; cases h
  | some j =>
    rw [e] at h
    show (xs.map f)[j]? = _
    rw [List.getElem?_map, show xs[j]? = some x from h]
    rfl
section
variable {X : Cx} {e a b : Expr} {es : List Expr} {fa fb : AE} {fl : AA} {ft : AT} {fr : AA} {pos : Pos}
theorem m2_some {g : D → D → Hd → Option (D × Hd)} {ls : Ls} {hp hp' : Hd} {d : D} (h : m2 fa fb g ls hp = some (d, hp')) : ∃ d1 hp1 d2 hp2, fa ls hp = some (d1, hp1) ∧ fb ls hp1 = some (d2, hp2) ∧ g d1 d2 hp2 = some (d, hp') := by
  unfold m2 at h
  cases e1 : fa ls hp with
  | none => rw [e1] at h; cases h
  | some p1 =>
    obtain ⟨d1, hp1⟩ := p1
    rw [e1] at h
    dsimp only at h
    cases e2 : fb ls hp1 with
    | none => rw [e2] at h; cases h
    | some p2 =>
      obtain ⟨d2, hp2⟩ := p2
      rw [e2] at h
      exact ⟨d1, hp1, d2, hp2, rfl, e2, h⟩
theorem de_ix (hu : X.A.units + 1 < cLine) (ha : DE X a fa) (hb : DE X b fb) (hs : PlainIx b := by intro _ _; rfl) : DE X (.Subscript a b pos) (m2 fa fb gIx) :=
  PE.imp (PE.or (pe_ix ix_seq ha hb hs) (pe_dget hu ha hb hs)) fun σ H Q ⟨ls, hp, μ, d, hp', rl, rh, e, q⟩ => by
    obtain ⟨d1, hp1, d2, hp2, e1, e2, e3⟩ := m2_some e
    unfold gIx at e3
    cases d1 <;> try (cases e3; done)
    · rename_i z
      dsimp only at e3
      cases d2 <;> try (cases e3; done)
      rename_i i
      dsimp only at e3
      split at e3
      · rename_i hz
        split at e3
        · rename_i c ec
          cases e3
          refine .inl ⟨ls, hp, μ, _, hp1, rl, rh, e1, fun v1 H1 μ1 x1 rh1 r1 => ⟨ls, hp1, μ1, _, _, rl.ext x1, rh1, e2, fun v2 H2 μ2 x2 rh2 r2 => .inr (.inr ⟨z, i, c, r1.strE, r2.intE, hz, ec, q _ H2 μ2 (x1.trans x2) rh2 Rp.str⟩)⟩⟩
        · cases e3
      · cases e3
    · rename_i ds
      dsimp only at e3
      cases d2 <;> try (cases e3; done)
      rename_i i
      dsimp only at e3
      split at e3
      · rename_i d' ed
        cases e3
        refine .inl ⟨ls, hp, μ, _, hp1, rl, rh, e1, fun v1 H1 μ1 x1 rh1 r1 => ⟨ls, hp1, μ1, _, _, rl.ext x1, rh1, e2, fun v2 H2 μ2 x2 rh2 r2 => ?_⟩⟩
        obtain ⟨p, vs, rfl, t, rs⟩ := (r1.ext x2).tupE
        obtain ⟨v, ev, rv⟩ := atI_rps rs ed
        exact .inr (.inl ⟨p, vs, i, v, rfl, r2.intE, t.sq, ev, q _ H2 μ2 (x1.trans x2) rh2 rv⟩)
      · cases e3
    · rename_i n
      dsimp only at e3
      split at e3
      · rename_i ds eh
        cases d2 <;> try (cases e3; done)
        rename_i i
        dsimp only at e3
        split at e3
        · rename_i d' ed
          cases e3
          refine .inl ⟨ls, hp, μ, _, hp1, rl, rh, e1, fun v1 H1 μ1 x1 rh1 r1 => ⟨ls, hp1, μ1, _, _, rl.ext x1, rh1, e2, fun v2 H2 μ2 x2 rh2 r2 => ?_⟩⟩
          obtain ⟨p, ep, rfl⟩ := (r1.ext x2).refE
          obtain ⟨vs, evs, rs⟩ := rh2.lst ep eh
          obtain ⟨v, ev, rv⟩ := atI_rps rs ed
          exact .inl ⟨p, vs, i, v, rfl, r2.intE, .inl (.inl evs), ev, q _ H2 μ2 (x1.trans x2) rh2 rv⟩
        · cases e3
      · rename_i o _ eh
        split at e3
        · rename_i kvs eo
          split at e3
          · rename_i hk
            split at e3
            · rename_i d' ed
              cases e3
              refine .inr ⟨ls, hp, μ, _, hp1, rl, rh, e1, fun v1 H1 μ1 x1 rh1 r1 => ⟨ls, hp1, μ1, _, _, rl.ext x1, rh1, e2, fun v2 H2 μ2 x2 rh2 r2 => ?_⟩⟩
              obtain ⟨p, ep, rfl⟩ := (r1.ext x2).refE
              have ne : kvs ≠ [] := fun z => by
                subst z
                simp [look] at ed
              have key : ∃ v, DGet H2 p v2 (some v) ∧ Rp X.K H2 μ2 d v := by
                cases o with
                | lst xs => simp [dicOf] at eo
                | dic kvs' =>
                  simp only [dicOf] at eo
                  cases eo
                  obtain ⟨nd, qd⟩ := rh2.dic ep eh
                  cases kvs with
                  | nil => exact absurd rfl ne
                  | cons pr kr =>
                    by_cases hkt : ∃ ks, d2 = .tup ks
                    · obtain ⟨ks, rfl⟩ := hkt
                      obtain ⟨⟨k', ek⟩, h2⟩ := dKind_tup hk
                      rcases qd with ⟨vs, ev, r⟩ | ⟨vs, ev, r⟩
                      · obtain ⟨ds, e5⟩ := h2 pr kr rfl
                        exact (r.tupNot rfl e5).elim
                      · obtain ⟨b, ws, rfl, hb, rs⟩ := r2.tupE
                        have := rs.keysV ek
                        subst this
                        have ro := r.look ek
                        rw [ed] at ro
                        cases h : valV vs k' with
                        | none => rw [h] at ro; exact ro.elim
                        | some v =>
                          rw [h] at ro
                          exact ⟨v, .inr ⟨vs, k', b, .inl ev, rfl, hb, h.symm⟩, ro⟩
                    · have nt : ∀ ks, d2 ≠ .tup ks := fun ks z => hkt ⟨ks, z⟩
                      obtain ⟨k', ek⟩ := dKind_leaf hk nt
                      rcases qd with ⟨vs, ev, r⟩ | ⟨vs, ev, r⟩
                      · have ro := r.look ek
                        rw [ed] at ro
                        cases h : valV vs k' with
                        | none => rw [h] at ro; exact ro.elim
                        | some v =>
                          rw [h] at ro
                          exact ⟨v, .inl ⟨vs, k', .inl ev, r2.keyV ek, h.symm⟩, ro⟩
                      · exact (r.leafNot rfl (dKind_leaf2 hk nt)).elim
                | dicL kvs' =>
                  simp only [dicOf] at eo
                  split at eo
                  · cases eo
                  · cases eo
                    obtain ⟨nd, qd⟩ := rh2.dicL ep eh
                    cases kvs with
                    | nil => exact absurd rfl ne
                    | cons pr kr =>
                      by_cases hkt : ∃ ks, d2 = .tup ks
                      · obtain ⟨ks, rfl⟩ := hkt
                        obtain ⟨⟨k', ek⟩, h2⟩ := dKind_tup hk
                        rcases qd with ⟨ob, vs, ev, r⟩ | ⟨ob, vs, ev, r⟩
                        · obtain ⟨ds, e5⟩ := h2 pr kr rfl
                          exact (r.tupNot rfl e5).elim
                        · obtain ⟨b, ws, rfl, hb, rs⟩ := r2.tupE
                          have := rs.keysV ek
                          subst this
                          have ro := r.look ek
                          rw [ed] at ro
                          cases h : valV vs k' with
                          | none => rw [h] at ro; exact ro.elim
                          | some v =>
                            rw [h] at ro
                            exact ⟨v, .inr ⟨vs, k', b, .inr ⟨ob, ev⟩, rfl, hb, h.symm⟩, ro⟩
                      · have nt : ∀ ks, d2 ≠ .tup ks := fun ks z => hkt ⟨ks, z⟩
                        obtain ⟨k', ek⟩ := dKind_leaf hk nt
                        rcases qd with ⟨ob, vs, ev, r⟩ | ⟨ob, vs, ev, r⟩
                        · have ro := r.look ek
                          rw [ed] at ro
                          cases h : valV vs k' with
                          | none => rw [h] at ro; exact ro.elim
                          | some v =>
                            rw [h] at ro
                            exact ⟨v, .inl ⟨vs, k', .inr ⟨ob, ev⟩, r2.keyV ek, h.symm⟩, ro⟩
                        · exact (r.leafNot rfl (dKind_leaf2 hk nt)).elim
              obtain ⟨v, g, rv⟩ := key
              exact ⟨p, v, rfl, g, q v H2 μ2 (x1.trans x2) rh2 rv⟩
            · cases e3
          · cases e3
        · cases e3
      · cases e3
    · rename_i ns
      dsimp only at e3
      cases d2 <;> try (cases e3; done)
      rename_i i
      dsimp only at e3
      split at e3
      · rename_i d' ed
        cases e3
        refine .inl ⟨ls, hp, μ, _, hp1, rl, rh, e1, fun v1 H1 μ1 x1 rh1 r1 => ⟨ls, hp1, μ1, _, _, rl.ext x1, rh1, e2, fun v2 H2 μ2 x2 rh2 r2 => ?_⟩⟩
        obtain ⟨p, rfl, sc⟩ := (r1.ext x2).scrE
        exact .inl ⟨p, _, i, .int d', rfl, r2.intE, sc.sq, atI_map V.int ed, q _ H2 μ2 (x1.trans x2) rh2 Rp.int⟩
      · cases e3
    · rename_i ds
      dsimp only at e3
      cases d2 <;> try (cases e3; done)
      rename_i i
      dsimp only at e3
      split at e3
      · rename_i d' ed
        cases e3
        refine .inl ⟨ls, hp, μ, _, hp1, rl, rh, e1, fun v1 H1 μ1 x1 rh1 r1 => ⟨ls, hp1, μ1, _, _, rl.ext x1, rh1, e2, fun v2 H2 μ2 x2 rh2 r2 => ?_⟩⟩
        obtain ⟨p, vs, rfl, t, rs⟩ := (r1.ext x2).wtE
        obtain ⟨v, ev, rv⟩ := atI_rps rs ed
        exact .inr (.inl ⟨p, vs, i, v, rfl, r2.intE, t.sq, ev, q _ H2 μ2 (x1.trans x2) rh2 rv⟩)
      · cases e3

def gSet (x y v : D) (hp : Hd) : Option Hd := match x with
  | .ref n => match hp[n]? with
    | some (.lst ds) => match y with
      | .int i => match ixN ds.length i with
        | some j => some (hp.set n (.lst (ds.set j v)))
        | none => none
      | _ => none
    | some (.dic kvs) => if (dKind kvs y && decide (kvs.length < sizeLine)) = true then some (hp.set n (.dic (putD kvs y v))) else none
    | _ => none
  | _ => none
def rSetD (K : PySem.W.Frag) : TSet := fun x y v H Q => ∃ hp μ dx dy dv hp', RelH K H μ hp ∧ Rp K H μ dx x ∧ Rp K H μ dy y ∧ Rp K H μ dv v ∧ gSet dx dy dv hp = some hp' ∧
  ∀ H', Ext μ H μ H' → RelH K H' μ hp' → Q H'
theorem Rps.set {K : PySem.W.Frag} {H : Hp} {μ : List Addr} {d : D} {v : V} (rv : Rp K H μ d v) : ∀ {ds : List D} {vs : List V} (j : Nat), Rps K H μ ds vs → Rps K H μ (ds.set j d) (vs.set j v)
  | [], vs, j, h => by
    rw [Rps] at h
    subst h
    exact Rps.nil
  | x :: xs, vs, j, h => by
    rw [Rps] at h
    obtain ⟨w, r, rfl, h1, h2⟩ := h
    cases j with
    | zero =>
      rw [List.set_cons_zero, List.set_cons_zero, Rps]
      exact ⟨v, r, rfl, rv, h2⟩
    | succ j =>
      rw [List.set_cons_succ, List.set_cons_succ, Rps]
      exact ⟨w, _, rfl, h1, Rps.set rv j h2⟩
theorem set_any (hu : X.A.units + 1 < cLine) : PSet X (rSetD X.K) := by
  intro pins s σ H o i v ov iv u Q I ro ri rv h
  obtain ⟨hp, μ, dx, dy, dv, hp', rh, rx, ry, rw', e, q⟩ := h
  unfold gSet at e
  cases dx <;> try (cases e; done)
  rename_i n
  dsimp only at e
  obtain ⟨a, ea, rfl⟩ := rx.refE
  split at e
  · rename_i ds eh
    cases dy <;> try (cases e; done)
    rename_i k
    dsimp only at e
    split at e
    · rename_i j ej
      cases e
      obtain ⟨vs, ev, rs⟩ := rh.lst ea eh
      have x0 : Mon μ H μ (upd H a (.lst (vs.set j v))) := Mon.loose ev
      obtain ⟨r1, x1⟩ := rh.put (o := .lst (ds.set j dv)) (u := .lst (vs.set j v)) ea ⟨_, rfl, (rs.set rw' j).mon x0⟩
      exact set_list pins s σ H _ i v ov iv u Q I ro ri rv ⟨a, vs, k, j, rfl, ry.intE, ev, by rw [rs.len]; exact ej, q _ x1 r1⟩
    · cases e
  · rename_i kvs eh
    split at e
    · rename_i hk
      rw [Bool.and_eq_true] at hk
      have hl := of_decide_eq_true hk.2
      cases e
      obtain ⟨H1, I1, x1, rh1, nd, c⟩ := dic_kind I rh ea eh hk.1
      obtain rfl : ov = Value.ref a := ro
      rcases c with ⟨nt, vs, ev, r⟩ | ⟨⟨ks, rfl⟩, vs, ev, r⟩
      · obtain ⟨k', ek⟩ := dKind_leaf hk.1 nt
        have hv := ry.keyV ek
        subst hv
        have x0 : Mon μ H1 μ (upd H1 a (.dK (putK vs k' v))) := ⟨⟨[], by simp⟩, fun b xs e => by rw [upd_ne (fun z => by subst z; rw [ev] at e; cases e)]; exact e, fun b ob xs e => by rw [upd_ne (fun z => by subst z; rw [ev] at e; cases e)]; exact e⟩
        obtain ⟨r2, x2⟩ := rh1.put (o := .dic (putD kvs dy dv)) (u := .dK (putK vs k' v)) ea ⟨nd.put, .inl ⟨_, rfl, (r.put ek (rw'.ext x1) nd).mon x0⟩⟩
        exact d_setItem hu I1 (DPut.k ev (by rw [r.len]; exact hl)) ri rv fun s' I2 => ⟨_, I2, q _ (x1.trans x2) r2⟩
      · obtain ⟨⟨k', ek⟩, _⟩ := dKind_tup hk.1
        obtain ⟨b, ws, rfl, hb, rs⟩ := (ry.ext x1).tupE
        have := rs.keysV ek
        subst this
        have x0 : Mon μ H1 μ (upd H1 a (.dT (putK vs k' v))) := ⟨⟨[], by simp⟩, fun b xs e => by rw [upd_ne (fun z => by subst z; rw [ev] at e; cases e)]; exact e, fun b ob xs e => by rw [upd_ne (fun z => by subst z; rw [ev] at e; cases e)]; exact e⟩
        obtain ⟨r2, x2⟩ := rh1.put (o := .dic (putD kvs (.tup ks) dv)) (u := .dT (putK vs k' v)) ea ⟨nd.put, .inr ⟨_, rfl, (r.put ek (rw'.ext x1) nd).mon x0⟩⟩
        exact d_setItem hu I1 (DPut.t ev hb (by rw [r.len]; exact hl)) ri rv fun s' I2 => ⟨_, I2, q _ (x1.trans x2) r2⟩
    · cases e
  · cases e
def sStore (fe fo fi : AE) : AS := fun ls hp => match fe ls hp with
  | some (v, hp1) => match fo ls hp1 with
    | some (x, hp2) => match fi ls hp2 with
      | some (y, hp3) => match gSet x y v hp3 with
        | some hp4 => some (.nx, ls, hp4)
        | none => none
      | none => none
    | none => none
  | none => none
theorem ds_store {o i : Expr} {fe fo fi : AE} {pos' : Pos} (hu : X.A.units + 1 < cLine) (he : DE X e fe) (ho : DE X o fo) (hi : DE X i fi) (hs : swapsWithSole [.Subscript o i pos'] e pos.line X.env = pure false := by rfl)
    (hsw : swappedStores [.Subscript o i pos'] e X.env = pure none := by rfl) (h1 : (assignEach [.Subscript o i pos'] X.env).map (·.2) = [assign (.Subscript o i pos') X.env] := by rfl)
    (ha : ∀ v, assign (.Subscript o i pos') X.env v = (do
      let ov ← holding [v] (eval o X.env)
      let iv ← holding [v, ov] (eval i X.env)
      standAt pos'
      holding [v, ov, iv] (setItem ov iv v)
      release [v, ov, iv] []) := by intro _; rfl) : DS X (.Assign [.Subscript o i pos'] e pos) (sStore fe fo fi) :=
  PS.imp (ps_asg he (pg_sub ho hi (set_any hu) ha) hs hsw h1) fun Dn σ H ⟨ls, hp, μ, fl, ls', hp', rl, rh, e, q⟩ => by
    unfold sStore at e
    split at e
    · rename_i v hp1 e1
      split at e
      · rename_i x hp2 e2
        split at e
        · rename_i y hp3 e3
          split at e
          · rename_i hp4 e4
            cases e
            exact ⟨ls, hp, μ, v, hp1, rl, rh, e1, fun v1 H1 μ1 x1 rh1 r1 => ⟨ls, hp1, μ1, x, hp2, rl.ext x1, rh1, e2, fun v2 H2 μ2 x2 rh2 r2 => ⟨ls, hp2, μ2, y, hp3, (rl.ext x1).ext x2, rh2, e3, fun v3 H3 μ3 x3 rh3 r3 =>
              ⟨hp3, μ3, x, y, v, hp', rh3, r2.ext x3, r3, (r1.ext x2).ext x3, e4, fun H4 x4 rh4 => q H4 μ3 (((x1.trans x2).trans x3).trans x4) rh4 σ ((((rl.ext x1).ext x2).ext x3).ext x4)⟩⟩⟩⟩
          · cases e
        · cases e
      · cases e
    · cases e
def sAug (i : Nat) (fe : AE) (g : D → D → Hd → Option (D × Hd)) : AS := fun ls hp => match ls[i]? with
  | some (some x) => match fe ls hp with
    | some (y, hp1) => match g x y hp1 with
      | some (z, hp2) => some (.nx, ls.set i (some z), hp2)
      | none => none
    | none => none
  | _ => none
theorem ds_aug {i : Nat} {x : Str} {op : Operator} {pos' : Pos} {g : D → D → Hd → Option (D × Hd)} (hN : X.N.Nodup) (hi : X.N[i]? = some x) (hx : Loc X.env.scope x) (he : DE X e fa) (ho : OpR X (inplaceOp op) (RD X.K g))
    (hf : X.fn x = true ∨ X.env.scope.names.lookup x = some .local := by first | exact .inl rfl | exact .inr rfl | assumption) : DS X (.AugAssign (.Name x pos') op e pos) (sAug i fa g) :=
  PS.imp (ps_aug (ti := RD X.K g) hN hi hx he ho hf) fun Dn σ H ⟨ls, hp, μ, fl, ls', hp', rl, rh, e, q⟩ => by
    unfold sAug at e
    split at e
    · rename_i x ex
      obtain ⟨v, ev, rv⟩ := rl.2 i x ex
      split at e
      · rename_i y hp1 e1
        split at e
        · rename_i z hp2 e2
          cases e
          exact ⟨v, ev, ls, hp, μ, y, hp1, rl, rh, e1, fun v1 H1 μ1 x1 rh1 r1 => ⟨hp1, μ1, x, y, z, hp', rh1, rv.ext x1, r1, e2, fun w H' μ' x2 rh2 r2 => q H' μ' (x1.trans x2) rh2 _ (((rl.ext x1).ext x2).set r2)⟩⟩
        · cases e
      · cases e
    · cases e
def gAddI : D → D → Hd → Option (D × Hd) := gI (fun _ _ => true) fun i j => .int (i + j)
theorem i_add : OpR X (inplaceOp .Add) (RD X.K gAddI) := op_gI0 iop_add
theorem i_sub : OpR X (inplaceOp .Sub) (RD X.K gSub) := op_gI0 iop_sub
end
end Ve
namespace Ve
open PySem PySem.Spec L2

def mAnd (f g : AT) : AT := fun ls hp => match f ls hp with
  | some (true, hp1) => g ls hp1
  | r => r
def mOr (f g : AT) : AT := fun ls hp => match f ls hp with
  | some (false, hp1) => g ls hp1
  | r => r
def mNot (f : AT) : AT := fun ls hp => match f ls hp with
  | some (b, hp1) => some (!b, hp1)
  | none => none
def mAndV (f g : AE) : AE := fun ls hp => match f ls hp with
  | some (.bl true, hp1) => g ls hp1
  | some (.bl false, hp1) => some (.bl false, hp1)
  | _ => none
def mOrV (f g : AE) : AE := fun ls hp => match f ls hp with
  | some (.bl true, hp1) => some (.bl true, hp1)
  | some (.bl false, hp1) => g ls hp1
  | _ => none
def mNotV (f : AE) : AE := fun ls hp => match f ls hp with
  | some (.bl b, hp1) => some (.bl (!b), hp1)
  | _ => none
def mIfE (c : AT) (f g : AE) : AE := fun ls hp => match c ls hp with
  | some (true, hp1) => f ls hp1
  | some (false, hp1) => g ls hp1
  | none => none
section
variable {X : Cx} {e a b c : Expr} {es rest : List Expr} {fa fb fc : AE} {fl fm : AA} {ft fu : AT} {fr : AA} {pos : Pos}
theorem dt_val (h : DE X e fa) (he : ∀ whole, isTrue e X.env whole = (do let v ← whole; standAt e.pos; holding [v] (truthy v)) := by intro _; rfl) : DT X e (mT fa) :=
  PT.imp (pt_val h he) fun σ H Q ⟨ls, hp, μ, b, hp', rl, rh, e, q⟩ => by
    unfold mT at e
    split at e
    · rename_i b' hp1 e1
      cases e
      exact ⟨ls, hp, μ, .bl b, hp', rl, rh, e1, fun v H' μ' x1 rh1 r1 => ⟨b, r1.blE, q H' μ' x1 rh1⟩⟩
    · cases e
theorem dw_and1 (ha : DT X a ft) : DW X (.BoolOp .And [a] pos) ft := pw_and1 ha
theorem dw_or1 (ha : DT X a ft) : DW X (.BoolOp .Or [a] pos) ft := pw_or1 ha
theorem dw_and (ha : DT X a ft) (hb : DW X (.BoolOp .And (b :: rest) pos) fu) : DW X (.BoolOp .And (a :: b :: rest) pos) (mAnd ft fu) :=
  PW.imp (pw_and ha hb) fun σ H Q ⟨ls, hp, μ, r, hp', rl, rh, e, q⟩ => by
    unfold mAnd at e
    cases e1 : ft ls hp with
    | none => rw [e1] at e; cases e
    | some p =>
      obtain ⟨k, hp1⟩ := p
      rw [e1] at e
      refine ⟨ls, hp, μ, k, hp1, rl, rh, e1, fun H1 μ1 x1 rh1 => ?_⟩
      cases k with
      | true => exact iteT ⟨ls, hp1, μ1, r, hp', rl.ext x1, rh1, e, fun H2 μ2 x2 rh2 => q H2 μ2 (x1.trans x2) rh2⟩
      | false =>
        cases e
        exact iteF (q H1 μ1 x1 rh1)
theorem dw_or (ha : DT X a ft) (hb : DW X (.BoolOp .Or (b :: rest) pos) fu) : DW X (.BoolOp .Or (a :: b :: rest) pos) (mOr ft fu) :=
  PW.imp (pw_or ha hb) fun σ H Q ⟨ls, hp, μ, r, hp', rl, rh, e, q⟩ => by
    unfold mOr at e
    cases e1 : ft ls hp with
    | none => rw [e1] at e; cases e
    | some p =>
      obtain ⟨k, hp1⟩ := p
      rw [e1] at e
      refine ⟨ls, hp, μ, k, hp1, rl, rh, e1, fun H1 μ1 x1 rh1 => ?_⟩
      cases k with
      | false => exact iteF ⟨ls, hp1, μ1, r, hp', rl.ext x1, rh1, e, fun H2 μ2 x2 rh2 => q H2 μ2 (x1.trans x2) rh2⟩
      | true =>
        cases e
        exact iteT (q H1 μ1 x1 rh1)
theorem dt_w (h : DW X e ft) : DT X e ft := h.pt
theorem dt_not (ha : DT X a ft) : DT X (.UnaryOp .Not a pos) (mNot ft) :=
  PT.imp (pt_not ha) fun σ H Q ⟨ls, hp, μ, r, hp', rl, rh, e, q⟩ => by
    unfold mNot at e
    split at e
    · rename_i b hp1 e1
      cases e
      exact ⟨ls, hp, μ, b, hp', rl, rh, e1, fun H1 μ1 x1 rh1 => q H1 μ1 x1 rh1⟩
    · cases e
theorem de_one {op} (h : DE X a fa) : DE X (.BoolOp op [a] pos) fa := pe_one h
theorem de_and (ha : DE X a fa) (hb : DE X (.BoolOp .And (b :: rest) pos) fb) : DE X (.BoolOp .And (a :: b :: rest) pos) (mAndV fa fb) :=
  PE.imp (pe_and ha hb) fun σ H Q ⟨ls, hp, μ, r, hp', rl, rh, e, q⟩ => by
    unfold mAndV at e
    split at e
    · rename_i hp1 e1
      exact ⟨ls, hp, μ, _, hp1, rl, rh, e1, fun v H1 μ1 x1 rh1 r1 => ⟨true, r1.blE, iteT ⟨ls, hp1, μ1, r, hp', rl.ext x1, rh1, e, fun v H2 μ2 x2 rh2 r2 => q v H2 μ2 (x1.trans x2) rh2 r2⟩⟩⟩
    · rename_i hp1 e1
      cases e
      exact ⟨ls, hp, μ, _, hp', rl, rh, e1, fun v H1 μ1 x1 rh1 r1 => ⟨false, r1.blE, iteF (q _ H1 μ1 x1 rh1 Rp.bl)⟩⟩
    · cases e
theorem de_or (ha : DE X a fa) (hb : DE X (.BoolOp .Or (b :: rest) pos) fb) : DE X (.BoolOp .Or (a :: b :: rest) pos) (mOrV fa fb) :=
  PE.imp (pe_or ha hb) fun σ H Q ⟨ls, hp, μ, r, hp', rl, rh, e, q⟩ => by
    unfold mOrV at e
    split at e
    · rename_i hp1 e1
      cases e
      exact ⟨ls, hp, μ, _, hp', rl, rh, e1, fun v H1 μ1 x1 rh1 r1 => ⟨true, r1.blE, iteT (q _ H1 μ1 x1 rh1 Rp.bl)⟩⟩
    · rename_i hp1 e1
      exact ⟨ls, hp, μ, _, hp1, rl, rh, e1, fun v H1 μ1 x1 rh1 r1 => ⟨false, r1.blE, iteF ⟨ls, hp1, μ1, r, hp', rl.ext x1, rh1, e, fun v H2 μ2 x2 rh2 r2 => q v H2 μ2 (x1.trans x2) rh2 r2⟩⟩⟩
    · cases e
theorem de_not (ha : DE X a fa) : DE X (.UnaryOp .Not a pos) (mNotV fa) :=
  PE.imp (pe_not ha) fun σ H Q ⟨ls, hp, μ, r, hp', rl, rh, e, q⟩ => by
    unfold mNotV at e
    split at e
    · rename_i b hp1 e1
      cases e
      exact ⟨ls, hp, μ, _, hp', rl, rh, e1, fun v H1 μ1 x1 rh1 r1 => ⟨b, r1.blE, q _ H1 μ1 x1 rh1 Rp.bl⟩⟩
    · cases e
theorem de_ifExp (hc : DT X c ft) (ha : DE X a fa) (hb : DE X b fb) : DE X (.IfExp c a b pos) (mIfE ft fa fb) :=
  PE.imp (pe_ifExp hc ha hb) fun σ H Q ⟨ls, hp, μ, r, hp', rl, rh, e, q⟩ => by
    unfold mIfE at e
    split at e
    · rename_i hp1 e1
      exact ⟨ls, hp, μ, true, hp1, rl, rh, e1, fun H1 μ1 x1 rh1 => iteT ⟨ls, hp1, μ1, r, hp', rl.ext x1, rh1, e, fun v H2 μ2 x2 rh2 r2 => q v H2 μ2 (x1.trans x2) rh2 r2⟩⟩
    · rename_i hp1 e1
      exact ⟨ls, hp, μ, false, hp1, rl, rh, e1, fun H1 μ1 x1 rh1 => iteF ⟨ls, hp1, μ1, r, hp', rl.ext x1, rh1, e, fun v H2 μ2 x2 rh2 r2 => q v H2 μ2 (x1.trans x2) rh2 r2⟩⟩
    · cases e
def mChain (fa fb fc : AE) (g g' : D → D → Hd → Option (D × Hd)) : AE := fun ls hp => match fa ls hp with
  | some (x, hp1) => match fb ls hp1 with
    | some (y, hp2) => match g x y hp2 with
      | some (.bl true, hp3) => match fc ls hp3 with
        | some (z, hp4) => g' y z hp4
        | none => none
      | some (.bl false, hp3) => some (.bl false, hp3)
      | _ => none
    | none => none
  | none => none
theorem tChain_of {K : PySem.W.Frag} {g g' : D → D → Hd → Option (D × Hd)} {σ : St} {H : Hp} {Q : VK} (h : tD K (mChain fa fb fc g g') σ H Q) : tChain (RD K g) (RD K g') (tD K fa) (tD K fb) (tD K fc) σ H Q := by
  obtain ⟨ls, hp, μ, d, hp', rl, rh, e, q⟩ := h
  unfold mChain at e
  split at e
  · rename_i x hp1 e1
    split at e
    · rename_i y hp2 e2
      split at e
      · rename_i hp3 e3
        split at e
        · rename_i z hp4 e4
          exact ⟨ls, hp, μ, x, hp1, rl, rh, e1, fun v1 H1 μ1 x1 rh1 r1 => ⟨ls, hp1, μ1, y, hp2, rl.ext x1, rh1, e2, fun v2 H2 μ2 x2 rh2 r2 => ⟨hp2, μ2, x, y, _, hp3, rh2, r1.ext x2, r2, e3, fun v3 H3 μ3 x3 rh3 r3 =>
            ⟨true, r3.blE, iteT ⟨ls, hp3, μ3, z, hp4, ((rl.ext x1).ext x2).ext x3, rh3, e4, fun v4 H4 μ4 x4 rh4 r4 => ⟨hp4, μ4, y, z, d, hp', rh4, (r2.ext x3).ext x4, r4, e, fun v H5 μ5 x5 rh5 r5 => q v H5 μ5 ((((x1.trans x2).trans x3).trans x4).trans x5) rh5 r5⟩⟩⟩⟩⟩⟩
        · cases e
      · rename_i hp3 e3
        cases e
        exact ⟨ls, hp, μ, x, hp1, rl, rh, e1, fun v1 H1 μ1 x1 rh1 r1 => ⟨ls, hp1, μ1, y, hp2, rl.ext x1, rh1, e2, fun v2 H2 μ2 x2 rh2 r2 => ⟨hp2, μ2, x, y, _, hp', rh2, r1.ext x2, r2, e3, fun v3 H3 μ3 x3 rh3 r3 =>
            ⟨false, r3.blE, iteF (q _ H3 μ3 ((x1.trans x2).trans x3) rh3 Rp.bl)⟩⟩⟩⟩
      · cases e
    · cases e
  · cases e
theorem de_chain {op op' : CmpOp} {g g' : D → D → Hd → Option (D × Hd)} (ho : OpR X (compareOp op) (RD X.K g)) (ho' : OpR X (compareOp op') (RD X.K g')) (ha : DE X a fa) (hb : DE X b fb) (hc : DE X c fc)
    (hm : lastMarks [op, op'] [b, c] = false := by with_unfolding_all rfl) : DE X (.Compare a [op, op'] [b, c] pos) (mChain fa fb fc g g') :=
  PE.imp (pe_chain ho ho' ha hb hc hm) fun _ _ _ h => tChain_of h
def gIs (x y : D) (hp : Hd) : Option (D × Hd) := match y with
  | .non => match x with
    | .non => some (.bl true, hp)
    | _ => some (.bl false, hp)
  | .bl b => match x with
    | .bl a => some (.bl (decide (a = b)), hp)
    | _ => none
  | _ => none
def gIsNot (x y : D) (hp : Hd) : Option (D × Hd) := match y with
  | .non => match x with
    | .non => some (.bl false, hp)
    | _ => some (.bl true, hp)
  | .bl b => match x with
    | .bl a => some (.bl (!decide (a = b)), hp)
    | _ => none
  | _ => none
theorem Rp.notNon {K : PySem.W.Frag} {H : Hp} {μ : List Addr} {d : D} {v : V} (r : Rp K H μ d v) (h : d ≠ .non) : v ≠ .non := by
  intro e
  subst e
  cases d with
  | non => exact h rfl
  | bl b => exact nomatch r.blE
  | int i => exact nomatch r.intE
  | str x => exact nomatch r.strE
  | tup ds => obtain ⟨a, vs, e, _⟩ := r.tupE; exact nomatch e
  | wt ds => obtain ⟨a, vs, e, _⟩ := r.wtE; exact nomatch e
  | ref n => obtain ⟨a, _, e⟩ := r.refE; exact nomatch e
  | scr ns => obtain ⟨a, e, _⟩ := r.scrE; exact nomatch e
theorem o_is : OpR X (compareOp .Is) (RD X.K gIs) := fun pins s σ H x y v u Q I rx ry ⟨hp, μ, d1, d2, d, hp', rh, r1, r2, e, q⟩ => by
  unfold gIs at e
  split at e
  · split at e
    · cases e
      cases r1.nonE
      cases r2.nonE
      exact op_isN pins s σ H .non .non v u Q I rx ry ⟨rfl, q _ H μ Ext.refl rh Rp.bl⟩
    · rename_i hne
      cases e
      refine op_isN pins s σ H x y v u Q I rx ry ⟨r2.nonE, ?_⟩
      rw [decide_eq_false (r1.notNon fun z => hne z)]
      exact q _ H μ Ext.refl rh Rp.bl
  · split at e
    · cases e
      exact op_is_bl pins s σ H x y v u Q I rx ry ⟨_, _, r1.blE, r2.blE, q _ H μ Ext.refl rh Rp.bl⟩
    · cases e
  · cases e
theorem o_isNot : OpR X (compareOp .IsNot) (RD X.K gIsNot) := fun pins s σ H x y v u Q I rx ry ⟨hp, μ, d1, d2, d, hp', rh, r1, r2, e, q⟩ => by
  unfold gIsNot at e
  split at e
  · split at e
    · cases e
      cases r1.nonE
      cases r2.nonE
      exact op_notN pins s σ H .non .non v u Q I rx ry ⟨rfl, q _ H μ Ext.refl rh Rp.bl⟩
    · rename_i hne
      cases e
      refine op_notN pins s σ H x y v u Q I rx ry ⟨r2.nonE, ?_⟩
      rw [decide_eq_false (r1.notNon fun z => hne z)]
      exact q _ H μ Ext.refl rh Rp.bl
  · split at e
    · cases e
      exact op_isnot_bl pins s σ H x y v u Q I rx ry ⟨_, _, r1.blE, r2.blE, q _ H μ Ext.refl rh Rp.bl⟩
    · cases e
  · cases e
def m2L (fa : AE) (fl : AA) (g : D → List D → Hd → Option (D × Hd)) : AE := fun ls hp => match fa ls hp with
  | some (a, hp1) => match fl ls hp1 with
    | some (ds, hp2) => g a ds hp2
    | none => none
  | none => none
def gInL (neg : Bool) (x : D) (ys : List D) (hp : Hd) : Option (D × Hd) := match inL hp x ys with
  | some b => some (.bl (if neg then !b else b), hp)
  | none => none
def RL (K : PySem.W.Frag) (g : D → List D → Hd → Option (D × Hd)) : R2 := fun x y H Q => ∃ hp μ d1 ds vs p d hp', RelH K H μ hp ∧ Rp K H μ d1 x ∧ y = .ref p ∧ p ∉ μ ∧ H p = some (.lst vs) ∧ Rps K H μ ds vs ∧ g d1 ds hp = some (d, hp') ∧
  ∀ v H' μ', Ext μ H μ' H' → RelH K H' μ' hp' → Rp K H' μ' d v → Q v H'
theorem tOpL_of {K : PySem.W.Frag} {g : D → List D → Hd → Option (D × Hd)} {σ : St} {H : Hp} {Q : VK} (h : tD K (m2L fa fl g) σ H Q) : tOp (RL K g) (tD K fa) (tL K fl) σ H Q := by
  obtain ⟨ls, hp, μ, d, hp', rl, rh, e, q⟩ := h
  unfold m2L at e
  split at e
  · rename_i a hp1 e1
    split at e
    · rename_i ds hp2 e2
      exact ⟨ls, hp, μ, a, hp1, rl, rh, e1, fun v1 H1 μ1 x1 rh1 r1 => ⟨ls, hp1, μ1, ds, hp2, rl.ext x1, rh1, e2, fun p vs H2 μ2 x2 rh2 h0 hn hl r2 =>
        ⟨hp2, μ2, a, ds, vs, p, d, hp', rh2, r1.ext x2, rfl, hn, hl, r2, e, fun v H3 μ3 x3 rh3 r3 => q v H3 μ3 ((x1.trans x2).trans x3) rh3 r3⟩⟩⟩
    · cases e
  · cases e
theorem o_inL (hu : X.A.units + 65 < cLine) : OpR X (compareOp .In) (RL X.K (gInL false)) := fun pins s σ H x y v u Q I rx ry ⟨hp, μ, d1, ds, vs, p, d, hp', rh, r1, ep, hn, hl, r2, e, q⟩ => by
  unfold gInL at e
  split at e
  · rename_i b eb
    cases e
    obtain ⟨pd, pds, e1, e2, s1, s2, rfl⟩ := inL_some eb
    subst ep
    exact op_inD hu pins s σ H x _ v u Q I rx ry ⟨pd, pds, pyF_dp rh _ _ _ _ e1 r1, .lst (.inl (.inl hl)) (dpAll_of rh _ _ _ e2 r2), s1, s2, q _ H μ Ext.refl rh Rp.bl⟩
  · cases e
theorem o_notInL (hu : X.A.units + 65 < cLine) : OpR X (compareOp .NotIn) (RL X.K (gInL true)) := fun pins s σ H x y v u Q I rx ry ⟨hp, μ, d1, ds, vs, p, d, hp', rh, r1, ep, hn, hl, r2, e, q⟩ => by
  unfold gInL at e
  split at e
  · rename_i b eb
    cases e
    obtain ⟨pd, pds, e1, e2, s1, s2, rfl⟩ := inL_some eb
    subst ep
    exact op_notInD hu pins s σ H x _ v u Q I rx ry ⟨pd, pds, pyF_dp rh _ _ _ _ e1 r1, .lst (.inl (.inl hl)) (dpAll_of rh _ _ _ e2 r2), s1, s2, q _ H μ Ext.refl rh Rp.bl⟩
  · cases e
theorem de_cmpL {op : CmpOp} {g : D → List D → Hd → Option (D × Hd)} (ho : OpR X (compareOp op) (RL X.K g)) (ha : DE X a fa) (hb : LE X b fl) (hm : behindInMarks op b = false) : DE X (.Compare a [op] [b] pos) (m2L fa fl g) :=
  PE.imp (pe_cmpR ho ha hb hm) fun _ _ _ h => tOpL_of h
def gEqL (neg : Bool) (x : D) (ys : List D) (hp : Hd) : Option (D × Hd) := match pyF hp 16 x, mapO (pyF hp 15) ys with
  | some p, some qs => if (SeqAt.shaped p && SeqAt.shaped (.list qs)) = true then some (.bl (if neg then !PyData.eqv p (.list qs) else PyData.eqv p (.list qs)), hp) else none
  | _, _ => none
theorem o_eqL (hu : X.A.units + 64 < cLine) : OpR X (compareOp .Eq) (RL X.K (gEqL false)) := fun pins s σ H x y v u Q I rx ry ⟨hp, μ, d1, ds, vs, p, d, hp', rh, r1, ep, hn, hl, r2, e, q⟩ => by
  unfold gEqL at e
  split at e
  · rename_i pp qs e1 e2
    split at e
    · rename_i hs
      rw [Bool.and_eq_true] at hs
      cases e
      subst ep
      exact op_eqD hu pins s σ H x _ v u Q I rx ry ⟨pp, _, pyF_dp rh _ _ _ _ e1 r1, .lst (.inl (.inl hl)) (dpAll_of rh _ _ _ e2 r2), hs.1, hs.2, q _ H μ Ext.refl rh Rp.bl⟩
    · cases e
  · cases e
theorem o_neL (hu : X.A.units + 64 < cLine) : OpR X (compareOp .NotEq) (RL X.K (gEqL true)) := fun pins s σ H x y v u Q I rx ry ⟨hp, μ, d1, ds, vs, p, d, hp', rh, r1, ep, hn, hl, r2, e, q⟩ => by
  unfold gEqL at e
  split at e
  · rename_i pp qs e1 e2
    split at e
    · rename_i hs
      rw [Bool.and_eq_true] at hs
      cases e
      subst ep
      exact op_neD hu pins s σ H x _ v u Q I rx ry ⟨pp, _, pyF_dp rh _ _ _ _ e1 r1, .lst (.inl (.inl hl)) (dpAll_of rh _ _ _ e2 r2), hs.1, hs.2, q _ H μ Ext.refl rh Rp.bl⟩
    · cases e
  · cases e

theorem de_glob {x : Str} {v : V} {u : Value} {d : D} (hg : Gl X x) (hm : X.mg x = some u) (r : RelV v u) (hr : ∀ H μ, Rp X.K H μ d v) (hd : (x == ("__debug__" : Str)) = false := by decide) : DE X (.Name x pos) (mC d) := de_c (pe_glob hg hm r hd) hr
theorem de_callB {x : Str} {p : Pos} {id : String} {g : List D → Hd → Option (D × Hd)} (hc : CallR X (.builtin id) (RDs X.K g)) (hg : Gl X x) (hm : X.mg x = none) (hv : bootBuiltins x = some (.builtin id)) (ha : DA X (e :: es) fr) (hn : x ≠ "__name__" := by decide)
    (hdb : (x == ("__debug__" : Str)) = false := by decide) (he : starEach (e :: es) X.env = (false, eval e X.env) :: starEach es X.env := by rfl) (hpl : (backTo pos (starEach es X.env)).any (·.1) = false := by rfl) : DE X (.Call (.Name x p) (e :: es) [] pos) (mAs fr g) :=
  PE.imp (pe_callB hc hg hm hv ha hn hdb he hpl) fun _ _ _ h => tCB_of h
theorem de_callTy {x : Str} {p : Pos} {T : String} {g : List D → Hd → Option (D × Hd)} (hc : CallR X (.type T) (RDs X.K g)) (hg : Gl X x) (hm : X.mg x = none) (hv : bootBuiltins x = some (.type T)) (ha : DA X (e :: es) fr) (hn : x ≠ "__name__" := by decide)
    (hdb : (x == ("__debug__" : Str)) = false := by decide) (he : starEach (e :: es) X.env = (false, eval e X.env) :: starEach es X.env := by rfl) (hpl : (backTo pos (starEach es X.env)).any (·.1) = false := by rfl) : DE X (.Call (.Name x p) (e :: es) [] pos) (mAs fr g) :=
  PE.imp (pe_callTy hc hg hm hv ha hn hdb he hpl) fun _ _ _ h => tCB_of h
def gLen : List D → Hd → Option (D × Hd)
  | [.tup ds], hp => some (.int ds.length, hp)
  | [.wt ds], hp => some (.int ds.length, hp)
  | [.scr ns], hp => some (.int ns.length, hp)
  | [.str z], hp => if z.length ≤ sizeLine then some (.int z.length, hp) else none
  | [.ref n], hp => match hp[n]? with
    | some (.lst ds) => some (.int ds.length, hp)
    | some (.dic ds) => some (.int ds.length, hp)
    | _ => none
  | _, _ => none
theorem Rps.one {K : PySem.W.Frag} {H : Hp} {μ : List Addr} {d : D} {xs : List V} (h : Rps K H μ [d] xs) : ∃ v, xs = [v] ∧ Rp K H μ d v := by
  rw [Rps] at h
  obtain ⟨v, r, rfl, h1, h2⟩ := h
  rw [Rps] at h2
  subst h2
  exact ⟨v, rfl, h1⟩
theorem Rps.two {K : PySem.W.Frag} {H : Hp} {μ : List Addr} {d e : D} {xs : List V} (h : Rps K H μ [d, e] xs) : ∃ v w, xs = [v, w] ∧ Rp K H μ d v ∧ Rp K H μ e w := by
  rw [Rps] at h
  obtain ⟨v, r, rfl, h1, h2⟩ := h
  obtain ⟨w, rfl, h3⟩ := h2.one
  exact ⟨v, w, rfl, h1, h3⟩
theorem c_len : CallR X (.builtin "len") (RDs X.K gLen) := fun pins s σ H xs us Q I r ⟨hp, μ, ds, d, hp', rh, rs, e, q⟩ => by
  unfold gLen at e
  split at e
  · cases e
    obtain ⟨v, rfl, r1⟩ := rs.one
    obtain ⟨a, vs, rfl, t, r2⟩ := r1.tupE
    rw [← r2.len] at q
    exact call_len_seq pins s σ H _ us Q I r ⟨a, vs, rfl, .inr t.sq, q _ H μ Ext.refl rh Rp.int⟩
  · cases e
    obtain ⟨v, rfl, r1⟩ := rs.one
    obtain ⟨a, vs, rfl, t, r2⟩ := r1.wtE
    rw [← r2.len] at q
    exact call_len_seq pins s σ H _ us Q I r ⟨a, vs, rfl, .inr t.sq, q _ H μ Ext.refl rh Rp.int⟩
  · rename_i ns
    cases e
    obtain ⟨v, rfl, r1⟩ := rs.one
    obtain ⟨a, rfl, t⟩ := r1.scrE
    have hl : ((ns.length : Nat) : Int) = ((ns.map V.int).length : Nat) := by rw [List.length_map]
    rw [hl] at q
    exact call_len_seq pins s σ H _ us Q I r ⟨a, _, rfl, .inl t.sq, q _ H μ Ext.refl rh Rp.int⟩
  · split at e
    · rename_i hz
      cases e
      obtain ⟨v, rfl, r1⟩ := rs.one
      cases r1.strE
      exact call_len_str pins s σ H _ us Q I r ⟨_, rfl, hz, q _ H μ Ext.refl rh Rp.int⟩
    · cases e
  · rename_i n
    obtain ⟨v, rfl, r1⟩ := rs.one
    obtain ⟨a, ea, rfl⟩ := r1.refE
    split at e
    · rename_i ds eh
      cases e
      obtain ⟨vs, ev, r2⟩ := rh.lst ea eh
      rw [← r2.len] at q
      exact call_len_seq pins s σ H _ us Q I r ⟨a, vs, rfl, .inl (.inl (.inl ev)), q _ H μ Ext.refl rh Rp.int⟩
    · rename_i kvs eh
      cases e
      obtain ⟨nd, ⟨vs, ev, r2⟩ | ⟨vs, ev, r2⟩⟩ := rh.dic ea eh
      · rw [← r2.len] at q
        obtain ⟨u, rfl, rx⟩ := vals1 r
        obtain rfl : u = .ref a := rx
        exact d_len I (.inl ev) fun t s' I2 => ⟨.int vs.length, H, I2, ⟨_, rfl⟩, q _ H μ Ext.refl rh Rp.int⟩
      · rw [← r2.len] at q
        exact call_len_dT pins s σ H _ us Q I r ⟨a, vs, rfl, ev, q _ H μ Ext.refl rh Rp.int⟩
    · cases e
  · cases e
def gInt : List D → Hd → Option (D × Hd)
  | [.int i], hp => some (.int i, hp)
  | [.bl b], hp => some (.int (if b then 1 else 0), hp)
  | _, _ => none
theorem c_int : CallR X (.type "int") (RDs X.K gInt) := fun pins s σ H xs us Q I r ⟨hp, μ, ds, d, hp', rh, rs, e, q⟩ => by
  unfold gInt at e
  split at e
  · cases e
    obtain ⟨v, rfl, r1⟩ := rs.one
    cases r1.intE
    exact call_int1 pins s σ H _ us Q I r (.inl ⟨_, rfl, q _ H μ Ext.refl rh Rp.int⟩)
  · cases e
    obtain ⟨v, rfl, r1⟩ := rs.one
    cases r1.blE
    exact call_int1 pins s σ H _ us Q I r (.inr ⟨_, rfl, q _ H μ Ext.refl rh Rp.int⟩)
  · cases e
def gMax2 : List D → Hd → Option (D × Hd)
  | [.int i, .int j], hp => some (.int (if j > i then j else i), hp)
  | _, _ => none
def gMin2 : List D → Hd → Option (D × Hd)
  | [.int i, .int j], hp => some (.int (if j < i then j else i), hp)
  | _, _ => none
theorem c_max2 (hc : X.calm = true) : CallR X (.builtin "max") (RDs X.K gMax2) := fun pins s σ H xs us Q I r ⟨hp, μ, ds, d, hp', rh, rs, e, q⟩ => by
  unfold gMax2 at e
  split at e
  · cases e
    obtain ⟨v, w, rfl, r1, r2⟩ := rs.two
    cases r1.intE
    cases r2.intE
    exact call_max2 hc pins s σ H _ us Q I r ⟨_, _, rfl, q _ H μ Ext.refl rh Rp.int⟩
  · cases e
theorem c_min2 (hc : X.calm = true) : CallR X (.builtin "min") (RDs X.K gMin2) := fun pins s σ H xs us Q I r ⟨hp, μ, ds, d, hp', rh, rs, e, q⟩ => by
  unfold gMin2 at e
  split at e
  · cases e
    obtain ⟨v, w, rfl, r1, r2⟩ := rs.two
    cases r1.intE
    cases r2.intE
    exact call_min2 hc pins s σ H _ us Q I r ⟨_, _, rfl, q _ H μ Ext.refl rh Rp.int⟩
  · cases e
def mL (fl : AA) (g : List D → Hd → Option (D × Hd)) : AE := fun ls hp => match fl ls hp with
  | some (ds, hp1) => g ds hp1
  | none => none
def RN (K : PySem.W.Frag) (g : List D → Hd → Option (D × Hd)) : List V → Hp → VK → Prop := fun xs H Q => ∃ hp μ ds vs p d hp', RelH K H μ hp ∧ xs = [.ref p] ∧ p ∉ μ ∧ H p = some (.lst vs) ∧ Rps K H μ ds vs ∧ g ds hp = some (d, hp') ∧
  ∀ v H' μ', Ext μ H μ' H' → RelH K H' μ' hp' → Rp K H' μ' d v → Q v H'
theorem tN_of {K : PySem.W.Frag} {g : List D → Hd → Option (D × Hd)} {σ : St} {H : Hp} {Q : VK} (h : tD K (mL fl g) σ H Q) : tCB (RN K g) (tCons (tL K fl) tNil) σ H Q := by
  obtain ⟨ls, hp, μ, d, hp', rl, rh, e, q⟩ := h
  unfold mL at e
  split at e
  · rename_i ds hp1 e1
    exact ⟨ls, hp, μ, ds, hp1, rl, rh, e1, fun p vs H1 μ1 x1 rh1 h0 hn hl r1 => ⟨hp1, μ1, ds, vs, p, d, hp', rh1, rfl, hn, hl, r1, e, fun v H2 μ2 x2 rh2 r2 => q v H2 μ2 (x1.trans x2) rh2 r2⟩⟩
  · cases e
theorem de_callBL {x : Str} {p : Pos} {id : String} {g : List D → Hd → Option (D × Hd)} (hc : CallR X (.builtin id) (RN X.K g)) (hg : Gl X x) (hm : X.mg x = none) (hv : bootBuiltins x = some (.builtin id)) (ha : LE X e fl) (hn : x ≠ "__name__" := by decide)
    (hdb : (x == ("__debug__" : Str)) = false := by decide) (he : starEach [e] X.env = (false, eval e X.env) :: starEach [] X.env := by rfl) : DE X (.Call (.Name x p) [e] [] pos) (mL fl g) :=
  PE.imp (pe_callB hc hg hm hv (pa_cons ha pa_nil he) hn hdb he rfl) fun _ _ _ h => tN_of h
theorem de_callTyL {x : Str} {p : Pos} {T : String} {g : List D → Hd → Option (D × Hd)} (hc : CallR X (.type T) (RN X.K g)) (hg : Gl X x) (hm : X.mg x = none) (hv : bootBuiltins x = some (.type T)) (ha : LE X e fl) (hn : x ≠ "__name__" := by decide)
    (hdb : (x == ("__debug__" : Str)) = false := by decide) (he : starEach [e] X.env = (false, eval e X.env) :: starEach [] X.env := by rfl) : DE X (.Call (.Name x p) [e] [] pos) (mL fl g) :=
  PE.imp (pe_callTy hc hg hm hv (pa_cons ha pa_nil he) hn hdb he rfl) fun _ _ _ h => tN_of h
def bls? : List D → Option (List Bool)
  | [] => some []
  | .bl b :: r => (bls? r).map (b :: ·)
  | _ :: _ => none
theorem Rps.bls {K : PySem.W.Frag} {H : Hp} {μ : List Addr} : ∀ {ds : List D} {bs : List Bool} {vs : List V}, bls? ds = some bs → Rps K H μ ds vs → vs = bs.map V.bl
  | [], bs, vs, e, h => by
    simp only [bls?] at e
    cases e
    rw [Rps] at h
    rw [h]
    rfl
  | d :: ds, bs, vs, e, h => by
    rw [Rps] at h
    obtain ⟨v, r, rfl, h1, h2⟩ := h
    cases d <;> simp only [bls?] at e <;> try (cases e; done)
    cases e2 : bls? ds with
    | none => rw [e2] at e; cases e
    | some b2 =>
      rw [e2] at e
      cases e
      rw [h1.blE, Rps.bls e2 h2]
      rfl
def gAll (ds : List D) (hp : Hd) : Option (D × Hd) := match bls? ds with
  | some bs => some (.bl (bs.all id), hp)
  | none => none
def gAny (ds : List D) (hp : Hd) : Option (D × Hd) := match bls? ds with
  | some bs => some (.bl (bs.any id), hp)
  | none => none
theorem n_all (hc : X.calm = true) : CallR X (.builtin "all") (RN X.K gAll) := fun pins s σ H xs us Q I r ⟨hp, μ, ds, vs, p, d, hp', rh, ex, hn, hl, rs, e, q⟩ => by
  unfold gAll at e
  split at e
  · rename_i bs eb
    cases e
    subst ex
    have := Rps.bls eb rs
    subst this
    exact cr_all hc pins s σ H _ us Q I r ⟨p, bs, rfl, .inl (.inl hl), q _ H μ Ext.refl rh Rp.bl⟩
  · cases e
theorem n_any (hc : X.calm = true) : CallR X (.builtin "any") (RN X.K gAny) := fun pins s σ H xs us Q I r ⟨hp, μ, ds, vs, p, d, hp', rh, ex, hn, hl, rs, e, q⟩ => by
  unfold gAny at e
  split at e
  · rename_i bs eb
    cases e
    subst ex
    have := Rps.bls eb rs
    subst this
    exact cr_any hc pins s σ H _ us Q I r ⟨p, bs, rfl, .inl (.inl hl), q _ H μ Ext.refl rh Rp.bl⟩
  · cases e
def gTup (ds : List D) (hp : Hd) : Option (D × Hd) := some (.tup ds, hp)
theorem n_tuple : CallR X (.type "tuple") (RN X.K gTup) := fun pins s σ H xs us Q I r ⟨hp, μ, ds, vs, p, d, hp', rh, ex, hn, hl, rs, e, q⟩ => by
  unfold gTup at e
  cases e
  subst ex
  refine call_tuple_of pins s σ H _ us Q I r ⟨p, vs, rfl, .inl ⟨.inl (.inl hl), fun l h0 => ?_⟩⟩
  have x2 := Ext.laid rh (o := .tup vs) h0
  exact q _ _ μ x2 (rh.laid h0) (Rp.tup upd_same (rs.ext x2))
def tyN : D → Hd → Option String
  | .non, _ => some "NoneType"
  | .bl _, _ => some "bool"
  | .int _, _ => some "int"
  | .str _, _ => some "str"
  | .tup _, _ => some "tuple"
  | .wt _, _ => some "tuple"
  | .scr _, _ => none
  | .ref n, hp => match hp[n]? with
    | some (.lst _) => some "list"
    | some (.dic _) => some "dict"
    | _ => none
def gIsi (T : String) : List D → Hd → Option (D × Hd)
  | [x], hp => match tyN x hp with
    | some t => match kitB t T with
      | some b => some (.bl b, hp)
      | none => none
    | none => none
  | _, _ => none
def mIsi (T : String) (fa : AE) : AE := fun ls hp => match fa ls hp with
  | some (x, hp1) => gIsi T [x] hp1
  | none => none
theorem de_isi {T : String} {x t : Str} {p p2 : Pos} (hg : Gl X x) (hm : X.mg x = none) (hv : bootBuiltins x = some (.builtin "isinstance")) (ha : DE X e fa) (hgt : Gl X t) (hmt : X.mg t = none) (hvt : bootBuiltins t = some (.type T))
    (hn : x ≠ "__name__" := by decide) (hdb : (x == ("__debug__" : Str)) = false := by decide) (hnt : t ≠ "__name__" := by decide) (hdt : (t == ("__debug__" : Str)) = false := by decide)
    (he : starEach [e, .Name t p2] X.env = (false, eval e X.env) :: starEach [.Name t p2] X.env := by rfl) (he2 : starEach [.Name t p2] X.env = (false, eval (.Name t p2) X.env) :: starEach [] X.env := by rfl)
    (hpl : (backTo pos (starEach [.Name t p2] X.env)).any (·.1) = false := by rfl) : DE X (.Call (.Name x p) [e, .Name t p2] [] pos) (mIsi T fa) :=
  PE.imp (pe_callB call_isi hg hm hv (pa_cons ha (pa_cons (pe_bltn (v := .ty T) hgt hmt hvt rfl hnt hdt) pa_nil he2) he) hn hdb he hpl) fun σ H Q ⟨ls, hp, μ, d, hp', rl, rh, e, q⟩ => by
    unfold mIsi at e
    split at e
    · rename_i x hp1 e1
      unfold gIsi at e
      dsimp only at e
      split at e
      · rename_i t et
        split at e
        · rename_i b eb
          cases e
          refine ⟨ls, hp, μ, x, hp', rl, rh, e1, fun v H1 μ1 x1 rh1 r1 => ?_⟩
          have ty : TyX X.K H1 v (.type t) := by
            cases x <;> simp only [tyN] at et <;> try (cases et; done)
            · cases et; cases r1.nonE; exact .base .non
            · cases et; cases r1.blE; exact .base (.bl _)
            · cases et; cases r1.intE; exact .base (.int _)
            · cases et; cases r1.strE; exact .base (.str _)
            · cases et
              obtain ⟨a, vs, rfl, t, _⟩ := r1.tupE
              exact .base (.tup t)
            · obtain ⟨a, ea, rfl⟩ := r1.refE
              split at et
              · rename_i xs eh
                cases et
                obtain ⟨vs, ev, _⟩ := rh1.lst ea eh
                exact .base (.lst ev)
              · rename_i xs eh
                cases et
                obtain ⟨nd, ⟨vs, ev, r2⟩ | ⟨vs, ev, r2⟩⟩ := rh1.dic ea eh
                · exact .base (.dK ev)
                · exact .base (.dT ev)
              · cases et
            · cases et
              obtain ⟨a, vs, rfl, ⟨o, its, n, h1, h2, _⟩, _⟩ := r1.wtE
              exact .kTuple h1 h2
          exact ⟨v, .ty T, .type t, .type T, b, rfl, .ty T, ty, kit_ty eb, q _ H1 μ1 x1 rh1 Rp.bl⟩
        · cases e
      · cases e
    · cases e
def isL : D → Hd → Bool
  | .ref n, hp => match hp[n]? with
    | some (.lst _) => true
    | _ => false
  | _, _ => false
theorem isL_some {d : D} {hp : Hd} (h : isL d hp = true) : ∃ n xs, d = .ref n ∧ hp[n]? = some (.lst xs) := by
  unfold isL at h
  split at h
  · rename_i n
    split at h
    · rename_i xs e
      exact ⟨n, _, rfl, e⟩
    · cases h
  · cases h
def mMet (ck : D → Hd → Bool) (fo : AE) (fr : AA) (g : D → List D → Hd → Option (D × Hd)) : AE := fun ls hp => match fo ls hp with
  | some (x, hp1) => if ck x hp1 = true then match fr ls hp1 with
    | some (ds, hp2) => g x ds hp2
    | none => none else none
  | none => none
def RM (K : PySem.W.Frag) (g : D → List D → Hd → Option (D × Hd)) : V → List V → Hp → VK → Prop := fun x xs H Q => ∃ hp μ dx ds d hp', RelH K H μ hp ∧ Rp K H μ dx x ∧ Rps K H μ ds xs ∧ g dx ds hp = some (d, hp') ∧
  ∀ v H' μ', Ext μ H μ' H' → RelH K H' μ' hp' → Rp K H' μ' d v → Q v H'
theorem isL_ty {K : PySem.W.Frag} {H : Hp} {μ : List Addr} {hp : Hd} {d : D} {v : V} (rh : RelH K H μ hp) (r : Rp K H μ d v) (h : isL d hp = true) : tyV K "list" v H := by
  obtain ⟨n, xs, rfl, e⟩ := isL_some h
  obtain ⟨a, ea, rfl⟩ := r.refE
  obtain ⟨vs, ev, _⟩ := rh.lst ea e
  exact .inl ⟨rfl, vs, .inl (.inl ev)⟩
theorem de_lm {name : Str} {id : String} {o : Expr} {fo : AE} {apos cpos : Pos} {g : D → List D → Hd → Option (D × Hd)} (slot : Slot "list" name id) (hty : typeOf (.builtin id) = pure (.type "method_descriptor")) (hm : MtR X id (RM X.K g)) (ho : DE X o fo) (ha : DA X (e :: es) fr)
    (hbase : attributeBase o name X.env (eval o X.env) = eval o X.env := by rfl)
    (hfew : ((backTo cpos (starEach (e :: es) X.env)).all (fun x => !x.1) && (backToKw cpos (keywordEach [] X.env)).all (fun x => x.1.isSome)
      && decide ((e :: es).length + ([] : List Keyword).length + (if ([] : List Keyword).isEmpty then 0 else 1) < 30)) = true := by rfl)
    (hline : (apos.endLine == cpos.line) = true := by rfl) (hs : starEach (e :: es) X.env = (false, eval e X.env) :: starEach es X.env := by rfl) (hplain : (backTo cpos (starEach es X.env)).any (·.1) = false := by rfl) :
    DE X (.Call (.Attribute o name apos) (e :: es) [] cpos) (mMet isL fo fr g) :=
  PE.imp (pe_bm PySem.F.plainAttrs_list slot hty hm ho ha hbase hfew hline hs hplain) fun σ H Q ⟨ls, hp, μ, d, hp', rl, rh, e, q⟩ => by
    unfold mMet at e
    split at e
    · rename_i x hp1 e1
      split at e
      · rename_i hck
        split at e
        · rename_i ds hp2 e2
          exact ⟨ls, hp, μ, x, hp1, rl, rh, e1, fun v1 H1 μ1 x1 rh1 r1 => ⟨isL_ty rh1 r1 hck, ls, hp1, μ1, ds, hp2, rl.ext x1, rh1, e2, fun vs H2 μ2 x2 rh2 r2 =>
            ⟨hp2, μ2, x, ds, d, hp', rh2, r1.ext x2, r2, e, fun v H3 μ3 x3 rh3 r3 => q v H3 μ3 ((x1.trans x2).trans x3) rh3 r3⟩⟩⟩
        · cases e
      · cases e
    · cases e
theorem de_lm0 {name : Str} {id : String} {o : Expr} {fo : AE} {apos cpos : Pos} {g : D → List D → Hd → Option (D × Hd)} (slot : Slot "list" name id) (hty : typeOf (.builtin id) = pure (.type "method_descriptor")) (hm : MtR X id (RM X.K g)) (ho : DE X o fo)
    (hbase : attributeBase o name X.env (eval o X.env) = eval o X.env := by rfl) (hline : (apos.endLine == cpos.line) = true := by rfl) : DE X (.Call (.Attribute o name apos) [] [] cpos) (mMet isL fo mNil g) :=
  PE.imp (pe_bm0 PySem.F.plainAttrs_list slot hty hm ho hbase hline) fun σ H Q ⟨ls, hp, μ, d, hp', rl, rh, e, q⟩ => by
    simp only [mMet, mNil] at e
    split at e
    · rename_i x hp1 e1
      split at e
      · rename_i hck
        exact ⟨ls, hp, μ, x, hp1, rl, rh, e1, fun v1 H1 μ1 x1 rh1 r1 => ⟨isL_ty rh1 r1 hck, ⟨hp1, μ1, x, [], d, hp', rh1, r1, Rps.nil, e, fun v H3 μ3 x3 rh3 r3 => q v H3 μ3 (x1.trans x3) rh3 r3⟩⟩⟩
      · cases e
    · cases e
def onL (x : D) (hp : Hd) (g : List D → Option (D × List D)) : Option (D × Hd) := match x with
  | .ref n => match hp[n]? with
    | some (.lst xs) => match g xs with
      | some (d, ys) => some (d, hp.set n (.lst ys))
      | none => none
    | _ => none
  | _ => none
theorem onL_some {x : D} {hp hp' : Hd} {g : List D → Option (D × List D)} {d : D} (h : onL x hp g = some (d, hp')) : ∃ n xs ys, x = .ref n ∧ hp[n]? = some (.lst xs) ∧ g xs = some (d, ys) ∧ hp' = hp.set n (.lst ys) := by
  unfold onL at h
  split at h
  · rename_i n
    split at h
    · rename_i xs e1
      split at h
      · rename_i d' ys e2
        cases h
        exact ⟨n, xs, ys, rfl, e1, e2, rfl⟩
      · cases h
    · cases h
  · cases h
def gAppend (x : D) (ds : List D) (hp : Hd) : Option (D × Hd) := match ds with
  | [d] => onL x hp fun xs => if xs.length < sizeLine then some (.non, xs ++ [d]) else none
  | _ => none
theorem t_append : MtR X "list.append" (RM X.K gAppend) := fun pins s σ H x xs v us Q I rx rxs ⟨hp, μ, dx, ds, d, hp', rh, r1, rs, e, q⟩ => by
  unfold gAppend at e
  split at e
  · rename_i y
    obtain ⟨n, ws, ys, rfl, e1, e2, rfl⟩ := onL_some e
    split at e2
    · rename_i hl
      cases e2
      obtain ⟨w, rfl, r2⟩ := rs.one
      obtain ⟨a, ea, rfl⟩ := r1.refE
      obtain ⟨vs, ev, r3⟩ := rh.lst ea e1
      have x0 : Mon μ H μ (upd H a (.lst (vs ++ [w]))) := Mon.loose ev
      obtain ⟨r4, x1⟩ := rh.put (o := .lst (ws ++ [y])) (u := .lst (vs ++ [w])) ea ⟨_, rfl, (r3.append (by rw [Rps]; exact ⟨w, [], rfl, r2, Rps.nil⟩)).mon x0⟩
      exact mt_append pins s σ H _ _ v us Q I rx rxs ⟨a, vs, w, rfl, rfl, ev, by rw [r3.len]; exact hl, q _ _ μ x1 r4 Rp.non⟩
    · cases e2
  · cases e
def gPop (x : D) (ds : List D) (hp : Hd) : Option (D × Hd) := match ds with
  | [] => onL x hp fun xs => match xs[xs.length - 1]? with
    | some y => some (y, xs.dropLast)
    | none => none
  | _ => none
theorem Rps.take {K : PySem.W.Frag} {H : Hp} {μ : List Addr} : ∀ {ds : List D} {vs : List V} (n : Nat), Rps K H μ ds vs → Rps K H μ (ds.take n) (vs.take n)
  | _, _, 0, _ => by simp [Rps.nil]
  | [], _, n + 1, h => by
    rw [Rps] at h
    subst h
    exact Rps.nil
  | d :: ds, _, n + 1, h => by
    rw [Rps] at h
    obtain ⟨v, r, rfl, h1, h2⟩ := h
    rw [List.take_succ_cons, List.take_succ_cons, Rps]
    exact ⟨v, _, rfl, h1, Rps.take n h2⟩
theorem Rps.drop {K : PySem.W.Frag} {H : Hp} {μ : List Addr} : ∀ {ds : List D} {vs : List V} (n : Nat), Rps K H μ ds vs → Rps K H μ (ds.drop n) (vs.drop n)
  | _, _, 0, h => by simpa using h
  | [], _, n + 1, h => by
    rw [Rps] at h
    subst h
    exact Rps.nil
  | d :: ds, _, n + 1, h => by
    rw [Rps] at h
    obtain ⟨v, r, rfl, h1, h2⟩ := h
    exact Rps.drop n h2
theorem Rps.dropLast {K : PySem.W.Frag} {H : Hp} {μ : List Addr} {ds : List D} {vs : List V} (h : Rps K H μ ds vs) : Rps K H μ ds.dropLast vs.dropLast := by
  rw [List.dropLast_eq_take, List.dropLast_eq_take, h.len]
  exact h.take _
theorem t_pop : MtR X "list.pop" (RM X.K gPop) := fun pins s σ H x xs v us Q I rx rxs ⟨hp, μ, dx, ds, d, hp', rh, r1, rs, e, q⟩ => by
  unfold gPop at e
  split at e
  · obtain ⟨n, ws, ys, rfl, e1, e2, rfl⟩ := onL_some e
    split at e2
    · rename_i y ey
      cases e2
      rw [Rps] at rs
      subst rs
      obtain ⟨a, ea, rfl⟩ := r1.refE
      obtain ⟨vs, ev, r3⟩ := rh.lst ea e1
      obtain ⟨w, ew, rw'⟩ := r3.get ey
      have x0 : Mon μ H μ (upd H a (.lst vs.dropLast)) := Mon.loose ev
      obtain ⟨r4, x1⟩ := rh.put (o := .lst ws.dropLast) (u := .lst vs.dropLast) ea ⟨_, rfl, r3.dropLast.mon x0⟩
      exact mt_pop pins s σ H _ _ v us Q I rx rxs ⟨a, vs, w, rfl, rfl, ev, by rw [r3.len]; exact ew, q _ _ μ x1 r4 (rw'.mon x0)⟩
    · cases e2
  · cases e
def mExt (fo : AE) (fl : AA) : AE := fun ls hp => match fo ls hp with
  | some (x, hp1) => if isL x hp1 = true then match fl ls hp1 with
    | some (ds, hp2) => onL x hp2 fun xs => if xs.length + ds.length ≤ sizeLine then some (.non, xs ++ ds) else none
    | none => none else none
  | none => none
theorem de_extend {o : Expr} {fo : AE} {apos cpos : Pos} (ho : DE X o fo) (ha : LE X e fl)
    (hbase : attributeBase o "extend" X.env (eval o X.env) = eval o X.env := by rfl)
    (hfew : ((backTo cpos (starEach [e] X.env)).all (fun x => !x.1) && (backToKw cpos (keywordEach [] X.env)).all (fun x => x.1.isSome)
      && decide (([e] : List Expr).length + ([] : List Keyword).length + (if ([] : List Keyword).isEmpty then 0 else 1) < 30)) = true := by rfl)
    (hline : (apos.endLine == cpos.line) = true := by rfl) (hs : starEach [e] X.env = (false, eval e X.env) :: starEach [] X.env := by rfl) :
    DE X (.Call (.Attribute o "extend" apos) [e] [] cpos) (mExt fo fl) :=
  PE.imp (pe_bm PySem.F.plainAttrs_list PySem.F.slot_list_extend PySem.F.type_list_extend mt_extend ho (pa_cons ha pa_nil hs) hbase hfew hline hs rfl) fun σ H Q ⟨ls, hp, μ, d, hp', rl, rh, e, q⟩ => by
    unfold mExt at e
    split at e
    · rename_i x hp1 e1
      split at e
      · rename_i hck
        split at e
        · rename_i ds hp2 e2
          obtain ⟨n, ws, ys, rfl, e3, e4, rfl⟩ := onL_some e
          split at e4
          · rename_i hl
            cases e4
            refine ⟨ls, hp, μ, _, hp1, rl, rh, e1, fun v1 H1 μ1 x1 rh1 r1 => ⟨isL_ty rh1 r1 hck, ls, hp1, μ1, ds, hp2, rl.ext x1, rh1, e2, fun p vs H2 μ2 x2 rh2 h0 hn hl2 r2 => ?_⟩⟩
            obtain ⟨a, ea, rfl⟩ := (r1.ext x2).refE
            obtain ⟨vs2, ev, r3⟩ := rh2.lst ea e3
            have x0 : Mon μ2 H2 μ2 (upd H2 a (.lst (vs2 ++ vs))) := Mon.loose ev
            obtain ⟨r4, x4⟩ := rh2.put (o := .lst (ws ++ ds)) (u := .lst (vs2 ++ vs)) ea ⟨_, rfl, (r3.append r2).mon x0⟩
            exact ⟨a, p, vs2, vs, rfl, rfl, ev, hl2, by rw [r3.len, r2.len]; exact hl, q _ _ μ2 ((x1.trans x2).trans x4) r4 Rp.non⟩
          · cases e4
        · cases e
      · cases e
    · cases e
end
end Ve
namespace Ve
open PySem PySem.Spec L2

mutual
def D.lt (n : Nat) : D → Bool
  | .ref k => decide (k < n)
  | .tup ds => D.lts n ds
  | .wt ds => D.lts n ds
  | _ => true
def D.lts (n : Nat) : List D → Bool
  | [] => true
  | d :: ds => D.lt n d && D.lts n ds
end
mutual
def D.ren (ρ : List Nat) : D → D
  | .ref k => .ref (ρ.getD k 0)
  | .tup ds => .tup (D.rens ρ ds)
  | .wt ds => .wt (D.rens ρ ds)
  | .non => .non
  | .bl b => .bl b
  | .int i => .int i
  | .str x => .str x
  | .scr ns => .scr ns
def D.rens (ρ : List Nat) : List D → List D
  | [] => []
  | d :: ds => D.ren ρ d :: D.rens ρ ds
end
def kvLt (n : Nat) : List (D × D) → Bool
  | [] => true
  | p :: r => D.lt n p.1 && D.lt n p.2 && kvLt n r
def kvRen (ρ : List Nat) : List (D × D) → List (D × D)
  | [] => []
  | p :: r => (p.1, D.ren ρ p.2) :: kvRen ρ r
def O.lt (n : Nat) : O → Bool
  | .lst xs => D.lts n xs
  | .dic kvs => kvLt n kvs
  | .dicL kvs => kvLt n kvs
def O.ren (ρ : List Nat) : O → O
  | .lst xs => .lst (D.rens ρ xs)
  | .dic kvs => .dic (kvRen ρ kvs)
  | .dicL kvs => .dicL (kvRen ρ kvs)
def Sub (n : Nat) (d : D) (hp' : Hd) (r : Option (D × Hd)) : Prop :=
  ∃ d2 hp2, r = some (d2, hp2) ∧ ∃ ρ : List Nat, ρ.length = hp'.length ∧ ρ.Nodup ∧ n ≤ hp'.length ∧ (∀ i, i < n → ρ[i]? = some i) ∧ D.lt hp'.length d = true ∧ d2 = D.ren ρ d ∧
    ∀ (i : Nat) (o : O), hp'[i]? = some o → O.lt hp'.length o = true ∧ ∃ j : Nat, ρ[i]? = some j ∧ hp2[j]? = some (O.ren ρ o)
def Con (c m : List D → Hd → Option (D × Hd)) : Prop := ∀ ds hp d hp', (∀ (i : Nat) (o : O), hp[i]? = some o → O.lt hp.length o = true) → D.lts hp.length ds = true → c ds hp = some (d, hp') → Sub hp.length d hp' (m ds hp)

section
variable {K : PySem.W.Frag} {H : Hp} {μ μ2 : List Addr} {hp hp2 : Hd}
mutual
theorem Rp.below {n : Nat} (hn : μ.length = n) : ∀ {d : D} {v : V}, Rp K H μ d v → D.lt n d = true
  | .non, _, _ => rfl
  | .bl _, _, _ => rfl
  | .int _, _, _ => rfl
  | .str _, _, _ => rfl
  | .scr _, _, _ => rfl
  | .ref k, _, h => by
    obtain ⟨a, e, _⟩ := h.refE
    have := (List.getElem?_eq_some_iff.mp e).1
    simp only [D.lt, decide_eq_true_eq]
    omega
  | .tup ds, _, h => by
    obtain ⟨a, vs, _, _, r⟩ := h.tupE
    rw [D.lt]
    exact Rps.below hn r
  | .wt ds, _, h => by
    obtain ⟨a, vs, _, _, r⟩ := h.wtE
    rw [D.lt]
    exact Rps.below hn r
theorem Rps.below {n : Nat} (hn : μ.length = n) : ∀ {ds : List D} {vs : List V}, Rps K H μ ds vs → D.lts n ds = true
  | [], _, _ => by rw [D.lts]
  | d :: ds, _, h => by
    rw [Rps] at h
    obtain ⟨v, r, _, h1, h2⟩ := h
    rw [D.lts, Rp.below hn h1, Rps.below hn h2]
    rfl
end
theorem toKey_lt {n : Nat} {d : D} {k : Key} (h : toKey d = some k) : D.lt n d = true := by
  cases d <;> simp [toKey] at h <;> rfl
theorem toKeys_lt {n : Nat} : ∀ {ds : List D} {k : List Key}, toKeys ds = some k → D.lts n ds = true
  | [], _, _ => by rw [D.lts]
  | d :: ds, k, h => by
    simp only [toKeys] at h
    split at h
    · rename_i k1 ks e1 e2
      rw [D.lts, toKey_lt e1, toKeys_lt e2]
      rfl
    · cases h
theorem RpK.below {n : Nat} (hn : μ.length = n) : ∀ {kvs : List (D × D)} {vs : List (Key × V)}, RpK K H μ kvs vs → kvLt n kvs = true
  | [], _, _ => rfl
  | p :: r, _, h => by
    rw [RpK] at h
    obtain ⟨k, v, rs, _, h1, h2, h3⟩ := h
    simp only [kvLt, toKey_lt h1, Rp.below hn h2, RpK.below hn h3, Bool.and_self]
theorem RpT.below {n : Nat} (hn : μ.length = n) : ∀ {kvs : List (D × D)} {vs : List (List Key × V)}, RpT K H μ kvs vs → kvLt n kvs = true
  | [], _, _ => rfl
  | p :: r, _, h => by
    rw [RpT] at h
    obtain ⟨ds, k, v, rs, e0, _, h1, h2, h3⟩ := h
    simp only [kvLt, e0, D.lt, toKeys_lt h1, Rp.below hn h2, RpT.below hn h3, Bool.and_self]
theorem RelH.below (r : RelH K H μ hp) (i : Nat) (o : O) (h : hp[i]? = some o) : O.lt hp.length o = true := by
  obtain ⟨a, ea, q⟩ := r.at_ h
  cases o with
  | lst xs => obtain ⟨vs, _, q⟩ := q; exact q.below r.len
  | dic kvs =>
    obtain ⟨_, ⟨vs, _, q⟩ | ⟨vs, _, q⟩⟩ := q
    · exact q.below r.len
    · exact q.below r.len
  | dicL kvs =>
    obtain ⟨_, ⟨_, vs, _, q⟩ | ⟨_, vs, _, q⟩⟩ := q
    · exact q.below r.len
    · exact q.below r.len
def pick (μ2 : List Addr) (ρ : List Nat) : List Addr := ρ.map fun j => μ2.getD j 0
mutual
theorem Rp.pick {ρ : List Nat} (hρ : ∀ j ∈ ρ, j < μ2.length) : ∀ {d : D} {v : V}, D.lt ρ.length d = true → Rp K H μ2 (D.ren ρ d) v → Rp K H (Ve.pick μ2 ρ) d v
  | .non, _, _, h => by rw [D.ren] at h; exact h.nonE ▸ Rp.non
  | .bl _, _, _, h => by rw [D.ren] at h; exact h.blE ▸ Rp.bl
  | .int _, _, _, h => by rw [D.ren] at h; exact h.intE ▸ Rp.int
  | .str _, _, _, h => by rw [D.ren] at h; exact h.strE ▸ Rp.str
  | .scr ns, _, _, h => by
    rw [D.ren] at h
    obtain ⟨a, rfl, s⟩ := h.scrE
    rw [Rp]
    exact ⟨a, rfl, s⟩
  | .ref k, v, hl, h => by
    rw [D.ren] at h
    obtain ⟨a, e, rfl⟩ := h.refE
    have hk : k < ρ.length := by simpa [D.lt] using hl
    rw [Rp]
    refine ⟨a, ?_, rfl⟩
    unfold Ve.pick
    rw [List.getElem?_map, List.getElem?_eq_getElem hk]
    have e2 : ρ.getD k 0 = ρ[k] := by simp [List.getD, hk]
    rw [e2] at e
    show some (μ2.getD ρ[k] 0) = some a
    rw [List.getD, e]
    rfl
  | .tup ds, _, hl, h => by
    rw [D.ren] at h
    obtain ⟨a, vs, rfl, t, r⟩ := h.tupE
    rw [D.lt] at hl
    rw [Rp]
    exact ⟨a, vs, rfl, t, Rps.pick hρ hl r⟩
  | .wt ds, _, hl, h => by
    rw [D.ren] at h
    obtain ⟨a, vs, rfl, t, r⟩ := h.wtE
    rw [D.lt] at hl
    rw [Rp]
    exact ⟨a, vs, rfl, t, Rps.pick hρ hl r⟩
theorem Rps.pick {ρ : List Nat} (hρ : ∀ j ∈ ρ, j < μ2.length) : ∀ {ds : List D} {vs : List V}, D.lts ρ.length ds = true → Rps K H μ2 (D.rens ρ ds) vs → Rps K H (Ve.pick μ2 ρ) ds vs
  | [], _, _, h => by
    rw [D.rens, Rps] at h
    rw [Rps]
    exact h
  | d :: ds, _, hl, h => by
    rw [D.lts, Bool.and_eq_true] at hl
    rw [D.rens, Rps] at h
    obtain ⟨v, r, rfl, h1, h2⟩ := h
    rw [Rps]
    exact ⟨v, r, rfl, Rp.pick hρ hl.1 h1, Rps.pick hρ hl.2 h2⟩
end
theorem RpK.pick {ρ : List Nat} (hρ : ∀ j ∈ ρ, j < μ2.length) : ∀ {ds : List (D × D)} {vs : List (Key × V)}, kvLt ρ.length ds = true → RpK K H μ2 (kvRen ρ ds) vs → RpK K H (Ve.pick μ2 ρ) ds vs
  | [], _, _, h => by
    rw [kvRen, RpK] at h
    rw [RpK]
    exact h
  | d :: ds, _, hl, h => by
    rw [kvLt, Bool.and_eq_true, Bool.and_eq_true] at hl
    rw [kvRen, RpK] at h
    obtain ⟨k, v, r, rfl, h0, h1, h2⟩ := h
    rw [RpK]
    exact ⟨k, v, r, rfl, h0, Rp.pick hρ hl.1.2 h1, RpK.pick hρ hl.2 h2⟩
theorem RpT.pick {ρ : List Nat} (hρ : ∀ j ∈ ρ, j < μ2.length) : ∀ {ds : List (D × D)} {vs : List (List Key × V)}, kvLt ρ.length ds = true → RpT K H μ2 (kvRen ρ ds) vs → RpT K H (Ve.pick μ2 ρ) ds vs
  | [], _, _, h => by
    rw [kvRen, RpT] at h
    rw [RpT]
    exact h
  | d :: ds, _, hl, h => by
    rw [kvLt, Bool.and_eq_true, Bool.and_eq_true] at hl
    rw [kvRen, RpT] at h
    obtain ⟨ks, k, v, r, e0, rfl, h0, h1, h2⟩ := h
    rw [RpT]
    exact ⟨ks, k, v, r, e0, rfl, h0, Rp.pick hρ hl.1.2 h1, RpT.pick hρ hl.2 h2⟩
theorem KNd.ren {ρ : List Nat} : ∀ {kvs : List (D × D)}, KNd (kvRen ρ kvs) → KNd kvs
  | [], _ => True.intro
  | p :: r, h => by
    refine ⟨fun q hq => ?_, KNd.ren h.2⟩
    have hm : ∀ {l : List (D × D)}, q ∈ l → (q.1, D.ren ρ q.2) ∈ kvRen ρ l := by
      intro l
      induction l with
      | nil => intro h; cases h
      | cons x xs ih =>
        intro h
        rcases List.mem_cons.mp h with z | z
        · rw [z]; exact List.mem_cons_self
        · exact List.mem_cons_of_mem _ (ih z)
    exact h.1 (q.1, D.ren ρ q.2) (hm hq)
theorem Ro.pick {ρ : List Nat} (hρ : ∀ j ∈ ρ, j < μ2.length) {o : O} {h : Option HO} (hl : O.lt ρ.length o = true) (r : Ro K H μ2 (O.ren ρ o) h) : Ro K H (Ve.pick μ2 ρ) o h := by
  cases o with
  | lst xs => obtain ⟨vs, e, q⟩ := r; exact ⟨vs, e, q.pick hρ hl⟩
  | dic kvs =>
    obtain ⟨nd, ⟨vs, e, q⟩ | ⟨vs, e, q⟩⟩ := r
    · exact ⟨KNd.ren nd, .inl ⟨vs, e, q.pick hρ hl⟩⟩
    · exact ⟨KNd.ren nd, .inr ⟨vs, e, q.pick hρ hl⟩⟩
  | dicL kvs =>
    obtain ⟨nd, ⟨o, vs, e, q⟩ | ⟨o, vs, e, q⟩⟩ := r
    · exact ⟨KNd.ren nd, .inl ⟨o, vs, e, q.pick hρ hl⟩⟩
    · exact ⟨KNd.ren nd, .inr ⟨o, vs, e, q.pick hρ hl⟩⟩
theorem sub_sound {H' : Hp} {d : D} {hp' : Hd} {r : Option (D × Hd)} (rh : RelH K H μ hp) (s : Sub hp.length d hp' r) : ∃ d2 hp2, r = some (d2, hp2) ∧ ∀ v H' μ2, Ext μ H μ2 H' → RelH K H' μ2 hp2 → Rp K H' μ2 d2 v →
    ∃ μ', Ext μ H μ' H' ∧ RelH K H' μ' hp' ∧ Rp K H' μ' d v := by
  obtain ⟨d2, hp2, rfl, ρ, hl, nd, hn, hid, hd, rfl, ho⟩ := s
  refine ⟨_, hp2, rfl, fun v H' μ2 x rh2 rv => ?_⟩
  have hρ : ∀ j ∈ ρ, j < μ2.length := fun j hj => by
    obtain ⟨i, hi, e⟩ := List.mem_iff_getElem.mp hj
    have hi' : i < hp'.length := by rw [← hl]; exact hi
    obtain ⟨_, j2, e2, e3⟩ := ho i hp'[i] (List.getElem?_eq_getElem hi')
    rw [List.getElem?_eq_getElem hi, e] at e2
    cases e2
    rw [rh2.len]
    exact (List.getElem?_eq_some_iff.mp e3).1
  have hpk : ∀ (i : Nat) j, ρ[i]? = some j → (pick μ2 ρ)[i]? = μ2[j]? := fun i j e => by
    unfold pick
    rw [List.getElem?_map, e]
    have hj : j < μ2.length := hρ j (List.mem_of_getElem? e)
    show some (μ2.getD j 0) = _
    rw [List.getElem?_eq_getElem hj]
    simp [List.getD, hj]
  have sub : ∀ a ∈ pick μ2 ρ, a ∈ μ2 := fun a ha => by
    obtain ⟨j, hj, e⟩ := List.mem_map.mp ha
    have := hρ j hj
    rw [← e]
    simp [List.getD, this]
  have rl : RelH K H' (pick μ2 ρ) hp' := by
    refine ⟨by simp [pick, hl], ?_, fun i o a e1 e2 => ?_⟩
    · refine List.pairwise_iff_getElem.mpr fun i j hi hj hij => ?_
      have hi' : i < ρ.length := by simpa [pick] using hi
      have hj' : j < ρ.length := by simpa [pick] using hj
      have a1 := hρ _ (List.getElem_mem hi')
      have a2 := hρ _ (List.getElem_mem hj')
      have g1 : (pick μ2 ρ)[i] = μ2[ρ[i]] := by simp [pick, List.getD, a1]
      have g2 : (pick μ2 ρ)[j] = μ2[ρ[j]] := by simp [pick, List.getD, a2]
      rw [g1, g2]
      intro z
      have := (List.getElem_inj rh2.nd).mp z
      have := (List.getElem_inj nd).mp this
      omega
    · obtain ⟨hlt, j, e3, e4⟩ := ho i o e1
      rw [hpk i j e3] at e2
      exact (rh2.obj j _ a e4 e2).pick hρ (by rw [hl]; exact hlt)
  refine ⟨pick μ2 ρ, ⟨?_, fun a o hn e hm => x.new a o hn e (sub a hm), x.keep, x.tups, x.scrs⟩, rl, rv.pick hρ (by rw [hl]; exact hd)⟩
  obtain ⟨ν, e⟩ := x.pre
  refine ⟨(pick μ2 ρ).drop μ.length, ?_⟩
  have hlen : μ.length ≤ (pick μ2 ρ).length := by
    rw [rh.len]
    simp [pick, hl]
    exact hn
  have ht : (pick μ2 ρ).take μ.length = μ := by
    refine List.ext_getElem? fun i => ?_
    by_cases hi : i < μ.length
    · rw [List.getElem?_take_of_lt hi, hpk i i (hid i (by rw [← rh.len]; exact hi)), e, List.getElem?_append_left hi]
    · rw [List.getElem?_eq_none (by simp; omega), List.getElem?_eq_none (by omega)]
  rw [← List.take_append_drop μ.length (pick μ2 ρ), ht]
  simp
end

structure Fn (P : Program) (w : World) (K : PySem.W.Frag) (mg : Str → Option Value) (base : Heap) (k : Nat) (x : Str) (n : Nat) (g : List D → Hd → Option (D × Hd)) : Prop where
  ex : ∃ (f : Addr) (fd : FuncData) (ps : List Str), FnOk P w K mg base CX0 k f fd ps (spD K n g) ∧ mg x = some (.ref f) ∧ PySem.W.keepIn K (.ref f) = true ∧ Binds K fd ps []
section
variable {P : Program} {w : World} {K : PySem.W.Frag} {mg : Str → Option Value} {base : Heap} {k j n : Nat} {x : Str} {g c : List D → Hd → Option (D × Hd)}
theorem Fn.mono (F : Fn P w K mg base j x n g) (h : j ≤ k) : Fn P w K mg base k x n g := by
  obtain ⟨f, fd, ps, F, a, b, c⟩ := F.ex
  exact ⟨f, fd, ps, F.mono h, a, b, c⟩
theorem Fn.con (F : Fn P w K mg base k x n g) (h : Con c g) : Fn P w K mg base k x n c := by
  obtain ⟨f, fd, ps, F, a, b, e⟩ := F.ex
  refine ⟨f, fd, ps, F.imp fun vs H Q E q => ?_, a, b, e⟩
  obtain ⟨hp, μ, ds, d, hp', hn, rh, r, ec, q⟩ := q
  obtain ⟨d2, hp2, e2, s⟩ := sub_sound (H' := H) rh (h ds hp d hp' (fun i o => rh.below i o) (r.below rh.len) ec)
  exact ⟨hp, μ, ds, d2, hp2, hn, rh, r, e2, fun v H' μ2 x rh2 rv => by
    obtain ⟨μ', x', rh', rv'⟩ := s v H' μ2 x rh2 rv
    exact q v H' μ' x' rh' rv'⟩
theorem fn_mk {qual : Str} {st : Stmt} {f : Addr} {fd : FuncData} {N ps : List Str} {fb : AS} (F : Fun K x qual st f fd) (S : FnScope N ps (defScope st)) (hm : mg x = some (.ref f)) (hb : Binds K fd ps [])
    (body : ∀ (cdv : Value) (A : Around) (outer : List Env) (s : Shared) (H : Hp) (E : XK), Room k (A.deeper (PyProof.Rows.envOfC qual (defScope st) s.heap.objs.size f cdv)) →
      DSs (cxOf CX0 P w K mg base N qual (defScope st) f cdv A outer s H E).nox (defBody st) fb) : Fn P w K mg base (k + 1) x ps.length (mDef N.length fb) :=
  ⟨f, fd, ps, fn_def F S body, hm, F.kp, hb⟩
end
section
variable {X : Cx} {e : Expr} {es : List Expr} {fr : AA} {pos : Pos}
theorem de_callF {k : Nat} {n : Nat} {g : List D → Hd → Option (D × Hd)} {x : Str} {p : Pos} (F : Fn X.prog X.w X.K X.mg X.base k x n g) (hr : Room k X.A) (hg : Gl X x) (ha : DA X (e :: es) fr)
    (hdb : (x == ("__debug__" : Str)) = false := by decide) (he : starEach (e :: es) X.env = (false, eval e X.env) :: starEach es X.env := by rfl) (hpl : (backTo pos (starEach es X.env)).any (·.1) = false := by rfl) :
    DE X (.Call (.Name x p) (e :: es) [] pos) (mAs fr (ar n g)) := by
  obtain ⟨f, fd, ps, F, a, b, c⟩ := F.ex
  exact de_call F hr hg a b c ha hdb he hpl
theorem de_callF0 {k : Nat} {n : Nat} {g : List D → Hd → Option (D × Hd)} {x : Str} {p : Pos} (F : Fn X.prog X.w X.K X.mg X.base k x n g) (hr : Room k X.A) (hg : Gl X x) (hdb : (x == ("__debug__" : Str)) = false := by decide) :
    DE X (.Call (.Name x p) [] [] pos) (mAs mNil (ar n g)) := by
  obtain ⟨f, fd, ps, F, a, b, c⟩ := F.ex
  exact de_call0 F hr hg a b c hdb
end
end Ve
theorem L2.Room.units65 {k : Nat} {A : PySem.Around} (r : L2.Room k A) : A.units + 65 < PySem.cLine := by
  have := r.un
  omega
namespace Ve
open PySem PySem.Spec L2

theorem bb_len : bootBuiltins "len" = some (.builtin "len") := by decide +kernel
theorem bb_max : bootBuiltins "max" = some (.builtin "max") := by decide +kernel
theorem bb_min : bootBuiltins "min" = some (.builtin "min") := by decide +kernel
theorem bb_sum : bootBuiltins "sum" = some (.builtin "sum") := by decide +kernel
theorem bb_abs : bootBuiltins "abs" = some (.builtin "abs") := by decide +kernel
theorem bb_all : bootBuiltins "all" = some (.builtin "all") := by decide +kernel
theorem bb_any : bootBuiltins "any" = some (.builtin "any") := by decide +kernel
theorem bb_sorted : bootBuiltins "sorted" = some (.builtin "sorted") := by decide +kernel
theorem bb_repr : bootBuiltins "repr" = some (.builtin "repr") := by decide +kernel
theorem bb_isinstance : bootBuiltins "isinstance" = some (.builtin "isinstance") := by decide +kernel
theorem bb_int : bootBuiltins "int" = some (.type "int") := by decide +kernel
theorem bb_bool : bootBuiltins "bool" = some (.type "bool") := by decide +kernel
theorem bb_str : bootBuiltins "str" = some (.type "str") := by decide +kernel
theorem bb_list : bootBuiltins "list" = some (.type "list") := by decide +kernel
theorem bb_tuple : bootBuiltins "tuple" = some (.type "tuple") := by decide +kernel
theorem bb_dict : bootBuiltins "dict" = some (.type "dict") := by decide +kernel

section
variable {X : Cx} {a b c : Expr} {fa fb fc : AE} {fl : AA} {pos : Pos}
theorem dt_cmpL {op : CmpOp} {g : D → List D → Hd → Option (D × Hd)} (ho : OpR X (compareOp op) (RL X.K g)) (ha : DE X a fa) (hb : LE X b fl) (hm : behindInMarks op b = false) : DT X (.Compare a [op] [b] pos) (mT (m2L fa fl g)) :=
  PT.imp (pt_cmpR ho ha hb hm) fun _ _ _ h => tTest_of (fun _ _ _ h => tOpL_of h) h
theorem dt_chain {op op' : CmpOp} {g g' : D → D → Hd → Option (D × Hd)} (ho : OpR X (compareOp op) (RD X.K g)) (ho' : OpR X (compareOp op') (RD X.K g')) (ha : DE X a fa) (hb : DE X b fb) (hc : DE X c fc)
    (hm : lastMarks [op, op'] [b, c] = false := by with_unfolding_all rfl) : DT X (.Compare a [op, op'] [b, c] pos) (mT (mChain fa fb fc g g')) :=
  PT.imp (pt_chain ho ho' ha hb hc hm) fun _ _ _ h => tTest_of (fun _ _ _ h => tChain_of h) h
end
theorem scAt_of {K : PySem.W.Frag} {H : Hp} {a : Addr} {xs : List V} (ho : Only H) (h : SqL K H a xs) : ScAt K H a xs := by
  rcases h with (h | ⟨o, h⟩) | h
  · rcases ho a with z | ⟨o, ys, z⟩
    · rw [h] at z
      cases z
    · rw [h] at z
      cases z
  · exact .inl ⟨o, h⟩
  · exact .inr h
theorem Rps.mk {K : PySem.W.Frag} {H : Hp} {μ : List Addr} {d : D} {ds : List D} {v : V} {vs : List V} (r : Rp K H μ d v) (rs : Rps K H μ ds vs) : Rps K H μ (d :: ds) (v :: vs) := by
  rw [Rps]
  exact ⟨v, vs, rfl, r, rs⟩
theorem Rp.wt {K : PySem.W.Frag} {H : Hp} {μ : List Addr} {ds : List D} {a : Addr} {its : Array Value} {n : Nat} {dd : Option Addr} {sl : Array (Option Value)} {vs : List V} (h : K.lookup a = some ⟨.type "tuple", dd, .seq its n, sl⟩) (hl : its.size ≤ sizeLine) (hv : Vals vs its.toList)
    (r : Rps K H μ ds vs) : Rp K H μ (.wt ds) (.ref a) := by
  rw [Rp]
  exact ⟨a, vs, rfl, ⟨_, its, n, h, rfl, rfl, hl, hv⟩, r⟩
end Ve
namespace Ve
open PySem PySem.Spec L2

mutual
def D.all (p : Nat → Bool) : D → Bool
  | .ref k => p k
  | .tup ds => D.alls p ds
  | .wt ds => D.alls p ds
  | .non => true
  | .bl _ => true
  | .int _ => true
  | .str _ => true
  | .scr _ => true
def D.alls (p : Nat → Bool) : List D → Bool
  | [] => true
  | d :: ds => D.all p d && D.alls p ds
end
mutual
def D.map (f : Nat → Nat) : D → D
  | .ref k => .ref (f k)
  | .tup ds => .tup (D.maps f ds)
  | .wt ds => .wt (D.maps f ds)
  | .non => .non
  | .bl b => .bl b
  | .int i => .int i
  | .str x => .str x
  | .scr ns => .scr ns
def D.maps (f : Nat → Nat) : List D → List D
  | [] => []
  | d :: ds => D.map f d :: D.maps f ds
end
def kvAll (p : Nat → Bool) : List (D × D) → Bool
  | [] => true
  | x :: r => D.all p x.1 && D.all p x.2 && kvAll p r
def kvMap (f : Nat → Nat) : List (D × D) → List (D × D)
  | [] => []
  | p :: r => (p.1, D.map f p.2) :: kvMap f r
def O.all (p : Nat → Bool) : O → Bool
  | .lst xs => D.alls p xs
  | .dic kvs => kvAll p kvs
  | .dicL kvs => kvAll p kvs
def O.map (f : Nat → Nat) : O → O
  | .lst xs => .lst (D.maps f xs)
  | .dic kvs => .dic (kvMap f kvs)
  | .dicL kvs => .dicL (kvMap f kvs)

section
variable {K : PySem.W.Frag} {H : Hp} {μ μ2 : List Addr}
mutual
theorem Rp.mapped {f : Nat → Nat} {p : Nat → Bool} (hf : ∀ k, p k = true → k < μ2.length → μ[f k]? = μ2[k]?) : ∀ {d : D} {v : V}, D.all p d = true → Rp K H μ2 d v → Rp K H μ (D.map f d) v
  | .non, _, _, h => by rw [D.map]; exact h.nonE ▸ Rp.non
  | .bl _, _, _, h => by rw [D.map]; exact h.blE ▸ Rp.bl
  | .int _, _, _, h => by rw [D.map]; exact h.intE ▸ Rp.int
  | .str _, _, _, h => by rw [D.map]; exact h.strE ▸ Rp.str
  | .scr ns, _, _, h => by
    obtain ⟨a, rfl, s⟩ := h.scrE
    rw [D.map, Rp]
    exact ⟨a, rfl, s⟩
  | .ref k, v, hl, h => by
    obtain ⟨a, e, rfl⟩ := h.refE
    rw [D.all] at hl
    rw [D.map, Rp]
    exact ⟨a, by rw [hf k hl (List.getElem?_eq_some_iff.mp e).1]; exact e, rfl⟩
  | .tup ds, _, hl, h => by
    obtain ⟨a, vs, rfl, t, r⟩ := h.tupE
    rw [D.all] at hl
    rw [D.map, Rp]
    exact ⟨a, vs, rfl, t, Rps.mapped hf hl r⟩
  | .wt ds, _, hl, h => by
    obtain ⟨a, vs, rfl, t, r⟩ := h.wtE
    rw [D.all] at hl
    rw [D.map, Rp]
    exact ⟨a, vs, rfl, t, Rps.mapped hf hl r⟩
theorem Rps.mapped {f : Nat → Nat} {p : Nat → Bool} (hf : ∀ k, p k = true → k < μ2.length → μ[f k]? = μ2[k]?) : ∀ {ds : List D} {vs : List V}, D.alls p ds = true → Rps K H μ2 ds vs → Rps K H μ (D.maps f ds) vs
  | [], _, _, h => by
    rw [Rps] at h
    rw [D.maps, Rps]
    exact h
  | d :: ds, _, hl, h => by
    rw [D.alls, Bool.and_eq_true] at hl
    rw [Rps] at h
    obtain ⟨v, r, rfl, h1, h2⟩ := h
    rw [D.maps, Rps]
    exact ⟨v, r, rfl, Rp.mapped hf hl.1 h1, Rps.mapped hf hl.2 h2⟩
end
theorem RpK.mapped {f : Nat → Nat} {p : Nat → Bool} (hf : ∀ k, p k = true → k < μ2.length → μ[f k]? = μ2[k]?) : ∀ {ds : List (D × D)} {vs : List (Key × V)}, kvAll p ds = true → RpK K H μ2 ds vs → RpK K H μ (kvMap f ds) vs
  | [], _, _, h => by
    rw [RpK] at h
    rw [kvMap, RpK]
    exact h
  | d :: ds, _, hl, h => by
    rw [kvAll, Bool.and_eq_true, Bool.and_eq_true] at hl
    rw [RpK] at h
    obtain ⟨k, v, r, rfl, h0, h1, h2⟩ := h
    rw [kvMap, RpK]
    exact ⟨k, v, r, rfl, h0, Rp.mapped hf hl.1.2 h1, RpK.mapped hf hl.2 h2⟩
theorem RpT.mapped {f : Nat → Nat} {p : Nat → Bool} (hf : ∀ k, p k = true → k < μ2.length → μ[f k]? = μ2[k]?) : ∀ {ds : List (D × D)} {vs : List (List Key × V)}, kvAll p ds = true → RpT K H μ2 ds vs → RpT K H μ (kvMap f ds) vs
  | [], _, _, h => by
    rw [RpT] at h
    rw [kvMap, RpT]
    exact h
  | d :: ds, _, hl, h => by
    rw [kvAll, Bool.and_eq_true, Bool.and_eq_true] at hl
    rw [RpT] at h
    obtain ⟨ks, k, v, r, e0, rfl, h0, h1, h2⟩ := h
    rw [kvMap, RpT]
    exact ⟨ks, k, v, r, e0, rfl, h0, Rp.mapped hf hl.1.2 h1, RpT.mapped hf hl.2 h2⟩
theorem KNd.mapped {f : Nat → Nat} : ∀ {kvs : List (D × D)}, KNd kvs → KNd (kvMap f kvs)
  | [], _ => True.intro
  | p :: r, h => by
    refine ⟨fun q hq => ?_, KNd.mapped h.2⟩
    have hm : ∀ {l : List (D × D)}, q ∈ kvMap f l → ∃ q2 ∈ l, q2.1 = q.1 := by
      intro l
      induction l with
      | nil => intro h; cases h
      | cons x xs ih =>
        intro h
        rcases List.mem_cons.mp h with z | z
        · exact ⟨x, List.mem_cons_self, by rw [z]⟩
        · obtain ⟨q2, h2, e⟩ := ih z
          exact ⟨q2, List.mem_cons_of_mem _ h2, e⟩
    obtain ⟨q2, h2, e⟩ := hm hq
    rw [← e]
    exact h.1 q2 h2
theorem Ro.mapped {f : Nat → Nat} {p : Nat → Bool} (hf : ∀ k, p k = true → k < μ2.length → μ[f k]? = μ2[k]?) {o : O} {h : Option HO} (hl : O.all p o = true) (r : Ro K H μ2 o h) : Ro K H μ (O.map f o) h := by
  cases o with
  | lst xs => obtain ⟨vs, e, q⟩ := r; exact ⟨vs, e, q.mapped hf hl⟩
  | dic kvs =>
    obtain ⟨nd, ⟨vs, e, q⟩ | ⟨vs, e, q⟩⟩ := r
    · exact ⟨nd.mapped, .inl ⟨vs, e, q.mapped hf hl⟩⟩
    · exact ⟨nd.mapped, .inr ⟨vs, e, q.mapped hf hl⟩⟩
  | dicL kvs =>
    obtain ⟨nd, ⟨o, vs, e, q⟩ | ⟨o, vs, e, q⟩⟩ := r
    · exact ⟨nd.mapped, .inl ⟨o, vs, e, q.mapped hf hl⟩⟩
    · exact ⟨nd.mapped, .inr ⟨o, vs, e, q.mapped hf hl⟩⟩
end

structure Run (m : List D → Hd → Option (D × Hd)) (ds : List D) (hp : Hd) (d : D) (hp' : Hd) (σ κ : List Nat) (dsS : List D) (os : Hd) (d2 : D) (g : Hd) (f : Nat → Nat) (kp : Nat → Bool) : Prop where
  run : m dsS os = some (d2, g)
  nd : σ.Nodup
  lt : ∀ i ∈ σ, i < hp.length
  len : os.length = σ.length
  args : ds = D.rens σ dsS
  argsLt : D.lts σ.length dsS = true
  objs : ∀ (i : Nat) (o : O), os[i]? = some o → O.lt σ.length o = true ∧ hp[σ.getD i 0]? = some (O.ren σ o)
  kNd : κ.Nodup
  kLt : ∀ k ∈ κ, σ.length ≤ k ∧ k < g.length
  fOld : ∀ i, i < σ.length → f i = σ.getD i 0
  fNew : ∀ (t : Nat) (k : Nat), κ[t]? = some k → f k = hp.length + t
  kpIs : ∀ i, kp i = true → i < σ.length ∨ i ∈ κ
  res : D.all kp d2 = true ∧ d = D.map f d2
  len' : hp'.length = hp.length + κ.length
  rest : ∀ j, j < hp.length → j ∉ σ → hp'[j]? = hp[j]?
  old : ∀ i, i < σ.length → ∃ o, g[i]? = some o ∧ O.all kp o = true ∧ hp'[σ.getD i 0]? = some (O.map f o)
  new : ∀ (t : Nat) (k : Nat), κ[t]? = some k → ∃ o, g[k]? = some o ∧ O.all kp o = true ∧ hp'[hp.length + t]? = some (O.map f o)
def Cl (c m : List D → Hd → Option (D × Hd)) : Prop := ∀ ds hp d hp', c ds hp = some (d, hp') → ∃ σ κ dsS os d2 g f kp, Run m ds hp d hp' σ κ dsS os d2 g f kp

section
variable {K : PySem.W.Frag} {H : Hp} {μ : List Addr} {hp hp' : Hd} {m : List D → Hd → Option (D × Hd)} {ds dsS : List D} {d d2 : D} {σ κ : List Nat} {os g : Hd} {f : Nat → Nat} {kp : Nat → Bool}
theorem Run.start (R : Run m ds hp d hp' σ κ dsS os d2 g f kp) (rh : RelH K H μ hp) : RelH K H (pick μ σ) os := by
  have hσ : ∀ j ∈ σ, j < μ.length := fun j hj => by rw [rh.len]; exact R.lt j hj
  have hg : ∀ (i : Nat), i < σ.length → (pick μ σ)[i]? = μ[σ.getD i 0]? := fun i hi => by
    unfold pick
    have h1 : σ.getD i 0 = σ[i] := by simp [List.getD, hi]
    have h2 := hσ _ (List.getElem_mem hi)
    rw [List.getElem?_map, List.getElem?_eq_getElem hi, h1, List.getElem?_eq_getElem h2]
    simp [List.getD, h2]
  refine ⟨by simp [pick, R.len], ?_, fun i o a e1 e2 => ?_⟩
  · refine List.pairwise_iff_getElem.mpr fun i j hi hj hij => ?_
    have hi' : i < σ.length := by simpa [pick] using hi
    have hj' : j < σ.length := by simpa [pick] using hj
    have a1 := hσ _ (List.getElem_mem hi')
    have a2 := hσ _ (List.getElem_mem hj')
    have g1 : (pick μ σ)[i] = μ[σ[i]] := by simp [pick, List.getD, a1]
    have g2 : (pick μ σ)[j] = μ[σ[j]] := by simp [pick, List.getD, a2]
    rw [g1, g2]
    intro z
    have := (List.getElem_inj rh.nd).mp z
    have := (List.getElem_inj R.nd).mp this
    omega
  · obtain ⟨h1, h2⟩ := R.objs i o e1
    have hi : i < σ.length := by rw [← R.len]; exact (List.getElem?_eq_some_iff.mp e1).1
    rw [hg i hi] at e2
    exact (rh.obj _ _ a h2 e2).pick hσ h1
theorem Run.sound (R : Run m ds hp d hp' σ κ dsS os d2 g f kp) (rh : RelH K H μ hp) {v : V} {H' : Hp} {μ2 : List Addr} (x : Ext (pick μ σ) H μ2 H') (rh2 : RelH K H' μ2 g) (rv : Rp K H' μ2 d2 v) :
    ∃ μ', Ext μ H μ' H' ∧ RelH K H' μ' hp' ∧ Rp K H' μ' d v := by
  have hσ : ∀ j ∈ σ, j < μ.length := fun j hj => by rw [rh.len]; exact R.lt j hj
  have hpl : (pick μ σ).length = σ.length := by simp [pick]
  have hg : ∀ (i : Nat), i < σ.length → (pick μ σ)[i]? = μ[σ.getD i 0]? := fun i hi => by
    unfold pick
    have h1 : σ.getD i 0 = σ[i] := by simp [List.getD, hi]
    have h2 := hσ _ (List.getElem_mem hi)
    rw [List.getElem?_map, List.getElem?_eq_getElem hi, h1, List.getElem?_eq_getElem h2]
    simp [List.getD, h2]
  have hsub : ∀ a ∈ pick μ σ, a ∈ μ := fun a ha => by
    obtain ⟨j, hj, e⟩ := List.mem_map.mp ha
    have := hσ j hj
    rw [← e]
    simp [List.getD, this]
  have h2i : ∀ (i : Nat), i < σ.length → μ2[i]? = μ[σ.getD i 0]? := fun i hi => by
    rw [← hg i hi]
    obtain ⟨ν, e⟩ := x.pre
    rw [e, List.getElem?_append_left (by rw [hpl]; exact hi)]
  let N := κ.map fun k => μ2.getD k 0
  have hN : ∀ (t k : Nat), κ[t]? = some k → N[t]? = μ2[k]? := fun t k e => by
    show (κ.map fun k => μ2.getD k 0)[t]? = _
    rw [List.getElem?_map, e]
    have hk : k < μ2.length := by rw [rh2.len]; exact (R.kLt k (List.mem_of_getElem? e)).2
    show some (μ2.getD k 0) = _
    rw [List.getElem?_eq_getElem hk]
    simp [List.getD, hk]
  have hnew : ∀ a ∈ N, a ∉ μ ∧ ∃ k ∈ κ, μ2[k]? = some a := fun a ha => by
    obtain ⟨k, hk, e⟩ := List.mem_map.mp ha
    obtain ⟨hk1, hk2⟩ := R.kLt k hk
    have hk2' : k < μ2.length := by rw [rh2.len]; exact hk2
    have e2 : μ2[k]? = some a := by
      rw [← e, List.getElem?_eq_getElem hk2']
      simp [List.getD, hk2']
    refine ⟨fun hm => ?_, k, hk, e2⟩
    by_cases hp1 : a ∈ pick μ σ
    · obtain ⟨i, hi, e3⟩ := List.mem_iff_getElem.mp hp1
      obtain ⟨ν, e4⟩ := x.pre
      have hi2 : i < μ2.length := by rw [e4, List.length_append]; omega
      have e5 : μ2[i]? = some a := by rw [e4, List.getElem?_append_left hi, List.getElem?_eq_getElem hi, e3]
      rw [List.getElem?_eq_getElem hi2] at e5
      rw [List.getElem?_eq_getElem hk2'] at e2
      have := (List.getElem_inj rh2.nd).mp ((Option.some.inj e5).trans (Option.some.inj e2).symm)
      rw [hpl] at hi
      omega
    · obtain ⟨u, eu, _⟩ := rh.taken hm
      exact x.new a u hp1 eu (List.mem_of_getElem? e2)
  have hf : ∀ k, kp k = true → k < μ2.length → (μ ++ N)[f k]? = μ2[k]? := fun k hk hl => by
    rcases R.kpIs k hk with h | h
    · rw [R.fOld k h, List.getElem?_append_left (hσ _ (by simp [List.getD, h])), h2i k h]
    · obtain ⟨t, ht, e⟩ := List.mem_iff_getElem.mp h
      have e' : κ[t]? = some k := by rw [List.getElem?_eq_getElem ht, e]
      rw [R.fNew t k e', List.getElem?_append_right (by rw [rh.len]; omega), rh.len, Nat.add_sub_cancel_left, hN t k e']
  have xx : Ext μ H (μ ++ N) H' := by
    refine ⟨⟨N, rfl⟩, fun a o hn e hm => ?_, fun a o hn e => x.keep a o (fun z => hn (hsub a z)) e, x.tups, x.scrs⟩
    rcases List.mem_append.mp hm with z | z
    · exact hn z
    · obtain ⟨_, k, hk, e2⟩ := hnew a z
      exact x.new a o (fun z => hn (hsub a z)) e (List.mem_of_getElem? e2)
  refine ⟨μ ++ N, xx, ⟨by rw [List.length_append, R.len', rh.len]; simp [N], ?_, fun j o a e1 e2 => ?_⟩, ?_⟩
  · refine List.nodup_append.mpr ⟨rh.nd, ?_, fun a ha b hb z => ?_⟩
    · refine List.pairwise_iff_getElem.mpr fun i j hi hj hij z => ?_
      have hi' : i < κ.length := by simpa [N] using hi
      have hj' : j < κ.length := by simpa [N] using hj
      have e1 := hN i κ[i] (List.getElem?_eq_getElem hi')
      have e2 := hN j κ[j] (List.getElem?_eq_getElem hj')
      rw [List.getElem?_eq_getElem hi] at e1
      rw [List.getElem?_eq_getElem hj] at e2
      have k1 : κ[i] < μ2.length := by rw [rh2.len]; exact (R.kLt _ (List.getElem_mem hi')).2
      have k2 : κ[j] < μ2.length := by rw [rh2.len]; exact (R.kLt _ (List.getElem_mem hj')).2
      rw [List.getElem?_eq_getElem k1] at e1
      rw [List.getElem?_eq_getElem k2] at e2
      have := (List.getElem_inj rh2.nd).mp (((Option.some.inj e1).symm.trans z).trans (Option.some.inj e2))
      have := (List.getElem_inj R.kNd).mp this
      omega
    · subst z
      exact (hnew a hb).1 ha
  · by_cases hj : j < hp.length
    · rw [List.getElem?_append_left (by rw [rh.len]; exact hj)] at e2
      by_cases hm : j ∈ σ
      · obtain ⟨i, hi, e⟩ := List.mem_iff_getElem.mp hm
        obtain ⟨o2, h1, h2, h3⟩ := R.old i hi
        have ej : σ.getD i 0 = j := by simp [List.getD, hi, e]
        rw [ej, e1] at h3
        cases h3
        have e3 := h2i i hi
        rw [ej, e2] at e3
        exact (rh2.obj i o2 a h1 e3).mapped hf h2
      · rw [R.rest j hj hm] at e1
        have q := rh.obj j o a e1 e2
        obtain ⟨u, eu, _⟩ := q.some
        have hna : a ∉ pick μ σ := fun z => by
          obtain ⟨k, hk, e⟩ := List.mem_map.mp z
          have hk2 := hσ k hk
          have e5 : μ[k]? = some a := by
            rw [← e, List.getElem?_eq_getElem hk2]
            simp [List.getD, hk2]
          obtain ⟨l1, e6⟩ := List.getElem?_eq_some_iff.mp e5
          obtain ⟨l2, e7⟩ := List.getElem?_eq_some_iff.mp e2
          have := (List.getElem_inj rh.nd).mp (e6.trans e7.symm)
          exact hm (this ▸ hk)
        rw [x.keep a u hna eu, ← eu]
        exact q.mon xx.m
    · have hj2 : j < hp'.length := (List.getElem?_eq_some_iff.mp e1).1
      have hlen' := R.len'
      have ht : j - hp.length < κ.length := by omega
      obtain ⟨o2, h1, h2, h3⟩ := R.new (j - hp.length) κ[j - hp.length] (List.getElem?_eq_getElem ht)
      have ej : hp.length + (j - hp.length) = j := by omega
      rw [ej, e1] at h3
      cases h3
      rw [List.getElem?_append_right (by rw [rh.len]; omega), rh.len, hN _ _ (List.getElem?_eq_getElem ht)] at e2
      exact (rh2.obj _ o2 a h1 e2).mapped hf h2
  · rw [R.res.2]
    exact rv.mapped hf R.res.1
end
theorem Fn.cl {P : Program} {w : World} {K : PySem.W.Frag} {mg : Str → Option Value} {base : Heap} {k n : Nat} {x : Str} {m c : List D → Hd → Option (D × Hd)} (F : Fn P w K mg base k x n m) (h : Cl c m) : Fn P w K mg base k x n c := by
  obtain ⟨f, fd, ps, F, a, b, e⟩ := F.ex
  refine ⟨f, fd, ps, F.imp fun vs H Q E q => ?_, a, b, e⟩
  obtain ⟨hp, μ, ds, d, hp', hn, rh, r, ec, q⟩ := q
  obtain ⟨σ, κ, dsS, os, d2, g, f, kp, R⟩ := h ds hp d hp' ec
  have hσ : ∀ j ∈ σ, j < μ.length := fun j hj => by rw [rh.len]; exact R.lt j hj
  have ra : Rps K H (pick μ σ) dsS vs := Rps.pick hσ R.argsLt (by rw [← R.args]; exact r)
  refine ⟨os, pick μ σ, dsS, d2, g, ?_, R.start rh, ra, R.run, fun v H' μ2 x rh2 rv => ?_⟩
  · rw [← hn, R.args]
    have : ∀ l : List D, (D.rens σ l).length = l.length := by
      intro l
      induction l with
      | nil => rfl
      | cons y ys ih => rw [D.rens, List.length_cons, List.length_cons, ih]
    rw [this]
  · obtain ⟨μ', x', rh', rv'⟩ := R.sound rh x rh2 rv
    exact q v H' μ' x' rh' rv'
end Ve
namespace Ve
open PySem PySem.Spec L2

abbrev nr (d : D) : Bool := D.all (fun _ => false) d
abbrev nrs (ds : List D) : Bool := D.alls (fun _ => false) ds
abbrev nrO (o : O) : Bool := O.all (fun _ => false) o
mutual
theorem map_nr {f : Nat → Nat} : ∀ {d : D}, nr d = true → D.map f d = d
  | .non, _ => by rw [D.map]
  | .bl _, _ => by rw [D.map]
  | .int _, _ => by rw [D.map]
  | .str _, _ => by rw [D.map]
  | .scr _, _ => by rw [D.map]
  | .ref k, h => by simp [nr, D.all] at h
  | .tup ds, h => by
    simp only [nr, D.all] at h
    rw [D.map, maps_nr h]
  | .wt ds, h => by
    simp only [nr, D.all] at h
    rw [D.map, maps_nr h]
theorem maps_nr {f : Nat → Nat} : ∀ {ds : List D}, nrs ds = true → D.maps f ds = ds
  | [], _ => by rw [D.maps]
  | d :: ds, h => by
    simp only [nrs, D.alls, Bool.and_eq_true] at h
    rw [D.maps, map_nr h.1, maps_nr h.2]
end
mutual
theorem ren_nr {ρ : List Nat} : ∀ {d : D}, nr d = true → D.ren ρ d = d
  | .non, _ => by rw [D.ren]
  | .bl _, _ => by rw [D.ren]
  | .int _, _ => by rw [D.ren]
  | .str _, _ => by rw [D.ren]
  | .scr _, _ => by rw [D.ren]
  | .ref k, h => by simp [nr, D.all] at h
  | .tup ds, h => by
    simp only [nr, D.all] at h
    rw [D.ren, rens_nr h]
  | .wt ds, h => by
    simp only [nr, D.all] at h
    rw [D.ren, rens_nr h]
theorem rens_nr {ρ : List Nat} : ∀ {ds : List D}, nrs ds = true → D.rens ρ ds = ds
  | [], _ => by rw [D.rens]
  | d :: ds, h => by
    simp only [nrs, D.alls, Bool.and_eq_true] at h
    rw [D.rens, ren_nr h.1, rens_nr h.2]
end
mutual
theorem lt_nr {n : Nat} : ∀ {d : D}, nr d = true → D.lt n d = true
  | .non, _ => rfl
  | .bl _, _ => rfl
  | .int _, _ => rfl
  | .str _, _ => rfl
  | .scr _, _ => rfl
  | .ref k, h => by simp [nr, D.all] at h
  | .tup ds, h => by
    simp only [nr, D.all] at h
    rw [D.lt, lts_nr h]
  | .wt ds, h => by
    simp only [nr, D.all] at h
    rw [D.lt, lts_nr h]
theorem lts_nr {n : Nat} : ∀ {ds : List D}, nrs ds = true → D.lts n ds = true
  | [], _ => by rw [D.lts]
  | d :: ds, h => by
    simp only [nrs, D.alls, Bool.and_eq_true] at h
    rw [D.lts, lt_nr h.1, lts_nr h.2]
    rfl
end
mutual
theorem all_nr {p : Nat → Bool} : ∀ {d : D}, nr d = true → D.all p d = true
  | .non, _ => by rw [D.all]
  | .bl _, _ => by rw [D.all]
  | .int _, _ => by rw [D.all]
  | .str _, _ => by rw [D.all]
  | .scr _, _ => by rw [D.all]
  | .ref k, h => by simp [nr, D.all] at h
  | .tup ds, h => by
    simp only [nr, D.all] at h
    rw [D.all, alls_nr h]
  | .wt ds, h => by
    simp only [nr, D.all] at h
    rw [D.all, alls_nr h]
theorem alls_nr {p : Nat → Bool} : ∀ {ds : List D}, nrs ds = true → D.alls p ds = true
  | [], _ => by rw [D.alls]
  | d :: ds, h => by
    simp only [nrs, D.alls, Bool.and_eq_true] at h
    rw [D.alls, all_nr h.1, alls_nr h.2]
    rfl
end
theorem kv_nr {kvs : List (D × D)} (h : kvAll (fun _ => false) kvs = true) : (∀ f, kvMap f kvs = kvs) ∧ (∀ ρ, kvRen ρ kvs = kvs) ∧ (∀ n, kvLt n kvs = true) ∧ ∀ p, kvAll p kvs = true := by
  induction kvs with
  | nil => exact ⟨fun _ => rfl, fun _ => rfl, fun _ => rfl, fun _ => rfl⟩
  | cons x r ih =>
    rw [kvAll, Bool.and_eq_true, Bool.and_eq_true] at h
    obtain ⟨h1, h2, h3, h4⟩ := ih h.2
    obtain ⟨a, b⟩ := x
    exact ⟨fun f => by rw [kvMap, map_nr h.1.2, h1], fun ρ => by rw [kvRen, ren_nr h.1.2, h2], fun n => by rw [kvLt, lt_nr h.1.1, lt_nr h.1.2, h3]; rfl, fun p => by rw [kvAll, all_nr h.1.1, all_nr h.1.2, h4]; rfl⟩
theorem O_nr {o : O} (h : nrO o = true) : (∀ f, O.map f o = o) ∧ (∀ ρ, O.ren ρ o = o) ∧ (∀ n, O.lt n o = true) ∧ ∀ p, O.all p o = true := by
  cases o with
  | lst xs => exact ⟨fun f => by rw [O.map, maps_nr h], fun ρ => by rw [O.ren, rens_nr h], fun n => lts_nr h, fun p => alls_nr h⟩
  | dic kvs =>
    obtain ⟨h1, h2, h3, h4⟩ := kv_nr h
    exact ⟨fun f => by rw [O.map, h1], fun ρ => by rw [O.ren, h2], fun n => h3 n, fun p => h4 p⟩
  | dicL kvs =>
    obtain ⟨h1, h2, h3, h4⟩ := kv_nr h
    exact ⟨fun f => by rw [O.map, h1], fun ρ => by rw [O.ren, h2], fun n => h3 n, fun p => h4 p⟩

def setAll (hp : Hd) : List Nat → List O → Hd
  | n :: σ, o :: os => setAll (hp.set n o) σ os
  | _, _ => hp
theorem setAll_len : ∀ (σ : List Nat) (os : List O) (hp : Hd), (setAll hp σ os).length = hp.length
  | [], _, hp => by simp [setAll]
  | _ :: _, [], hp => by simp [setAll]
  | n :: σ, o :: os, hp => by rw [setAll, setAll_len σ os, List.length_set]
theorem setAll_out : ∀ (σ : List Nat) (os : List O) (hp : Hd) (j : Nat), j ∉ σ → (setAll hp σ os)[j]? = hp[j]?
  | [], _, hp, j, _ => by simp [setAll]
  | _ :: _, [], hp, j, _ => by simp [setAll]
  | n :: σ, o :: os, hp, j, h => by
    rw [setAll, setAll_out σ os _ j (fun z => h (List.mem_cons_of_mem _ z)), List.getElem?_set_ne (fun z => h (by rw [z]; exact List.mem_cons_self))]
theorem setAll_at : ∀ (σ : List Nat) (os : List O) (hp : Hd) (i : Nat), σ.Nodup → os.length = σ.length → (∀ n ∈ σ, n < hp.length) → i < σ.length → (setAll hp σ os)[σ.getD i 0]? = os[i]?
  | [], _, hp, i, _, _, _, h => by simp at h
  | _ :: _, [], hp, i, _, h, _, _ => by simp at h
  | n :: σ, o :: os, hp, i, nd, hl, hb, hi => by
    rw [List.nodup_cons] at nd
    rw [setAll]
    cases i with
    | zero =>
      rw [show (n :: σ).getD 0 0 = n from rfl, setAll_out σ os _ n nd.1, List.getElem?_set_self (hb n List.mem_cons_self)]
      rfl
    | succ i =>
      rw [show (n :: σ).getD (i + 1) 0 = σ.getD i 0 from by simp [List.getD]]
      rw [setAll_at σ os _ i nd.2 (by simpa using hl) (fun k hk => by rw [List.length_set]; exact hb k (List.mem_cons_of_mem _ hk)) (by simpa using hi)]
      simp
def Flat (m : List D → Hd → Option (D × Hd)) (ds : List D) (hp : Hd) (d : D) (hp' : Hd) : Prop :=
  ∃ (σ : List Nat) (dsS : List D) (os os' : List O) (d2 : D) (g : Hd), m dsS os = some (d2, g) ∧ σ.Nodup ∧ os.length = σ.length ∧ os'.length = σ.length ∧ ds = D.rens σ dsS ∧ D.lts σ.length dsS = true ∧
    (∀ (i : Nat) (o : O), os[i]? = some o → nrO o = true ∧ hp[σ.getD i 0]? = some o) ∧ (∀ (i : Nat) (o : O), os'[i]? = some o → nrO o = true ∧ g[i]? = some o) ∧
    ((nr d2 = true ∧ d = d2 ∧ hp' = setAll hp σ os') ∨ ∃ k o, d2 = .ref k ∧ σ.length ≤ k ∧ g[k]? = some o ∧ nrO o = true ∧ d = .ref hp.length ∧ hp' = setAll hp σ os' ++ [o])
theorem Flat.run {m : List D → Hd → Option (D × Hd)} {ds : List D} {hp : Hd} {d : D} {hp' : Hd} (h : Flat m ds hp d hp') : ∃ σ κ dsS os d2 g f kp, Run m ds hp d hp' σ κ dsS os d2 g f kp := by
  obtain ⟨σ, dsS, os, os', d2, g, run, nd, len, len', args, argsLt, objs, objs', c⟩ := h
  have lt : ∀ i ∈ σ, i < hp.length := fun n hn => by
    obtain ⟨i, hi, e⟩ := List.mem_iff_getElem.mp hn
    obtain ⟨_, h2⟩ := objs i os[i] (List.getElem?_eq_getElem (by omega))
    have e2 : σ.getD i 0 = n := by simp [List.getD, hi, e]
    rw [e2] at h2
    exact (List.getElem?_eq_some_iff.mp h2).1
  rcases c with ⟨h1, rfl, rfl⟩ | ⟨k, o, rfl, hk, hg, ho, rfl, rfl⟩
  · refine ⟨σ, [], dsS, os, d, g, fun i => σ.getD i 0, fun _ => false, run, nd, lt, len, args, argsLt, fun i o e => ?_, List.nodup_nil, fun _ h => by simp at h, fun i _ => rfl, fun t k e => by simp at e, fun i h => by simp at h, ⟨h1, (map_nr h1).symm⟩, by simp [setAll_len], fun j _ hj => setAll_out σ os' hp j hj, fun i hi => ?_, fun t k e => by simp at e⟩
    · obtain ⟨a, b⟩ := objs i o e
      obtain ⟨_, a2, a3, _⟩ := O_nr a
      exact ⟨a3 _, by rw [a2]; exact b⟩
    · have hi' : i < os'.length := by omega
      obtain ⟨a, b⟩ := objs' i os'[i] (List.getElem?_eq_getElem hi')
      obtain ⟨a1, _, _, a4⟩ := O_nr a
      exact ⟨os'[i], b, a4 _, by rw [a1, setAll_at σ os' hp i nd len' lt hi, List.getElem?_eq_getElem hi']⟩
  · refine ⟨σ, [k], dsS, os, .ref k, g, fun i => if i < σ.length then σ.getD i 0 else hp.length, fun i => i == k, run, nd, lt, len, args, argsLt, fun i o e => ?_, by simp, fun j hj => ?_, fun i hi => by simp [hi], fun t j e => ?_, fun i hi => ?_, ⟨by simp [D.all], ?_⟩, by simp [setAll_len], fun j hj1 hj => ?_, fun i hi => ?_, fun t j e => ?_⟩
    · obtain ⟨a, b⟩ := objs i o e
      obtain ⟨_, a2, a3, _⟩ := O_nr a
      exact ⟨a3 _, by rw [a2]; exact b⟩
    · have : j = k := by simpa using hj
      subst this
      exact ⟨hk, (List.getElem?_eq_some_iff.mp hg).1⟩
    · cases t with
      | zero =>
        have : k = j := by simpa using e
        subst this
        have : ¬ k < σ.length := by omega
        simp [this]
      | succ t => simp at e
    · have : i = k := by simpa using hi
      exact .inr (by simp [this])
    · rw [D.map]
      have : ¬ k < σ.length := by omega
      simp [this]
    · rw [List.getElem?_append_left (by rw [setAll_len]; exact hj1), setAll_out σ os' hp j hj]
    · have hi' : i < os'.length := by omega
      obtain ⟨a, b⟩ := objs' i os'[i] (List.getElem?_eq_getElem hi')
      obtain ⟨a1, _, _, a4⟩ := O_nr a
      refine ⟨os'[i], b, a4 _, ?_⟩
      have hl : σ.getD i 0 < hp.length := lt _ (by simp [List.getD, hi])
      rw [a1, List.getElem?_append_left (by rw [setAll_len]; exact hl), setAll_at σ os' hp i nd len' lt hi, List.getElem?_eq_getElem hi']
    · cases t with
      | zero =>
        have : k = j := by simpa using e
        subst this
        obtain ⟨a1, _, _, a4⟩ := O_nr ho
        exact ⟨o, hg, a4 _, by rw [a1, List.getElem?_append_right (by rw [setAll_len]; omega), setAll_len]; simp⟩
      | succ t => simp at e
def cV (m : List D → Hd → Option (D × Hd)) (ds : List D) (hp : Hd) : Option (D × Hd) := if nrs ds = true then match m ds [] with
  | some (d, _) => if nr d = true then some (d, hp) else none
  | none => none else none
def cN (m : List D → Hd → Option (D × Hd)) (ds : List D) (hp : Hd) : Option (D × Hd) := if nrs ds = true then match m ds [] with
  | some (.ref k, g) => match g[k]? with
    | some o => if nrO o = true then some (.ref hp.length, hp ++ [o]) else none
    | none => none
  | _ => none else none
theorem cl_cV (m : List D → Hd → Option (D × Hd)) : Cl (cV m) m := fun ds hp d hp' h => by
  unfold cV at h
  split at h
  · rename_i hn
    split at h
    · rename_i d2 g e
      split at h
      · rename_i hd
        cases h
        exact Flat.run ⟨[], ds, [], [], d, g, e, List.nodup_nil, rfl, rfl, (rens_nr hn).symm, lts_nr hn, fun i o e => by simp at e, fun i o e => by simp at e, .inl ⟨hd, rfl, rfl⟩⟩
      · cases h
    · cases h
  · cases h
theorem cl_cN (m : List D → Hd → Option (D × Hd)) : Cl (cN m) m := fun ds hp d hp' h => by
  unfold cN at h
  split at h
  · rename_i hn
    split at h
    · rename_i k g e
      split at h
      · rename_i o eo
        split at h
        · rename_i ho
          cases h
          exact Flat.run ⟨[], ds, [], [], .ref k, g, e, List.nodup_nil, rfl, rfl, (rens_nr hn).symm, lts_nr hn, fun i o e => by simp at e, fun i o e => by simp at e, .inr ⟨k, o, rfl, Nat.zero_le _, eo, ho, rfl, rfl⟩⟩
        · cases h
      · cases h
    · cases h
  · cases h
theorem Flat.one {m : List D → Hd → Option (D × Hd)} {n : Nat} {ds : List D} {hp hp' : Hd} {d d2 : D} {o o' : O} {g : Hd} (run : m (.ref 0 :: ds) [o] = some (d2, g)) (hn : nrs ds = true) (ho : hp[n]? = some o) (fo : nrO o = true) (g0 : g[0]? = some o') (fo' : nrO o' = true)
    (c : (nr d2 = true ∧ d = d2 ∧ hp' = hp.set n o') ∨ ∃ k o2, d2 = .ref k ∧ 1 ≤ k ∧ g[k]? = some o2 ∧ nrO o2 = true ∧ d = .ref hp.length ∧ hp' = hp.set n o' ++ [o2]) : Flat m (.ref n :: ds) hp d hp' := by
  refine ⟨[n], .ref 0 :: ds, [o], [o'], d2, g, run, by simp, rfl, rfl, ?_, ?_, fun i x e => ?_, fun i x e => ?_, ?_⟩
  · rw [D.rens, D.ren, rens_nr hn]
    rfl
  · rw [D.lts, lts_nr hn]
    rfl
  · cases i with
    | zero =>
      have : o = x := by simpa using e
      subst this
      exact ⟨fo, ho⟩
    | succ i => simp at e
  · cases i with
    | zero =>
      have : o' = x := by simpa using e
      subst this
      exact ⟨fo', g0⟩
    | succ i => simp at e
  · rcases c with ⟨a, b, c⟩ | ⟨k, o2, a, b, c, e, f, g⟩
    · exact .inl ⟨a, b, by rw [c]; rfl⟩
    · exact .inr ⟨k, o2, a, b, c, e, f, by rw [g]; rfl⟩

theorem sFor_inv {t : Tg} {b : AS} (Inv : Nat → Ls → Hd → Prop) : ∀ (items : List D) (ls : Ls) (hp : Hd) (i : Nat), Inv i ls hp →
    (∀ (j : Nat) (x : D) ls hp, items[j]? = some x → Inv (i + j) ls hp → ∃ ls1 ls2 hp2, t.asg x ls = some ls1 ∧ (b ls1 hp = some (.nx, ls2, hp2) ∨ b ls1 hp = some (.ct, ls2, hp2)) ∧ Inv (i + j + 1) ls2 hp2) →
    ∃ ls' hp', sFor t [] b items ls hp = some (.nx, ls', hp') ∧ Inv (i + items.length) ls' hp'
  | [], ls, hp, i, h, _ => ⟨ls, hp, rfl, h⟩
  | x :: xs, ls, hp, i, h, step => by
    obtain ⟨ls1, ls2, hp2, e1, e2, h2⟩ := step 0 x ls hp rfl h
    obtain ⟨ls', hp', e3, h3⟩ := sFor_inv Inv xs ls2 hp2 (i + 1) h2 fun j y ls hp ej hj => by
      have := step (j + 1) y ls hp (by simpa using ej) (by rw [show i + (j + 1) = i + 1 + j by omega]; exact hj)
      rw [show i + (j + 1) + 1 = i + 1 + j + 1 by omega] at this
      exact this
    refine ⟨ls', hp', ?_, by rw [List.length_cons, show i + (xs.length + 1) = i + 1 + xs.length by omega]; exact h3⟩
    rcases e2 with e2 | e2 <;> simp only [sFor, gdOk, if_true, e1, e2, e3]
theorem lcGo_pure {t : Tg} {gd : Gd} {tt : AT} {te : AE} {ls0 : Ls} {hp : Hd} (hg : gdOk gd hp = true) (bf : D → Bool) (df : D → D) : ∀ (items : List D),
    (∀ x ∈ items, ∃ ls1, t.asg x ls0 = some ls1 ∧ tt ls1 hp = some (bf x, hp) ∧ (bf x = true → te ls1 hp = some (df x, hp))) → lcGo t gd tt te ls0 items hp = some ((items.filter bf).map df, hp)
  | [], _ => by simp [lcGo, hg]
  | x :: xs, h => by
    obtain ⟨ls1, e1, e2, e3⟩ := h x List.mem_cons_self
    have ih := lcGo_pure hg bf df xs fun y hy => h y (List.mem_cons_of_mem _ hy)
    cases hb : bf x with
    | true =>
      rw [hb] at e2
      simp only [lcGo, hg, if_true, e1, e2, e3 hb, ih, List.filter_cons, hb, List.map_cons]
    | false =>
      rw [hb] at e2
      simp only [lcGo, hg, if_true, e1, e2, ih, List.filter_cons, hb, Bool.false_eq_true, if_false]
def c1V (m : List D → Hd → Option (D × Hd)) : List D → Hd → Option (D × Hd)
  | .ref n :: ds, hp => match hp[n]? with
    | some o => if (nrs ds && nrO o) = true then match m (.ref 0 :: ds) [o] with
      | some (d, o' :: _) => if (nr d && nrO o') = true then some (d, hp.set n o') else none
      | _ => none else none
    | none => none
  | _, _ => none
def c1N (m : List D → Hd → Option (D × Hd)) : List D → Hd → Option (D × Hd)
  | .ref n :: ds, hp => match hp[n]? with
    | some o => if (nrs ds && nrO o) = true then match m (.ref 0 :: ds) [o] with
      | some (.ref (k + 1), o' :: g) => match g[k]? with
        | some o2 => if (nrO o' && nrO o2) = true then some (.ref hp.length, hp.set n o' ++ [o2]) else none
        | none => none
      | _ => none else none
    | none => none
  | _, _ => none
theorem cl_c1V (m : List D → Hd → Option (D × Hd)) : Cl (c1V m) m := fun ds hp d hp' h => by
  unfold c1V at h
  split at h
  · split at h
    · rename_i o eo
      split at h
      · rename_i hn
        rw [Bool.and_eq_true] at hn
        split at h
        · rename_i d2 o' g e
          split at h
          · rename_i hd
            rw [Bool.and_eq_true] at hd
            cases h
            exact (Flat.one e hn.1 eo hn.2 rfl hd.2 (.inl ⟨hd.1, rfl, rfl⟩)).run
          · cases h
        · cases h
      · cases h
    · cases h
  · cases h
theorem cl_c1N (m : List D → Hd → Option (D × Hd)) : Cl (c1N m) m := fun ds hp d hp' h => by
  unfold c1N at h
  split at h
  · split at h
    · rename_i o eo
      split at h
      · rename_i hn
        rw [Bool.and_eq_true] at hn
        split at h
        · rename_i k o' g e
          split at h
          · rename_i o2 e2
            split at h
            · rename_i hd
              rw [Bool.and_eq_true] at hd
              cases h
              exact (Flat.one e hn.1 eo hn.2 rfl hd.1 (.inr ⟨k + 1, o2, rfl, Nat.le_add_left 1 k, e2, hd.2, rfl, rfl⟩)).run
            · cases h
          · cases h
        · cases h
      · cases h
    · cases h
  · cases h

section
variable {ls : Ls} {hp : Hd} {fa fb fc : AE} {ft fu : AT} {fr fl : AA} {f g : AS}
@[simp] theorem mVar_s {i : Nat} : mVar i ls hp = (match ls[i]? with
  | some (some d) => some (d, hp)
  | _ => none) := rfl
@[simp] theorem mC_s {d : D} : mC d ls hp = some (d, hp) := rfl
@[simp] theorem m2_s {g : D → D → Hd → Option (D × Hd)} : m2 fa fb g ls hp = (match fa ls hp with
  | some (a, hp1) => match fb ls hp1 with
    | some (b, hp2) => g a b hp2
    | none => none
  | none => none) := rfl
@[simp] theorem m1_s {g : D → Hd → Option (D × Hd)} : m1 fa g ls hp = (match fa ls hp with
  | some (a, hp1) => g a hp1
  | none => none) := rfl
@[simp] theorem mT_s : mT fa ls hp = (match fa ls hp with
  | some (.bl b, hp1) => some (b, hp1)
  | _ => none) := rfl
@[simp] theorem mNil_s : mNil ls hp = some ([], hp) := rfl
@[simp] theorem mCons_s : mCons fa fr ls hp = (match fa ls hp with
  | some (a, hp1) => match fr ls hp1 with
    | some (r, hp2) => some (a :: r, hp2)
    | none => none
  | none => none) := rfl
@[simp] theorem mAs_s {g : List D → Hd → Option (D × Hd)} : mAs fr g ls hp = (match fr ls hp with
  | some (a, hp1) => g a hp1
  | none => none) := rfl
@[simp] theorem ar_s {n : Nat} {g : List D → Hd → Option (D × Hd)} {ds : List D} : ar n g ds hp = if ds.length = n then g ds hp else none := rfl
@[simp] theorem mNew_s : mNew fl ls hp = (match fl ls hp with
  | some (ds, hp1) => some (.ref hp1.length, hp1 ++ [.lst ds])
  | none => none) := rfl
@[simp] theorem mTup_s : mTup fr ls hp = (match fr ls hp with
  | some (ds, hp1) => if ds.length ≤ sizeLine then some (.tup ds, hp1) else none
  | none => none) := rfl
@[simp] theorem mLst_s : mLst fr ls hp = (match fr ls hp with
  | some (ds, hp1) => if ds.length ≤ sizeLine then some (ds, hp1) else none
  | none => none) := rfl
@[simp] theorem sNext_s : sNext ls hp = some (.nx, ls, hp) := rfl
@[simp] theorem sSeq_s : sSeq f g ls hp = (match f ls hp with
  | some (.nx, ls1, hp1) => g ls1 hp1
  | r => r) := rfl
@[simp] theorem sDrop_s : sDrop fa ls hp = (match fa ls hp with
  | some (_, hp1) => some (.nx, ls, hp1)
  | none => none) := rfl
@[simp] theorem sRet_s : sRet fa ls hp = (match fa ls hp with
  | some (d, hp1) => some (.rt d, ls, hp1)
  | none => none) := rfl
@[simp] theorem sIf_s : sIf ft f g ls hp = (match ft ls hp with
  | some (true, hp1) => f ls hp1
  | some (false, hp1) => g ls hp1
  | none => none) := rfl
@[simp] theorem sSet_s {i : Nat} : sSet i fa ls hp = (match fa ls hp with
  | some (d, hp1) => some (.nx, ls.set i (some d), hp1)
  | none => none) := rfl
@[simp] theorem sAsg_s {t : Tg} : sAsg t fa ls hp = (match fa ls hp with
  | some (d, hp1) => match t.asg d ls with
    | some ls1 => some (.nx, ls1, hp1)
    | none => none
  | none => none) := rfl
@[simp] theorem sPar_s {i j : Nat} : sPar i j fr ls hp = (match fr ls hp with
  | some ([a, b], hp1) => some (.nx, (ls.set i (some a)).set j (some b), hp1)
  | _ => none) := rfl
@[simp] theorem sStore_s : sStore fa fb fc ls hp = (match fa ls hp with
  | some (v, hp1) => match fb ls hp1 with
    | some (x, hp2) => match fc ls hp2 with
      | some (y, hp3) => match gSet x y v hp3 with
        | some hp4 => some (.nx, ls, hp4)
        | none => none
      | none => none
    | none => none
  | none => none) := rfl
@[simp] theorem mDef_s {n : Nat} {ds : List D} : mDef n f ds hp = (match f (stD n ds) hp with
  | some (.rt d, _, hp') => some (d, hp')
  | some (.nx, _, hp') => some (.non, hp')
  | _ => none) := rfl
@[simp] theorem gI_s {c : Int → Int → Bool} {g : Int → Int → D} {i j : Int} : gI c g (.int i) (.int j) hp = if c i j then some (g i j, hp) else none := rfl
@[simp] theorem gAdd_int {i j : Int} : gAdd (.int i) (.int j) hp = some (.int (i + j), hp) := rfl
@[simp] theorem gSub_int {i j : Int} : gSub (.int i) (.int j) hp = some (.int (i - j), hp) := rfl
theorem gMul_int {i j : Int} (h : cMul i j = true) : gMul (.int i) (.int j) hp = some (.int (i * j), hp) := by simp [gMul, h]
theorem gDiv_int {i j : Int} (h : cDiv i j = true) : gDiv (.int i) (.int j) hp = some (.int (i / j), hp) := by simp [gDiv, h]
theorem gMod_int {i j : Int} (h : 0 < j) : gMod (.int i) (.int j) hp = some (.int (i % j), hp) := by simp [gMod, h]
@[simp] theorem gLt_int {i j : Int} : gLt (.int i) (.int j) hp = some (.bl (decide (i < j)), hp) := rfl
@[simp] theorem gLe_int {i j : Int} : gLe (.int i) (.int j) hp = some (.bl (decide (i ≤ j)), hp) := rfl
@[simp] theorem gGt_int {i j : Int} : gGt (.int i) (.int j) hp = some (.bl (decide (j < i)), hp) := rfl
@[simp] theorem gGe_int {i j : Int} : gGe (.int i) (.int j) hp = some (.bl (decide (j ≤ i)), hp) := rfl
@[simp] theorem gNeg_int {i : Int} : gNeg (.int i) hp = some (.int (-i), hp) := rfl
theorem cMul_of {i j : Int} (h : (-(2 ^ 64) < i ∧ i < 2 ^ 64) ∨ (-(2 ^ 64) < j ∧ j < 2 ^ 64)) : cMul i j = true := decide_eq_true (.inl h)
theorem cDiv_of {i j : Int} (h : 0 < j ∧ j < 1073741824) : cDiv i j = true := decide_eq_true ⟨h.1, .inl h.2⟩
@[simp] theorem gEq_int {i j : Int} : gEq (.int i) (.int j) hp = some (.bl (i == j), hp) := rfl
@[simp] theorem gNe_int {i j : Int} : gNe (.int i) (.int j) hp = some (.bl (!(i == j)), hp) := rfl
end

def T (a : List Int) : D := .tup (a.map D.int)
theorem mapO_int {hp : Hd} {n : Nat} : ∀ a : List Int, mapO (pyF hp (n + 1)) (a.map D.int) = some (a.map PyData.int)
  | [] => rfl
  | x :: r => by
    rw [List.map_cons, mapO, mapO_int r]
    rfl
theorem pyF_T {hp : Hd} {n : Nat} (a : List Int) : pyF hp (n + 2) (T a) = some (.tuple (a.map PyData.int)) := by
  show (mapO (pyF hp (n + 1)) (a.map D.int)).map PyData.tuple = _
  rw [mapO_int]
  rfl
theorem mapO_T {hp : Hd} {n : Nat} : ∀ bs : List (List Int), mapO (pyF hp (n + 2)) (bs.map T) = some (bs.map fun b => .tuple (b.map PyData.int))
  | [] => rfl
  | x :: r => by
    rw [List.map_cons, mapO, mapO_T r, pyF_T]
    rfl
theorem canInts : ∀ a : List Int, PyData.canLayAll0 (a.map PyData.int) = true
  | [] => rfl
  | x :: r => by
    rw [List.map_cons, PyData.canLayAll0, canInts r]
    rfl
theorem depInts : ∀ a : List Int, PyData.depthAll (a.map PyData.int) = 0
  | [] => rfl
  | x :: r => by
    rw [List.map_cons, PyData.depthAll, depInts r]
    rfl
theorem shaped_T (a : List Int) : SeqAt.shaped (.tuple (a.map PyData.int)) = true := by
  unfold SeqAt.shaped
  rw [PyData.canLay0, canInts, PyData.depth, depInts]
  rfl
theorem canTs : ∀ bs : List (List Int), PyData.canLayAll0 (bs.map fun b => .tuple (b.map PyData.int)) = true
  | [] => rfl
  | x :: r => by
    rw [List.map_cons, PyData.canLayAll0, PyData.canLay0, canInts, canTs r]
    rfl
theorem depTs : ∀ bs : List (List Int), PyData.depthAll (bs.map fun b => .tuple (b.map PyData.int)) ≤ 1
  | [] => Nat.zero_le _
  | x :: r => by
    rw [List.map_cons, PyData.depthAll, PyData.depth, depInts]
    have := depTs r
    omega
theorem shaped_Ts (bs : List (List Int)) : SeqAt.shaped (.list (bs.map fun b => .tuple (b.map PyData.int))) = true := by
  unfold SeqAt.shaped
  rw [PyData.canLay0, canTs, PyData.depth]
  have := depTs bs
  simp
  omega
theorem shaped_tTs (bs : List (List Int)) : SeqAt.shaped (.tuple (bs.map fun b => .tuple (b.map PyData.int))) = true := by
  unfold SeqAt.shaped
  rw [PyData.canLay0, canTs, PyData.depth]
  have := depTs bs
  simp
  omega
theorem eqvInts : ∀ a b : List Int, PyData.eqvAll (a.map PyData.int) (b.map PyData.int) = (a == b)
  | [], [] => rfl
  | [], _ :: _ => rfl
  | _ :: _, [] => rfl
  | x :: r, y :: s => by
    rw [List.map_cons, List.map_cons, PyData.eqvAll, eqvInts r s]
    rfl
theorem eqv_T (a b : List Int) : PyData.eqv (.tuple (a.map PyData.int)) (.tuple (b.map PyData.int)) = (a == b) := by
  rw [PyData.eqv, eqvInts]
theorem eqvTs : ∀ a b : List (List Int), PyData.eqvAll (a.map fun b => .tuple (b.map PyData.int)) (b.map fun b => .tuple (b.map PyData.int)) = (a == b)
  | [], [] => rfl
  | [], _ :: _ => rfl
  | _ :: _, [] => rfl
  | x :: r, y :: s => by
    rw [List.map_cons, List.map_cons, PyData.eqvAll, eqvTs r s, eqv_T]
    rfl
theorem eqH_T {hp : Hd} (a b : List Int) : eqH hp (T a) (T b) = some (a == b) := by
  unfold eqH
  rw [pyF_T (n := 14), pyF_T (n := 14)]
  dsimp only
  rw [shaped_T, shaped_T, eqv_T]
  rfl
theorem gEq_T {hp : Hd} (a b : List Int) : gEq (T a) (T b) hp = some (.bl (a == b), hp) := by
  unfold gEq
  rw [eqH_T]
theorem gNe_T {hp : Hd} (a b : List Int) : gNe (T a) (T b) hp = some (.bl (!(a == b)), hp) := by
  unfold gNe
  rw [eqH_T]
theorem inL_T {hp : Hd} (a : List Int) (bs : List (List Int)) : inL hp (T a) (bs.map T) = some (bs.any fun b => b == a) := by
  unfold inL
  rw [pyF_T (n := 14), mapO_T (n := 13)]
  dsimp only
  rw [shaped_T, shaped_Ts]
  simp only [Bool.and_self, if_true, List.any_map, Option.some.injEq]
  congr 1
  funext b
  exact eqv_T b a
theorem pyF_ref {hp : Hd} {n k : Nat} {xs : List D} (h : hp[k]? = some (.lst xs)) : pyF hp (n + 1) (.ref k) = (mapO (pyF hp n) xs).map .list := by
  show (match hp[k]? with
    | some (.lst xs) => (mapO (pyF hp n) xs).map PyData.list
    | _ => none) = _
  rw [h]
theorem eqH_lists {hp : Hd} {n m : Nat} {as bs : List (List Int)} (h1 : hp[n]? = some (.lst (as.map T))) (h2 : hp[m]? = some (.lst (bs.map T))) : eqH hp (.ref n) (.ref m) = some (as == bs) := by
  unfold eqH
  have p1 : pyF hp 16 (.ref n) = some (.list (as.map fun b => .tuple (b.map PyData.int))) := by
    rw [pyF_ref (n := 15) h1, mapO_T (n := 13)]
    rfl
  have p2 : pyF hp 16 (.ref m) = some (.list (bs.map fun b => .tuple (b.map PyData.int))) := by
    rw [pyF_ref (n := 15) h2, mapO_T (n := 13)]
    rfl
  rw [p1, p2]
  dsimp only
  rw [shaped_Ts, shaped_Ts, PyData.eqv, eqvTs]
  rfl
theorem nr_T (a : List Int) : nr (T a) = true := by
  show D.alls _ (a.map D.int) = true
  induction a with
  | nil => rw [List.map_nil, D.alls]
  | cons x r ih => rw [List.map_cons, D.alls, ih]; rfl
theorem nrs_T : ∀ bs : List (List Int), nrs (bs.map T) = true
  | [] => rfl
  | x :: r => by
    show D.alls _ (T x :: r.map T) = true
    rw [D.alls, show D.all (fun _ => false) (T x) = true from nr_T x, show D.alls (fun _ => false) (r.map T) = true from nrs_T r]
    rfl
theorem lcGo_typed {α : Type} {t : Tg} {gd : Gd} {tt : AT} {te : AE} {ls0 : Ls} {hp : Hd} (φ : α → D) (hg : gdOk gd hp = true) (bf : α → Bool) (df : α → D) : ∀ (items : List α),
    (∀ x ∈ items, ∃ ls1, t.asg (φ x) ls0 = some ls1 ∧ tt ls1 hp = some (bf x, hp) ∧ (bf x = true → te ls1 hp = some (df x, hp))) → lcGo t gd tt te ls0 (items.map φ) hp = some ((items.filter bf).map df, hp)
  | [], _ => by simp [lcGo, hg]
  | x :: xs, h => by
    obtain ⟨ls1, e1, e2, e3⟩ := h x List.mem_cons_self
    have ih := lcGo_typed φ hg bf df xs fun y hy => h y (List.mem_cons_of_mem _ hy)
    cases hb : bf x with
    | true =>
      rw [hb] at e2
      simp only [List.map_cons, lcGo, hg, if_true, e1, e2, e3 hb, ih, List.filter_cons, hb, List.map_cons]
    | false =>
      rw [hb] at e2
      simp only [List.map_cons, lcGo, hg, if_true, e1, e2, ih, List.filter_cons, hb, Bool.false_eq_true, if_false]
theorem hget_new {hp : Hd} {o : O} : (hp ++ [o])[hp.length]? = some o := by simp
theorem hget_old {hp l : Hd} {n : Nat} {o : O} (h : hp[n]? = some o) : (hp ++ l)[n]? = some o := by
  rw [List.getElem?_append_left (List.getElem?_eq_some_iff.mp h).1]
  exact h
theorem hlt {hp : Hd} {n : Nat} {o : O} (h : hp[n]? = some o) : n < hp.length := (List.getElem?_eq_some_iff.mp h).1
theorem hset_same {hp : Hd} {n : Nat} {o o' : O} (h : hp[n]? = some o) : (hp.set n o')[n]? = some o' := List.getElem?_set_self (hlt h)
theorem hset_ne {hp : Hd} {n m : Nat} {o o' : O} (h : n ≠ m) (e : hp[m]? = some o) : (hp.set n o')[m]? = some o := by
  rw [List.getElem?_set_ne h]
  exact e
theorem mIS_ref {fa : AE} {ls : Ls} {hp hp' : Hd} {n : Nat} {xs : List D} (e : fa ls hp = some (.ref n, hp')) (h : hp'[n]? = some (.lst xs)) : mIS fa ls hp = some (xs, [(n, xs)], hp') := by
  unfold mIS
  rw [e]
  show (match (match hp'[n]? with
    | some (.lst xs) => some (xs, [(n, xs)])
    | _ => none) with
    | some (items, gd) => some (items, gd, hp')
    | none => none) = _
  rw [h]
theorem mIS_tup {fa : AE} {ls : Ls} {hp hp' : Hd} {xs : List D} (e : fa ls hp = some (.tup xs, hp')) : mIS fa ls hp = some (xs, [], hp') := by
  unfold mIS
  rw [e]
  rfl
theorem gdOk1 {hp : Hd} {n : Nat} {xs : List D} (h : hp[n]? = some (.lst xs)) : gdOk [(n, xs)] hp = true := by
  unfold gdOk gdOk
  rw [h]
  dsimp only
  rw [D.sames_self]
  rfl
theorem gIn_lst {hp : Hd} {n : Nat} {a : List Int} {bs : List (List Int)} (h : hp[n]? = some (.lst (bs.map T))) : gIn (T a) (.ref n) hp = some (.bl (bs.any fun b => b == a), hp) := by
  have e : inB (T a) (.ref n) hp = inL hp (T a) (bs.map T) := by
    show (match hp[n]? with
      | some (.lst ys) => inL hp (T a) ys
      | some o => match dicOf o with
        | some kvs => if dKind kvs (T a) = true then some (look kvs (T a)).isSome else none
        | none => none
      | none => none) = _
    rw [h]
  unfold gIn
  rw [e, inL_T]
theorem gNotIn_lst {hp : Hd} {n : Nat} {a : List Int} {bs : List (List Int)} (h : hp[n]? = some (.lst (bs.map T))) : gNotIn (T a) (.ref n) hp = some (.bl (!(bs.any fun b => b == a)), hp) := by
  have e : inB (T a) (.ref n) hp = inL hp (T a) (bs.map T) := by
    show (match hp[n]? with
      | some (.lst ys) => inL hp (T a) ys
      | some o => match dicOf o with
        | some kvs => if dKind kvs (T a) = true then some (look kvs (T a)).isSome else none
        | none => none
      | none => none) = _
    rw [h]
  unfold gNotIn
  rw [e, inL_T]
theorem mLc_typed {α : Type} {fi : AI} {t : Tg} {own : List Nat} {tt : AT} {te : AE} {ls : Ls} {hp hp1 : Hd} {gd : Gd} (φ : α → D) (items : List α) (bf : α → Bool) (df : α → D) (ei : fi ls hp = some (items.map φ, gd, hp1)) (hl : items.length ≤ sizeLine) (hg : gdOk gd hp1 = true)
    (h : ∀ x ∈ items, ∃ ls1, t.asg (φ x) (wipeL ls own) = some ls1 ∧ tt ls1 hp1 = some (bf x, hp1) ∧ (bf x = true → te ls1 hp1 = some (df x, hp1))) : mLc fi t own tt te ls hp = some ((items.filter bf).map df, hp1) := by
  unfold mLc
  rw [ei]
  dsimp only
  rw [if_pos (by rw [List.length_map]; exact hl), lcGo_typed φ hg bf df items h]
theorem mL_of {fl : AA} {g : List D → Hd → Option (D × Hd)} {ls : Ls} {hp hp' : Hd} {ds : List D} (e : fl ls hp = some (ds, hp')) : mL fl g ls hp = g ds hp' := by
  unfold mL
  rw [e]
theorem m2_of {fa fb : AE} {g : D → D → Hd → Option (D × Hd)} {ls : Ls} {hp hp1 hp2 : Hd} {a b : D} (e1 : fa ls hp = some (a, hp1)) (e2 : fb ls hp1 = some (b, hp2)) : m2 fa fb g ls hp = g a b hp2 := by
  rw [m2_s, e1]
  dsimp only
  rw [e2]
theorem mT_of {fa : AE} {ls : Ls} {hp hp' : Hd} {b : Bool} (e : fa ls hp = some (.bl b, hp')) : mT fa ls hp = some (b, hp') := by
  rw [mT_s, e]
theorem gTup_T {a : List Int} {hp : Hd} : gTup (a.map D.int) hp = some (T a, hp) := rfl
theorem sSeq_of {f g : AS} {ls ls1 : Ls} {hp hp1 : Hd} {r : Option (Fl × Ls × Hd)} (e : f ls hp = some (.nx, ls1, hp1)) (e2 : g ls1 hp1 = r) : sSeq f g ls hp = r := by
  rw [sSeq_s, e]
  exact e2
theorem sSet_of {i : Nat} {fa : AE} {ls : Ls} {hp hp1 : Hd} {d : D} (e : fa ls hp = some (d, hp1)) : sSet i fa ls hp = some (.nx, ls.set i (some d), hp1) := by
  rw [sSet_s, e]
theorem sIf_t {ft : AT} {f g : AS} {ls : Ls} {hp hp1 : Hd} {r : Option (Fl × Ls × Hd)} (e : ft ls hp = some (true, hp1)) (e2 : f ls hp1 = r) : sIf ft f g ls hp = r := by
  rw [sIf_s, e]
  exact e2
theorem sIf_f {ft : AT} {f g : AS} {ls : Ls} {hp hp1 : Hd} {r : Option (Fl × Ls × Hd)} (e : ft ls hp = some (false, hp1)) (e2 : g ls hp1 = r) : sIf ft f g ls hp = r := by
  rw [sIf_s, e]
  exact e2
theorem mNew_of {fl : AA} {ls : Ls} {hp hp' : Hd} {ds : List D} (e : fl ls hp = some (ds, hp')) : mNew fl ls hp = some (.ref hp'.length, hp' ++ [.lst ds]) := by
  rw [mNew_s, e]
theorem gLen_lst {hp : Hd} {n : Nat} {xs : List D} (h : hp[n]? = some (.lst xs)) : gLen [.ref n] hp = some (.int xs.length, hp) := by
  show (match hp[n]? with
    | some (.lst ds) => some (D.int ds.length, hp)
    | some (.dic ds) => some (D.int ds.length, hp)
    | _ => none) = _
  rw [h]
end Ve
namespace Lw
open PySem PySem.Spec L2 Ve
def k_DIRECTIONS : D := (.int (6))

def b_L_hand : AS :=
    (sSeq (sSet 2 (mC (.int 0)))
    (sSeq (sIf (mT (m2 (mVar 1) (mAs (mCons (mVar 0) mNil) gLen) gLt)) (sSet 2 (m2 (mVar 0) (mVar 1) gIx)) sNext)
    (sRet (mNew (mLst (mCons (m2 (mVar 2) (mAs (mCons (m2 (mVar 2) (m2 (mC (.int 10)) (mC (.int 18)) gPow) gGe) mNil) gInt) gMul) (mCons (m2 (m2 (m2 (mVar 2) (mC (.int 2305843009213693951)) gMod) (m2 (mC (.int 7919)) (mVar 1) gMul) gAdd) (mC (.int 3)) gAdd) (mCons (mC (.int 0)) mNil))))))))
def m_L_hand : List D → Hd → Option (D × Hd) := mDef 3 b_L_hand

def c_L_hand := cN m_L_hand
theorem con_L_hand : Cl c_L_hand m_L_hand := cl_cN _
def b_L_take : AS :=
    (sSeq (sIf (mT (m2 (m2 (mVar 0) (mC (.int 0)) gIx) (mC (.int 0)) gGt)) (sSeq (sSet 2 (m2 (m2 (mVar 0) (mC (.int 0)) gIx) (mVar 1) gMod))
    (sSeq (sStore (m2 (m2 (mVar 0) (mC (.int 0)) gIx) (mVar 1) gDiv) (mVar 0) (mC (.int 0)))
    (sRet (mVar 2)))) sNext)
    (sSeq (sStore (m2 (m2 (mVar 0) (mC (.int 2)) gIx) (mC (.int 1)) gAdd) (mVar 0) (mC (.int 2)))
    (sSeq (sSet 3 (m2 (mVar 0) (mC (.int 2)) gIx))
    (sSeq (sSet 4 (m2 (m2 (m2 (mVar 0) (mC (.int 1)) gIx) (m2 (m2 (mC (.int 48271)) (m2 (m2 (mC (.int 2)) (mVar 3) gMul) (mVar 3) gMul) gAdd) (m2 (mC (.int 65537)) (mVar 3) gMul) gAdd) gMul) (mC (.int 2305843009213693921)) gMod))
    (sSeq (sSet 5 (m2 (m2 (m2 (mVar 4) (mC (.int 1000003)) gMod) (m2 (mVar 3) (mC (.int 99991)) gMul) gAdd) (mC (.int 11)) gAdd))
    (sSeq (sSet 4 (m2 (m2 (mVar 4) (mVar 5) gMul) (mC (.int 2305843009213693907)) gMod))
    (sRet (m2 (m2 (m2 (mVar 4) (mC (.int 97)) gDiv) (m2 (mVar 4) (mC (.int 1000033)) gDiv) gAdd) (mVar 1) gMod))))))))
def m_L_take : List D → Hd → Option (D × Hd) := mDef 6 b_L_take

def c_L_take := c1V m_L_take
theorem con_L_take : Cl c_L_take m_L_take := cl_c1V _
def Hand (T : Nat) (o : O) : Prop := ∃ a b t : Int, o = .lst [.int a, .int b, .int t] ∧ 0 ≤ a ∧ 0 ≤ b ∧ b < 2 ^ 62 ∧ 0 ≤ t ∧ t ≤ T
theorem Hand.mono {T T' : Nat} {o : O} (h : Hand T o) (hT : T ≤ T') : Hand T' o := by
  obtain ⟨a, b, t, e, h1, h2, h3, h4, h5⟩ := h
  exact ⟨a, b, t, e, h1, h2, h3, h4, by omega⟩
theorem Hand.nr {T : Nat} {o : O} (h : Hand T o) : nrO o = true := by
  obtain ⟨a, b, t, rfl, _⟩ := h
  rfl
theorem hand_ok (ns : List Int) (k : Nat) (hk : k < 100) (hp : Hd) : ∃ o, c_L_hand [.scr ns, .int k] hp = some (.ref hp.length, hp ++ [o]) ∧ Hand 0 o := by
  have key : ∀ cell : Int, ∃ a b : Int, 0 ≤ a ∧ 0 ≤ b ∧ b < 2 ^ 62 ∧ a = cell * (if decide ((10 : Int) ^ 18 ≤ cell) = true then 1 else 0) ∧ b = cell % 2305843009213693951 + 7919 * k + 3 := by
    intro cell
    have h1 := Int.emod_nonneg cell (show (2305843009213693951 : Int) ≠ 0 by decide)
    have h2 := Int.emod_lt_of_pos cell (show (0 : Int) < 2305843009213693951 by decide)
    refine ⟨_, _, ?_, ?_, ?_, rfl, rfl⟩
    · split
      · rename_i h
        have := of_decide_eq_true h
        omega
      · omega
    · omega
    · omega
  have run : ∃ o g, m_L_hand [.scr ns, .int k] [] = some (.ref 0, o :: g) ∧ Hand 0 o := by
    by_cases hl : (k : Int) < (ns.length : Int)
    · have hk2 : k < ns.length := by omega
      obtain ⟨a, b, h1, h2, h3, ea, eb⟩ := key ns[k]
      refine ⟨.lst [.int a, .int b, .int 0], [], ?_, a, b, 0, rfl, h1, h2, h3, by omega, by omega⟩
      have hix : atI ns (k : Int) = some ns[k] := atI_nat (List.getElem?_eq_getElem hk2)
      have hb : decide ((k : Int) < (ns.length : Int)) = true := decide_eq_true hl
      have c1 : cMul ns[k] (if decide ((10 : Int) ^ 18 ≤ ns[k]) = true then 1 else 0) = true := cMul_of (.inr (by split <;> omega))
      have c2 : cMul 7919 (k : Int) = true := cMul_of (.inl (by omega))
      rw [ea, eb]
      simp [m_L_hand, b_L_hand, stD, hk2, gIx, hix, gLen, gPow, cPow, gInt, gMul_int, gMod_int, c1, c2, sizeLine_eq] at c1 c2 ⊢
      simp [gMul_int c1]
    · obtain ⟨a, b, h1, h2, h3, ea, eb⟩ := key 0
      refine ⟨.lst [.int a, .int b, .int 0], [], ?_, a, b, 0, rfl, h1, h2, h3, by omega, by omega⟩
      have hb : decide ((k : Int) < (ns.length : Int)) = false := decide_eq_false hl
      have c1 : cMul 0 (if decide ((10 : Int) ^ 18 ≤ 0) = true then 1 else 0) = true := by decide
      have c2 : cMul 7919 (k : Int) = true := cMul_of (.inl (by omega))
      rw [ea, eb]
      simp [m_L_hand, b_L_hand, stD, show ¬ k < ns.length by omega, gIx, gLen, gPow, cPow, gInt, gMul_int, gMod_int, c1, c2, sizeLine_eq] at c1 c2 ⊢
      simp [gMul_int c1]
  obtain ⟨o, g, e, ho⟩ := run
  refine ⟨o, ?_, ho⟩
  simp [c_L_hand, cN, nrs, D.alls, D.all, e, ho.nr]

theorem take_run (T : Nat) (hT : T < 1000000) (o : O) (h : Hand T o) (many : Int) (h1 : 0 < many) (h2 : many < 1073741824) : ∃ r o' g, m_L_take [.ref 0, .int many] [o] = some (.int r, o' :: g) ∧ 0 ≤ r ∧ r < many ∧ Hand (T + 1) o' := by
  obtain ⟨a, b, t, rfl, ha, hb, hb2, ht, ht2⟩ := h
  have cd : cDiv a many = true := cDiv_of ⟨h1, h2⟩
  by_cases hz : 0 < a
  · refine ⟨a % many, .lst [.int (a / many), .int b, .int t], [], ?_, Int.emod_nonneg _ (by omega), Int.emod_lt_of_pos _ h1, a / many, b, t, rfl, Int.ediv_nonneg ha (by omega), hb, hb2, ht, by omega⟩
    simp [m_L_take, b_L_take, stD, gIx, atI, ixN, hz, gMod_int h1, gDiv_int cd, gSet]
  · have q1 : cMul 2 (t + 1) = true := cMul_of (.inl (by omega))
    have q2 : cMul (2 * (t + 1)) (t + 1) = true := cMul_of (.inl (by omega))
    have q3 : cMul 65537 (t + 1) = true := cMul_of (.inl (by omega))
    have q4 : cMul b (48271 + 2 * (t + 1) * (t + 1) + 65537 * (t + 1)) = true := cMul_of (.inl (by omega))
    have q5 : cMul (t + 1) 99991 = true := cMul_of (.inl (by omega))
    let mx := b * (48271 + 2 * (t + 1) * (t + 1) + 65537 * (t + 1)) % 2305843009213693921
    have hm1 : 0 ≤ mx := Int.emod_nonneg _ (by decide)
    have hm2 : mx < 2305843009213693921 := Int.emod_lt_of_pos _ (by decide)
    let ot := mx % 1000003 + (t + 1) * 99991 + 11
    have q6 : cMul mx ot = true := cMul_of (.inl (by omega))
    let m2' := mx * ot % 2305843009213693907
    have hn1 : 0 ≤ m2' := Int.emod_nonneg _ (by decide)
    have d1 : cDiv m2' 97 = true := cDiv_of (by omega)
    have d2 : cDiv m2' 1000033 = true := cDiv_of (by omega)
    refine ⟨(m2' / 97 + m2' / 1000033) % many, .lst [.int a, .int b, .int (t + 1)], [], ?_, Int.emod_nonneg _ (by omega), Int.emod_lt_of_pos _ h1, a, b, t + 1, rfl, ha, hb, hb2, by omega, by omega⟩
    simp only [mx, ot, m2'] at q6 d1 d2 ⊢
    simp [m_L_take, b_L_take, stD, gIx, atI, ixN, hz, gMod_int h1, gMod_int, gMul_int q1, gMul_int q2, gMul_int q3, gMul_int q4, gMul_int q5, gMul_int q6, gDiv_int d1, gDiv_int d2, gSet]
theorem take_ok (T : Nat) (hT : T < 1000000) (hp : Hd) (n : Nat) (o : O) (e : hp[n]? = some o) (h : Hand T o) (many : Int) (h1 : 0 < many) (h2 : many < 1073741824) :
    ∃ r o', c_L_take [.ref n, .int many] hp = some (.int r, hp.set n o') ∧ 0 ≤ r ∧ r < many ∧ Hand (T + 1) o' := by
  obtain ⟨r, o', g, e1, e2, e3, h'⟩ := take_run T hT o h many h1 h2
  refine ⟨r, o', ?_, e2, e3, h'⟩
  simp [c_L_take, c1V, e, nrs, D.alls, D.all, h.nr, h'.nr, e1]
def b_L_pick : AS :=
    (sRet (m2 (mVar 1) (mAs (mCons (mVar 0) (mCons (mAs (mCons (mVar 1) mNil) gLen) mNil)) (ar 2 c_L_take)) gIx))
def m_L_pick : List D → Hd → Option (D × Hd) := mDef 2 b_L_pick
abbrev c_L_pick := m_L_pick

theorem pick_ok (T : Nat) (hT : T < 1000000) (hp : Hd) (n s : Nat) (hns : n ≠ s) (o : O) (e : hp[n]? = some o) (h : Hand T o) (xs : List D) (es : hp[s]? = some (.lst xs)) (h0 : xs ≠ []) (h1 : xs.length < 1073741824) :
    ∃ (i : Nat) (hi : i < xs.length) (o' : O), c_L_pick [.ref n, .ref s] hp = some (xs[i], hp.set n o') ∧ Hand (T + 1) o' := by
  have hl : 0 < xs.length := List.length_pos_iff.mpr h0
  obtain ⟨r, o', e1, e2, e3, h'⟩ := take_ok T hT hp n o e h (xs.length : Int) (by omega) (by omega)
  have hr : r.toNat < xs.length := by omega
  refine ⟨r.toNat, hr, o', ?_, h'⟩
  have hix : atI xs r = some xs[r.toNat] := by
    have := atI_nat (xs := xs) (j := r.toNat) (List.getElem?_eq_getElem hr)
    rwa [Int.toNat_of_nonneg e2] at this
  simp [c_L_pick, m_L_pick, b_L_pick, stD, gLen, es, e1, gIx, List.getElem?_set_ne hns, hix]

def b_third_direction : AS :=
    (sSeq (sSet 2 (m2 (m2 (mC (.int 3)) (m2 (mVar 0) (mC (.int 2)) gDiv) gSub) (m2 (mVar 1) (mC (.int 2)) gDiv) gSub))
    (sSeq (sSet 3 (m2 (m2 (m2 (m2 (mVar 0) (mC (.int 2)) gDiv) (mC (.int 1)) gAdd) (mC (.int 3)) gMod) (m2 (mVar 1) (mC (.int 2)) gDiv) gNe))
    (sSeq (sSet 4 (m2 (m2 (m2 (mVar 0) (mC (.int 2)) gMod) (m2 (mVar 1) (mC (.int 2)) gMod) gAdd) (mAs (mCons (mVar 3) mNil) gInt) gAdd))
    (sRet (m2 (m2 (mC (.int 2)) (mVar 2) gMul) (m2 (mVar 4) (mC (.int 2)) gMod) gAdd)))))
def m_third_direction : List D → Hd → Option (D × Hd) := mDef 5 b_third_direction

def c_third_direction := cV m_third_direction
theorem con_third_direction : Cl c_third_direction m_third_direction := cl_cV _
def B1_spins : AS :=
    (sIf (mT (m2 (m2 (mVar 1) (mC (.int 2)) gDiv) (m2 (mVar 2) (mC (.int 2)) gDiv) gNe)) (sDrop (mMet isL (mVar 0) (mCons (mTup (mCons (mVar 1) (mCons (mVar 2) (mCons (mAs (mCons (mVar 1) (mCons (mVar 2) mNil)) (ar 2 c_third_direction)) mNil)))) mNil) gAppend)) sNext)
def B2_spins : AS :=
    (sForI (mR1 (mCons (mC k_DIRECTIONS) mNil)) (.nm 2) B1_spins)
def b_spins : AS :=
    (sSeq (sSet 0 (mNew (mLst mNil)))
    (sSeq (sForI (mR1 (mCons (mC k_DIRECTIONS) mNil)) (.nm 1) B2_spins)
    (sRet (mVar 0))))
def m_spins : List D → Hd → Option (D × Hd) := mDef 3 b_spins

def c_spins := cN m_spins
theorem con_spins : Cl c_spins m_spins := cl_cN _
def b_L_third : AS :=
    (sSeq (sSet 2 (m2 (mC (.int 2)) (m2 (m2 (mC (.int 3)) (m2 (mVar 0) (mC (.int 2)) gDiv) gSub) (m2 (mVar 1) (mC (.int 2)) gDiv) gSub) gMul))
    (sSeq (sSet 3 (m2 (m2 (m2 (mVar 0) (mC (.int 2)) gMod) (m2 (mVar 1) (mC (.int 2)) gMod) gAdd) (mC (.int 2)) gMod))
    (sSeq (sIf (mT (m2L (mTup (mCons (m2 (mVar 0) (mC (.int 2)) gDiv) (mCons (m2 (mVar 1) (mC (.int 2)) gDiv) mNil))) (mLst (mCons (mTup (mCons (mC (.int 1)) (mCons (mC (.int 0)) mNil))) (mCons (mTup (mCons (mC (.int 2)) (mCons (mC (.int 1)) mNil))) (mCons (mTup (mCons (mC (.int 0)) (mCons (mC (.int 2)) mNil))) mNil)))) (gInL false))) (sSet 3 (m2 (mC (.int 1)) (mVar 3) gSub)) sNext)
    (sRet (m2 (mVar 2) (mVar 3) gAdd)))))
def m_L_third : List D → Hd → Option (D × Hd) := mDef 4 b_L_third

def c_L_third := cV m_L_third
theorem con_L_third : Cl c_L_third m_L_third := cl_cV _
def B1_L_all : AS :=
    (sDrop (mExt (mVar 0) (mLc (mR1 (mCons (mC (.int 6)) mNil)) (.nm 2) [2] (mT (m2 (m2 (mVar 2) (mC (.int 2)) gDiv) (m2 (mVar 1) (mC (.int 2)) gDiv) gNe)) (mTup (mCons (mVar 1) (mCons (mVar 2) (mCons (mAs (mCons (mVar 1) (mCons (mVar 2) mNil)) (ar 2 c_L_third)) mNil)))))))
def b_L_all : AS :=
    (sSeq (sSet 0 (mNew (mLst mNil)))
    (sSeq (sForI (mR1 (mCons (mC (.int 6)) mNil)) (.nm 1) B1_L_all)
    (sRet (mVar 0))))
def m_L_all : List D → Hd → Option (D × Hd) := mDef 3 b_L_all

def c_L_all := cN m_L_all
theorem con_L_all : Cl c_L_all m_L_all := cl_cN _
def b_L_goes : AS :=
    (sSeq (sSet 2 (m2 (mVar 0) (m2 (mVar 1) (mC (.int 2)) gDiv) gIx))
    (sRet (m2 (mNew (mLst (mCons (mVar 2) (mCons (m2 (mNew (mLst (mCons (mC (.int 1)) (mCons (mC (.int 0)) (mCons (mC (.int 3)) (mCons (mC (.int 2)) (mCons (mC (.int 5)) (mCons (mC (.int 4)) mNil)))))))) (mVar 2) gIx) mNil)))) (m2 (mVar 1) (mC (.int 2)) gMod) gIx)))
def m_L_goes : List D → Hd → Option (D × Hd) := mDef 3 b_L_goes

def c_L_goes := cV m_L_goes
theorem con_L_goes : Cl c_L_goes m_L_goes := cl_cV _
def SP : List (List Int) := [[0, 2, 4], [0, 3, 5], [0, 4, 3], [0, 5, 2], [1, 2, 5], [1, 3, 4], [1, 4, 2], [1, 5, 3], [2, 0, 5], [2, 1, 4], [2, 4, 0], [2, 5, 1], [3, 0, 4], [3, 1, 5], [3, 4, 1], [3, 5, 0], [4, 0, 2], [4, 1, 3], [4, 2, 1], [4, 3, 0], [5, 0, 3], [5, 1, 2], [5, 2, 0], [5, 3, 1]]
theorem spins_ok (hp : Hd) : c_spins [] hp = some (.ref hp.length, hp ++ [.lst (SP.map T)]) := rfl
theorem all_ok (hp : Hd) : c_L_all [] hp = some (.ref hp.length, hp ++ [.lst (SP.map T)]) := rfl
def gz (x : List Int) (d : Int) : Int := if d % 2 = 0 then x.getD (d / 2).toNat 0 else x.getD (d / 2).toNat 0 + 1 - 2 * (x.getD (d / 2).toNat 0 % 2)
def gzOk (x : List Int) (d : Int) : Bool := match m_L_goes [T x, .int d] [] with
  | some (.int r, _) => r == gz x d
  | _ => false
theorem gz_all : (SP.all fun x => [0, 1, 2, 3, 4, 5].all fun d => gzOk x d) = true := by decide +kernel
theorem goes_ok (hp : Hd) (x : List Int) (hx : x ∈ SP) (d : Int) (hd : d ∈ [0, 1, 2, 3, 4, 5]) : c_L_goes [T x, .int d] hp = some (.int (gz x d), hp) := by
  have h := gz_all
  rw [List.all_eq_true] at h
  have h2 := h x hx
  rw [List.all_eq_true] at h2
  have h3 := h2 d hd
  unfold gzOk at h3
  split at h3
  · rename_i r g e
    have hr : r = gz x d := by simpa using h3
    subst hr
    have hn : nrs [T x, .int d] = true := by
      show D.alls _ [T x, .int d] = true
      rw [D.alls, show D.all (fun _ => false) (T x) = true from nr_T x]
      rfl
    unfold c_L_goes cV
    rw [if_pos hn, e]
    rfl
  · cases h3
theorem spIn : (SP.all fun x => x.all fun d => [0, 1, 2, 3, 4, 5].contains d) = true := by decide +kernel
theorem spMem {x : List Int} (hx : x ∈ SP) {d : Int} (hd : d ∈ x) : d ∈ [0, 1, 2, 3, 4, 5] := by
  have h := spIn
  rw [List.all_eq_true] at h
  have h2 := h x hx
  rw [List.all_eq_true] at h2
  have h3 := h2 d hd
  simpa using h3
def B1_law : AS :=
    (sSeq (sSet 4 (mAs (mCons (mVar 0) (mCons (mVar 3) mNil)) (ar 2 c_L_hand)))
    (sSeq (sAsg (.tp ((.nm 5) :: ((.nm 6) :: []))) (mTup (mCons (mAs (mCons (mVar 4) (mCons (mVar 2) mNil)) (ar 2 c_L_pick)) (mCons (mAs (mCons (mVar 4) (mCons (mVar 2) mNil)) (ar 2 c_L_pick)) mNil))))
    (sSeq (sSet 7 (mL (mLc (mIS (mVar 5)) (.nm 10) [10] tYesD (mAs (mCons (mVar 6) (mCons (mVar 10) mNil)) (ar 2 c_L_goes))) gTup))
    (sSeq (sIf (mT (m2 (mVar 7) (mVar 2) gNotIn)) (sRet (mC (.bl false))) sNext)
    (sSeq (sSet 8 (mNew (mLc (mIS (mVar 2)) (.nm 9) [9] (mT (m2 (mL (mLc (mIS (mVar 5)) (.nm 10) [10] tYesD (mAs (mCons (mVar 9) (mCons (mVar 10) mNil)) (ar 2 c_L_goes))) gTup) (mTup (mCons (mC (.int 0)) (mCons (mC (.int 2)) (mCons (mC (.int 4)) mNil)))) gEq)) (mVar 9))))
    (sIf (mT (m2 (mAs (mCons (mVar 8) mNil) gLen) (mC (.int 1)) gNe)) (sRet (mC (.bl false))) sNext))))))
def b_law : AS :=
    (sSeq (sSet 1 (mAs mNil (ar 0 c_L_all)))
    (sSeq (sSet 2 (mAs mNil (ar 0 c_spins)))
    (sSeq (sIf (mOr (mNot (mT (mIsi "list" (mVar 2)))) (mOr (mT (m2 (mVar 2) (mVar 1) gNe)) (mNot (mT (mL (mLc (mIS (mVar 2)) (.nm 5) [5] tYesD (mIsi "tuple" (mVar 5))) gAll))))) (sRet (mC (.bl false))) sNext)
    (sSeq (sDrop (mMet isL (mVar 2) mNil gPop))
    (sSeq (sSet 2 (mAs mNil (ar 0 c_spins)))
    (sSeq (sIf (mT (m2 (mVar 2) (mVar 1) gNe)) (sRet (mC (.bl false))) sNext)
    (sSeq (sForI (mR1 (mCons (mAs (mCons (mC (.int 2)) (mCons (mAs (mCons (mC (.int 30)) (mCons (mAs (mCons (mVar 0) mNil) gLen) mNil)) gMin2) mNil)) gMax2) mNil)) (.nm 3) B1_law)
    (sRet (mC (.bl true))))))))))
def m_law : List D → Hd → Option (D × Hd) := mDef 11 b_law
abbrev c_law := m_law

def bth (y x : List Int) : List Int := x.map (gz y)
theorem fin1 : (SP.all fun x => SP.all fun y => SP.any fun b => b == bth y x) = true := by decide +kernel
theorem fin2 : (SP.all fun x => (SP.filter fun s => bth s x == [0, 2, 4]).length == 1) = true := by decide +kernel
theorem comp_ok (ls : Ls) (hp : Hd) (i j : Nat) (x y : List Int) (hx : x ∈ SP) (hy : y ∈ SP) (ei : ls[i]? = some (some (T x))) (ej : ls[j]? = some (some (T y))) (hj : j ≠ 10) (h10 : 10 < ls.length) :
    mLc (mIS (mVar i)) (.nm 10) [10] tYesD (mAs (mCons (mVar j) (mCons (mVar 10) mNil)) (ar 2 c_L_goes)) ls hp = some ((bth y x).map D.int, hp) := by
  have hit : mIS (mVar i) ls hp = some (x.map D.int, [], hp) := by
    unfold mIS
    rw [mVar_s, ei]
    rfl
  unfold mLc
  rw [hit]
  have hlen : (x.map D.int).length ≤ sizeLine := by
    have : (SP.all fun x => decide (x.length ≤ 3)) = true := by decide +kernel
    rw [List.all_eq_true] at this
    have := of_decide_eq_true (this x hx)
    rw [List.length_map, sizeLine_eq]
    omega
  dsimp only
  rw [if_pos hlen, lcGo_typed D.int (gd := []) rfl (fun _ => true) (fun k => .int (gz y k))]
  · rw [List.filter_eq_self.mpr fun _ _ => rfl]
    unfold bth
    rw [List.map_map]
    rfl
  · intro k hk
    refine ⟨_, rfl, rfl, fun _ => ?_⟩
    have e1 : ((wipeL ls [10]).set 10 (some (D.int k)))[j]? = some (some (T y)) := by
      rw [List.getElem?_set_ne (Ne.symm hj)]
      show ((ls.set 10 none))[j]? = _
      rw [List.getElem?_set_ne (Ne.symm hj), ej]
    have e2 : ((wipeL ls [10]).set 10 (some (D.int k)))[10]? = some (some (D.int k)) := by
      rw [List.getElem?_set_self]
      rw [wipeL_length]
      exact h10
    rw [mAs_s, mCons_s, mVar_s, e1]
    dsimp only
    rw [mCons_s, mVar_s, e2]
    dsimp only
    rw [mNil_s]
    dsimp only
    rw [ar_s, if_pos (show [T y, D.int k].length = 2 from rfl), goes_ok hp y hy k (spMem hx hk)]
theorem turn (ns : List Int) (k : Nat) (hk : k < 100) (x4' x5' x6' x7' x8' x9' x10' : Option D) (hp : Hd) (h2 : hp[2]? = some (.lst (SP.map T))) :
    ∃ x4 x5 x6 x7 x8 x9 x10 hp', B1_law [some (.scr ns), some (.ref 0), some (.ref 2), some (.int k), x4', x5', x6', x7', x8', x9', x10'] hp = some (.nx, [some (.scr ns), some (.ref 0), some (.ref 2), some (.int k), x4, x5, x6, x7, x8, x9, x10], hp') ∧ hp'[2]? = some (.lst (SP.map T)) := by
  have hn2 : hp.length ≠ 2 := by
    have := hlt h2
    omega
  obtain ⟨o, e1, ho⟩ := hand_ok ns k hk hp
  have g1 : (hp ++ [o])[2]? = some (.lst (SP.map T)) := hget_old h2
  obtain ⟨i, hi, o1, e2, ho1⟩ := pick_ok 0 (by decide) (hp ++ [o]) hp.length 2 hn2 o hget_new ho (SP.map T) g1 (by decide) (by decide)
  have g2 : ((hp ++ [o]).set hp.length o1)[2]? = some (.lst (SP.map T)) := hset_ne hn2 g1
  obtain ⟨j, hj, o2, e3, ho2⟩ := pick_ok 1 (by decide) ((hp ++ [o]).set hp.length o1) hp.length 2 hn2 o1 (hset_same hget_new) ho1 (SP.map T) g2 (by decide) (by decide)
  have g3 : (((hp ++ [o]).set hp.length o1).set hp.length o2)[2]? = some (.lst (SP.map T)) := hset_ne hn2 g2
  generalize ((hp ++ [o]).set hp.length o1).set hp.length o2 = hp3 at e3 g3
  rw [List.getElem_map] at e2 e3
  have hx : SP[i]'(by simpa using hi) ∈ SP := List.getElem_mem _
  have hy : SP[j]'(by simpa using hj) ∈ SP := List.getElem_mem _
  generalize SP[i]'(by simpa using hi) = x at e2 hx
  generalize SP[j]'(by simpa using hj) = y at e3 hy
  have f1 : (SP.any fun b => b == bth y x) = true := by
    have h := fin1
    rw [List.all_eq_true] at h
    have h2 := h x hx
    rw [List.all_eq_true] at h2
    exact h2 y hy
  have f2 : (SP.filter fun s => bth s x == [0, 2, 4]).length = 1 := by
    have h := fin2
    rw [List.all_eq_true] at h
    simpa using h x hx
  have c1 := comp_ok [some (.scr ns), some (.ref 0), some (.ref 2), some (.int k), some (.ref hp.length), some (T x), some (T y), x7', x8', x9', x10'] hp3 5 6 x y hx hy rfl rfl (by decide) (by simp)
  have n1 : gNotIn (T (bth y x)) (.ref 2) hp3 = some (.bl false, hp3) := by
    rw [gNotIn_lst g3, f1]
    rfl
  have c2 : mLc (mIS (mVar 2)) (.nm 9) [9] (mT (m2 (mL (mLc (mIS (mVar 5)) (.nm 10) [10] tYesD (mAs (mCons (mVar 9) (mCons (mVar 10) mNil)) (ar 2 c_L_goes))) gTup) (mTup (mCons (mC (.int 0)) (mCons (mC (.int 2)) (mCons (mC (.int 4)) mNil)))) gEq)) (mVar 9)
      [some (.scr ns), some (.ref 0), some (.ref 2), some (.int k), some (.ref hp.length), some (T x), some (T y), some (T (bth y x)), x8', x9', x10'] hp3 = some ((SP.filter fun s => bth s x == [0, 2, 4]).map T, hp3) := by
    refine mLc_typed T SP (fun s => bth s x == [0, 2, 4]) T (mIS_ref (n := 2) rfl g3) (by decide) (gdOk1 g3) fun s hs => ⟨_, rfl, ?_, fun _ => rfl⟩
    have c3 := comp_ok [some (.scr ns), some (.ref 0), some (.ref 2), some (.int k), some (.ref hp.length), some (T x), some (T y), some (T (bth y x)), x8', some (T s), x10'] hp3 5 9 x s hx hs rfl rfl (by decide) (by simp)
    refine mT_of ?_
    refine Eq.trans (m2_of (b := T [0, 2, 4]) (hp2 := hp3) ((mL_of c3).trans gTup_T) ?_) (gEq_T _ _)
    rfl
  have hl3 : (hp3 ++ [O.lst ((SP.filter fun s => bth s x == [0, 2, 4]).map T)])[hp3.length]? = some (.lst ((SP.filter fun s => bth s x == [0, 2, 4]).map T)) := hget_new
  refine ⟨some (.ref hp.length), some (T x), some (T y), some (T (bth y x)), some (.ref hp3.length), x9', x10', hp3 ++ [.lst ((SP.filter fun s => bth s x == [0, 2, 4]).map T)], ?_, hget_old g3⟩
  unfold B1_law
  refine sSeq_of (sSet_of (d := .ref hp.length) (hp1 := hp ++ [o]) ?_) ?_
  · exact e1
  refine sSeq_of (ls1 := [some (.scr ns), some (.ref 0), some (.ref 2), some (.int k), some (.ref hp.length), some (T x), some (T y), x7', x8', x9', x10']) (hp1 := hp3) ?_ ?_
  · simp only [sAsg_s, mTup_s, mAs_s, mCons_s, mVar_s, mNil_s, ar_s, List.getElem?_cons_zero, List.getElem?_cons_succ, List.length_cons, List.length_nil, if_true, e2, e3, Tg.asg, Tg.asgs, List.set_cons_succ, List.set_cons_zero]
    rfl
  refine sSeq_of (sSet_of ((mL_of c1).trans gTup_T)) ?_
  refine sSeq_of (sIf_f (mT_of (m2_of rfl rfl |>.trans n1)) rfl) ?_
  refine sSeq_of (sSet_of (mNew_of c2)) ?_
  refine sIf_f (mT_of (m2_of (a := .int 1) (b := .int 1) ?_ rfl)) rfl
  show gLen [.ref hp3.length] _ = _
  rw [gLen_lst hl3, List.length_map, f2]
  rfl
theorem law_pure (ns : List Int) (h : ns.length ≤ 63) : ∃ hp', m_law [.scr ns] [] = some (.bl true, hp') := by
  let H0 : Hd := [.lst (SP.map T), .lst (SP.map T).dropLast, .lst (SP.map T)]
  have hN : ∃ N : Nat, N < 100 ∧ (mR1 (mCons (mAs (mCons (mC (.int 2)) (mCons (mAs (mCons (mC (.int 30)) (mCons (mAs (mCons (mVar 0) mNil) gLen) mNil)) gMin2) mNil)) gMax2) mNil))
      [some (.scr ns), some (.ref 0), some (.ref 2), none, none, none, none, none, none, none, none] H0 = some ((List.range N).map fun i => D.int (i : Nat), [], H0) := by
    let j : Int := if (if (ns.length : Int) < 30 then (ns.length : Int) else 30) > 2 then (if (ns.length : Int) < 30 then (ns.length : Int) else 30) else 2
    have hj : 0 ≤ j ∧ j < 100 := by
      simp only [j]
      split <;> split <;> omega
    refine ⟨j.toNat, by omega, ?_⟩
    have e : (mCons (mAs (mCons (mC (.int 2)) (mCons (mAs (mCons (mC (.int 30)) (mCons (mAs (mCons (mVar 0) mNil) gLen) mNil)) gMin2) mNil)) gMax2) mNil)
      [some (.scr ns), some (.ref 0), some (.ref 2), none, none, none, none, none, none, none, none] H0 = some ([.int j], H0) := rfl
    unfold mR1
    rw [e]
    dsimp only
    rw [if_pos (by omega)]
  obtain ⟨N, hN1, eN⟩ := hN
  obtain ⟨ls', hp', e, _⟩ := sFor_inv (t := .nm 3) (b := B1_law) (fun _ ls hp => ∃ x3 x4 x5 x6 x7 x8 x9 x10, ls = [some (.scr ns), some (.ref 0), some (.ref 2), x3, x4, x5, x6, x7, x8, x9, x10] ∧ hp[2]? = some (.lst (SP.map T)))
    ((List.range N).map fun i => D.int (i : Nat)) [some (.scr ns), some (.ref 0), some (.ref 2), none, none, none, none, none, none, none, none] H0 0 ⟨none, none, none, none, none, none, none, none, rfl, rfl⟩ (by
      rintro j x ls hp ej ⟨x3, x4, x5, x6, x7, x8, x9, x10, rfl, h2⟩
      have hj : j < N := by
        have := (List.getElem?_eq_some_iff.mp ej).1
        simpa using this
      have hx : x = .int (j : Nat) := by
        rw [List.getElem?_map, List.getElem?_range hj] at ej
        exact (Option.some.inj ej).symm
      subst hx
      obtain ⟨y4, y5, y6, y7, y8, y9, y10, hp', e, h2'⟩ := turn ns j (by omega) x4 x5 x6 x7 x8 x9 x10 hp h2
      exact ⟨_, _, hp', rfl, .inl e, _, _, _, _, _, _, _, _, rfl, h2'⟩)
  refine ⟨hp', ?_⟩
  have e0 : b_law (stD 11 [.scr ns]) [] = some (.rt (.bl true), ls', hp') := by
    unfold b_law
    refine sSeq_of (sSet_of (hp1 := [.lst (SP.map T)]) (d := .ref 0) rfl) ?_
    refine sSeq_of (sSet_of (hp1 := [.lst (SP.map T), .lst (SP.map T)]) (d := .ref 1) rfl) ?_
    refine sSeq_of (sIf_f (hp1 := [.lst (SP.map T), .lst (SP.map T)]) rfl rfl) ?_
    refine sSeq_of (hp1 := [.lst (SP.map T), .lst (SP.map T).dropLast]) rfl ?_
    refine sSeq_of (sSet_of (hp1 := H0) (d := .ref 2) rfl) ?_
    refine sSeq_of (sIf_f (hp1 := H0) rfl rfl) ?_
    refine sSeq_of (hp1 := hp') (ls1 := ls') ?_ rfl
    show sForI _ _ _ [some (.scr ns), some (.ref 0), some (.ref 2), none, none, none, none, none, none, none, none] H0 = _
    unfold sForI
    rw [eN]
    exact e
  show mDef 11 b_law [.scr ns] [] = _
  rw [mDef_s, e0]
end Lw

namespace Lw
open PySem PySem.Spec L2 Ve
def topS (i : Nat) : Stmt := PySem.Challenge.pw_flatbody_k04_spins.main.body.getD i (.Pass ⟨0, 0, 0, 0⟩)
abbrev s_third_direction : Stmt := topS 2
abbrev N_third_direction : List Str := ["one", "other", "axis", "mirrored_so", "turned_about"]
theorem sc_third_direction : FnScope N_third_direction ["one", "other"] (defScope s_third_direction) := ⟨rfl, rfl, rfl, by decide +kernel, rfl, by decide +kernel, by decide +kernel⟩
abbrev s_spins : Stmt := topS 3
abbrev N_spins : List Str := ["found", "one", "other"]
theorem sc_spins : FnScope N_spins [] (defScope s_spins) := ⟨rfl, rfl, rfl, by decide +kernel, rfl, by decide +kernel, by decide +kernel⟩
abbrev s_L_hand : Stmt := topS 5
abbrev N_L_hand : List Str := ["_law_script", "_law_k", "_law_cell"]
theorem sc_L_hand : FnScope N_L_hand ["_law_script", "_law_k"] (defScope s_L_hand) := ⟨rfl, rfl, rfl, by decide +kernel, rfl, by decide +kernel, by decide +kernel⟩
abbrev s_L_take : Stmt := topS 6
abbrev N_L_take : List Str := ["_law_hand_here", "_law_many", "_law_digit", "_law_turn", "_law_mixed", "_law_other"]
theorem sc_L_take : FnScope N_L_take ["_law_hand_here", "_law_many"] (defScope s_L_take) := ⟨rfl, rfl, rfl, by decide +kernel, rfl, by decide +kernel, by decide +kernel⟩
abbrev s_L_pick : Stmt := topS 7
abbrev N_L_pick : List Str := ["_law_hand_here", "_law_some"]
theorem sc_L_pick : FnScope N_L_pick ["_law_hand_here", "_law_some"] (defScope s_L_pick) := ⟨rfl, rfl, rfl, by decide +kernel, rfl, by decide +kernel, by decide +kernel⟩
abbrev s_L_third : Stmt := topS 8
abbrev N_L_third : List Str := ["_law_one", "_law_other", "_law_found", "_law_about"]
theorem sc_L_third : FnScope N_L_third ["_law_one", "_law_other"] (defScope s_L_third) := ⟨rfl, rfl, rfl, by decide +kernel, rfl, by decide +kernel, by decide +kernel⟩
abbrev s_L_all : Stmt := topS 9
abbrev N_L_all : List Str := ["_law_found", "_law_one", "_law_other"]
theorem sc_L_all : FnScope N_L_all [] (defScope s_L_all) := ⟨rfl, rfl, rfl, by decide +kernel, rfl, by decide +kernel, by decide +kernel⟩
abbrev s_L_goes : Stmt := topS 10
abbrev N_L_goes : List Str := ["_law_spin", "_law_d", "_law_to"]
theorem sc_L_goes : FnScope N_L_goes ["_law_spin", "_law_d"] (defScope s_L_goes) := ⟨rfl, rfl, rfl, by decide +kernel, rfl, by decide +kernel, by decide +kernel⟩
abbrev s_law : Stmt := topS 11
abbrev N_law : List Str := ["_law_script", "_law_due", "_law_found", "_law_k", "_law_hand_here", "_law_one", "_law_other", "_law_both", "_law_undone", "_law_spin", "_law_d"]
theorem sc_law : FnScope N_law ["_law_script"] (defScope s_law) := ⟨rfl, rfl, rfl, by decide +kernel, rfl, by decide +kernel, by decide +kernel⟩
structure Bi (mg : Str → Option Value) : Prop where
  z_int : mg "int" = none
  z_range : mg "range" = none
  z_len : mg "len" = none
  z_isinstance : mg "isinstance" = none
  z_list : mg "list" = none
  z_tuple : mg "tuple" = none
  z_all : mg "all" = none
  z_min : mg "min" = none
  z_max : mg "max" = none
structure Ks (K : PySem.W.Frag) (mg : Str → Option Value) : Prop where
  g_DIRECTIONS' : ∃ u v, mg "DIRECTIONS" = some u ∧ RelV v u ∧ ∀ H μ, Rp K H μ k_DIRECTIONS v
section
variable {K : PySem.W.Frag} {mg : Str → Option Value}
theorem Ks.g_DIRECTIONS (C : Ks K mg) : mg "DIRECTIONS" = some C.g_DIRECTIONS'.choose := C.g_DIRECTIONS'.choose_spec.choose_spec.1
theorem Ks.r_DIRECTIONS (C : Ks K mg) : RelV C.g_DIRECTIONS'.choose_spec.choose C.g_DIRECTIONS'.choose := C.g_DIRECTIONS'.choose_spec.choose_spec.2.1
theorem Ks.p_DIRECTIONS (C : Ks K mg) : ∀ H μ, Rp K H μ k_DIRECTIONS C.g_DIRECTIONS'.choose_spec.choose := C.g_DIRECTIONS'.choose_spec.choose_spec.2.2
end
section
variable {P : Program} {w : World} {K : PySem.W.Frag} {mg : Str → Option Value} {base : Heap}
set_option maxHeartbeats 0 in
theorem ok_third_direction (B : Bi mg) (C : Ks K mg) {f : Addr} {fd : FuncData} (F : Fun K "third_direction" "third_direction" s_third_direction f fd) (gm : mg "third_direction" = some (.ref f)) (hb : Binds K fd ["one", "other"] []) : Fn P w K mg base 1 "third_direction" 2 m_third_direction := by
  refine fn_mk (N := N_third_direction) (fb := b_third_direction) F sc_third_direction gm hb fun cdv A outer s H E hr => ?_
  have hu := hu_of hr
  exact (dss_cons (ds_set (i := 2) sc_third_direction.nd rfl (by first | exact Or.inl rfl | exact Or.inr rfl) (de_op o_sub (de_op o_sub de_int (de_op o_div (de_var 0) de_int)) (de_op o_div (de_var 1) de_int)))
    (dss_cons (ds_set (i := 3) sc_third_direction.nd rfl (by first | exact Or.inl rfl | exact Or.inr rfl) (de_cmp (o_ne hr.units) (de_op o_mod (de_op o_add (de_op o_div (de_var 0) de_int) de_int) de_int) (de_op o_div (de_var 1) de_int) (nomark _)))
    (dss_cons (ds_set (i := 4) sc_third_direction.nd rfl (by first | exact Or.inl rfl | exact Or.inr rfl) (de_op o_add (de_op o_add (de_op o_mod (de_var 0) de_int) (de_op o_mod (de_var 1) de_int)) (de_callTy c_int (by rfl) B.z_int bb_int (da_cons (de_var 3) da_nil))))
    (dss_one (ds_ret (de_op o_add (de_op o_mul de_int (de_var 2)) (de_op o_mod (de_var 4) de_int)))))))
set_option maxHeartbeats 0 in
theorem ok_spins (B : Bi mg) (C : Ks K mg) {f : Addr} {fd : FuncData} (F : Fun K "spins" "spins" s_spins f fd) (gm : mg "spins" = some (.ref f)) (hb : Binds K fd [] []) (F_third_direction : Fn P w K mg base 1 "third_direction" 2 c_third_direction) : Fn P w K mg base 2 "spins" 0 m_spins := by
  refine fn_mk (N := N_spins) (fb := b_spins) F sc_spins gm hb fun cdv A outer s H E hr => ?_
  have hu := hu_of hr
  exact (dss_cons (ds_set (i := 0) sc_spins.nd rfl (by first | exact Or.inl rfl | exact Or.inr rfl) (de_new (le_lst da_nil)))
    (dss_cons (ds_for PassesOwn.never rfl (di_range1 (by rfl) B.z_range (da_cons (de_glob (by rfl) C.g_DIRECTIONS C.r_DIRECTIONS C.p_DIRECTIONS) da_nil)) (dg_name (i := 1) sc_spins.nd rfl (by first | exact Or.inl rfl | exact Or.inr rfl)) (dss_one (ds_for PassesOwn.never rfl (di_range1 (by rfl) B.z_range (da_cons (de_glob (by rfl) C.g_DIRECTIONS C.r_DIRECTIONS C.p_DIRECTIONS) da_nil)) (dg_name (i := 2) sc_spins.nd rfl (by first | exact Or.inl rfl | exact Or.inr rfl)) (dss_one (ds_if (dt_cmp (o_ne hr.units) (de_op o_div (de_var 1) de_int) (de_op o_div (de_var 2) de_int) (nomark _)) (dss_one (ds_expr (de_lm PySem.F.slot_list_append PySem.F.type_list_append t_append (de_var 0) (da_cons (de_tup (da_cons (de_var 1) (da_cons (de_var 2) (da_cons (de_callF (F_third_direction.mono (by decide)) hr (by rfl) (da_cons (de_var 1) (da_cons (de_var 2) da_nil))) da_nil)))) da_nil)))) dss_nil)))))
    (dss_one (ds_ret (de_var 0)))))
set_option maxHeartbeats 0 in
theorem ok_L_hand (B : Bi mg) (C : Ks K mg) {f : Addr} {fd : FuncData} (F : Fun K "_law_hand" "_law_hand" s_L_hand f fd) (gm : mg "_law_hand" = some (.ref f)) (hb : Binds K fd ["_law_script", "_law_k"] []) : Fn P w K mg base 1 "_law_hand" 2 m_L_hand := by
  refine fn_mk (N := N_L_hand) (fb := b_L_hand) F sc_L_hand gm hb fun cdv A outer s H E hr => ?_
  have hu := hu_of hr
  exact (dss_cons (ds_set (i := 2) sc_L_hand.nd rfl (by first | exact Or.inl rfl | exact Or.inr rfl) de_int)
    (dss_cons (ds_if (dt_cmp (o_lt hr.units0) (de_var 1) (de_callB c_len (by rfl) B.z_len bb_len (da_cons (de_var 0) da_nil)) (nomark _)) (dss_one (ds_set (i := 2) sc_L_hand.nd rfl (by first | exact Or.inl rfl | exact Or.inr rfl) (de_ix hu (de_var 0) (de_var 1)))) dss_nil)
    (dss_one (ds_ret (de_new (le_lst (da_cons (de_op o_mul (de_var 2) (de_callTy c_int (by rfl) B.z_int bb_int (da_cons (de_cmp o_ge (de_var 2) (de_op o_pow de_int de_int) (nomark _)) da_nil))) (da_cons (de_op o_add (de_op o_add (de_op o_mod (de_var 2) de_int) (de_op o_mul de_int (de_var 1))) de_int) (da_cons de_int da_nil)))))))))
set_option maxHeartbeats 0 in
theorem ok_L_take (B : Bi mg) (C : Ks K mg) {f : Addr} {fd : FuncData} (F : Fun K "_law_take" "_law_take" s_L_take f fd) (gm : mg "_law_take" = some (.ref f)) (hb : Binds K fd ["_law_hand_here", "_law_many"] []) : Fn P w K mg base 1 "_law_take" 2 m_L_take := by
  refine fn_mk (N := N_L_take) (fb := b_L_take) F sc_L_take gm hb fun cdv A outer s H E hr => ?_
  have hu := hu_of hr
  exact (dss_cons (ds_if (dt_cmp o_gt (de_ix hu (de_var 0) de_int) de_int (nomark _)) (dss_cons (ds_set (i := 2) sc_L_take.nd rfl (by first | exact Or.inl rfl | exact Or.inr rfl) (de_op o_mod (de_ix hu (de_var 0) de_int) (de_var 1)))
    (dss_cons (ds_store hu (de_op o_div (de_ix hu (de_var 0) de_int) (de_var 1)) (de_var 0) de_int)
    (dss_one (ds_ret (de_var 2))))) dss_nil)
    (dss_cons (ds_store hu (de_op o_add (de_ix hu (de_var 0) de_int) de_int) (de_var 0) de_int)
    (dss_cons (ds_set (i := 3) sc_L_take.nd rfl (by first | exact Or.inl rfl | exact Or.inr rfl) (de_ix hu (de_var 0) de_int))
    (dss_cons (ds_set (i := 4) sc_L_take.nd rfl (by first | exact Or.inl rfl | exact Or.inr rfl) (de_op o_mod (de_op o_mul (de_ix hu (de_var 0) de_int) (de_op o_add (de_op o_add de_int (de_op o_mul (de_op o_mul de_int (de_var 3)) (de_var 3))) (de_op o_mul de_int (de_var 3)))) de_int))
    (dss_cons (ds_set (i := 5) sc_L_take.nd rfl (by first | exact Or.inl rfl | exact Or.inr rfl) (de_op o_add (de_op o_add (de_op o_mod (de_var 4) de_int) (de_op o_mul (de_var 3) de_int)) de_int))
    (dss_cons (ds_set (i := 4) sc_L_take.nd rfl (by first | exact Or.inl rfl | exact Or.inr rfl) (de_op o_mod (de_op o_mul (de_var 4) (de_var 5)) de_int))
    (dss_one (ds_ret (de_op o_mod (de_op o_add (de_op o_div (de_var 4) de_int) (de_op o_div (de_var 4) de_int)) (de_var 1))))))))))
set_option maxHeartbeats 0 in
theorem ok_L_pick (B : Bi mg) (C : Ks K mg) {f : Addr} {fd : FuncData} (F : Fun K "_law_pick" "_law_pick" s_L_pick f fd) (gm : mg "_law_pick" = some (.ref f)) (hb : Binds K fd ["_law_hand_here", "_law_some"] []) (F_L_take : Fn P w K mg base 1 "_law_take" 2 c_L_take) : Fn P w K mg base 2 "_law_pick" 2 m_L_pick := by
  refine fn_mk (N := N_L_pick) (fb := b_L_pick) F sc_L_pick gm hb fun cdv A outer s H E hr => ?_
  have hu := hu_of hr
  exact (dss_one (ds_ret (de_ix hu (de_var 1) (de_callF (F_L_take.mono (by decide)) hr (by rfl) (da_cons (de_var 0) (da_cons (de_callB c_len (by rfl) B.z_len bb_len (da_cons (de_var 1) da_nil)) da_nil))))))
set_option maxHeartbeats 0 in
theorem ok_L_third (B : Bi mg) (C : Ks K mg) {f : Addr} {fd : FuncData} (F : Fun K "_law_third" "_law_third" s_L_third f fd) (gm : mg "_law_third" = some (.ref f)) (hb : Binds K fd ["_law_one", "_law_other"] []) : Fn P w K mg base 1 "_law_third" 2 m_L_third := by
  refine fn_mk (N := N_L_third) (fb := b_L_third) F sc_L_third gm hb fun cdv A outer s H E hr => ?_
  have hu := hu_of hr
  exact (dss_cons (ds_set (i := 2) sc_L_third.nd rfl (by first | exact Or.inl rfl | exact Or.inr rfl) (de_op o_mul de_int (de_op o_sub (de_op o_sub de_int (de_op o_div (de_var 0) de_int)) (de_op o_div (de_var 1) de_int))))
    (dss_cons (ds_set (i := 3) sc_L_third.nd rfl (by first | exact Or.inl rfl | exact Or.inr rfl) (de_op o_mod (de_op o_add (de_op o_mod (de_var 0) de_int) (de_op o_mod (de_var 1) de_int)) de_int))
    (dss_cons (ds_if (dt_cmpL (o_inL hr.units65) (de_tup (da_cons (de_op o_div (de_var 0) de_int) (da_cons (de_op o_div (de_var 1) de_int) da_nil))) (le_lst (da_cons (de_tup (da_cons de_int (da_cons de_int da_nil))) (da_cons (de_tup (da_cons de_int (da_cons de_int da_nil))) (da_cons (de_tup (da_cons de_int (da_cons de_int da_nil))) da_nil)))) rfl) (dss_one (ds_set (i := 3) sc_L_third.nd rfl (by first | exact Or.inl rfl | exact Or.inr rfl) (de_op o_sub de_int (de_var 3)))) dss_nil)
    (dss_one (ds_ret (de_op o_add (de_var 2) (de_var 3)))))))
set_option maxHeartbeats 0 in
theorem ok_L_all (B : Bi mg) (C : Ks K mg) {f : Addr} {fd : FuncData} (F : Fun K "_law_all" "_law_all" s_L_all f fd) (gm : mg "_law_all" = some (.ref f)) (hb : Binds K fd [] []) (F_L_third : Fn P w K mg base 1 "_law_third" 2 c_L_third) : Fn P w K mg base 2 "_law_all" 0 m_L_all := by
  refine fn_mk (N := N_L_all) (fb := b_L_all) F sc_L_all gm hb fun cdv A outer s H E hr => ?_
  have hu := hu_of hr
  exact (dss_cons (ds_set (i := 0) sc_L_all.nd rfl (by first | exact Or.inl rfl | exact Or.inr rfl) (de_new (le_lst da_nil)))
    (dss_cons (ds_for PassesOwn.never rfl (di_range1 (by rfl) B.z_range (da_cons de_int da_nil)) (dg_name (i := 1) sc_L_all.nd rfl (by first | exact Or.inl rfl | exact Or.inr rfl)) (dss_one (ds_expr (de_extend (de_var 0) (le_lc (own := [("_law_other", 2)]) rfl sc_L_all.nd (di_range1 (by rfl) B.z_range (da_cons de_int da_nil)) (blkOk_by (N := N_L_all) (sc := defScope s_L_all) (by decide +kernel)) (fun _ _ _ _ _ => (dg_name (i := 2) sc_L_all.nd rfl (by first | exact Or.inl rfl | exact Or.inr rfl))) (fun _ _ _ _ _ => (dts_one (dt_cmp (o_ne hr.units) (de_op o_div (de_var 2) de_int) (de_op o_div (de_var 1) de_int) (nomark _)))) (fun _ _ _ _ _ => (de_tup (da_cons (de_var 1) (da_cons (de_var 2) (da_cons (de_callF (F_L_third.mono (by decide)) hr (by rfl) (da_cons (de_var 1) (da_cons (de_var 2) da_nil))) da_nil))))))))))
    (dss_one (ds_ret (de_var 0)))))
set_option maxHeartbeats 0 in
theorem ok_L_goes (B : Bi mg) (C : Ks K mg) {f : Addr} {fd : FuncData} (F : Fun K "_law_goes" "_law_goes" s_L_goes f fd) (gm : mg "_law_goes" = some (.ref f)) (hb : Binds K fd ["_law_spin", "_law_d"] []) : Fn P w K mg base 1 "_law_goes" 2 m_L_goes := by
  refine fn_mk (N := N_L_goes) (fb := b_L_goes) F sc_L_goes gm hb fun cdv A outer s H E hr => ?_
  have hu := hu_of hr
  exact (dss_cons (ds_set (i := 2) sc_L_goes.nd rfl (by first | exact Or.inl rfl | exact Or.inr rfl) (de_ix hu (de_var 0) (de_op o_div (de_var 1) de_int)))
    (dss_one (ds_ret (de_ix hu (de_new (le_lst (da_cons (de_var 2) (da_cons (de_ix hu (de_new (le_lst (da_cons de_int (da_cons de_int (da_cons de_int (da_cons de_int (da_cons de_int (da_cons de_int da_nil)))))))) (de_var 2)) da_nil)))) (de_op o_mod (de_var 1) de_int)))))

end

set_option maxHeartbeats 0 in
theorem body_law {P : Program} {w : World} {K : PySem.W.Frag} {mg : Str → Option Value} {base : Heap} (B : Bi mg) (C : Ks K mg)  (F_L_all : Fn P w K mg base 2 "_law_all" 0 c_L_all) (F_L_goes : Fn P w K mg base 1 "_law_goes" 2 c_L_goes) (F_L_hand : Fn P w K mg base 1 "_law_hand" 2 c_L_hand) (F_L_pick : Fn P w K mg base 2 "_law_pick" 2 c_L_pick) (F_spins : Fn P w K mg base 2 "spins" 0 c_spins) {f : Addr} {cdv : Value} {A : Around} {outer : List Env} {s : Shared} {H : Hp} {E : XK}
    (hr : Room 2 (A.deeper (PyProof.Rows.envOfC "law" (defScope s_law) s.heap.objs.size f cdv))) : DSs (cxOf CX0 P w K mg base N_law "law" (defScope s_law) f cdv A outer s H E).nox (defBody s_law) b_law := by
  have hu := hu_of hr
  exact (dss_cons (ds_set (i := 1) sc_law.nd rfl (by first | exact Or.inl rfl | exact Or.inr rfl) (de_callF0 (F_L_all.mono (by decide)) hr (by rfl)))
    (dss_cons (ds_set (i := 2) sc_law.nd rfl (by first | exact Or.inl rfl | exact Or.inr rfl) (de_callF0 (F_spins.mono (by decide)) hr (by rfl)))
    (dss_cons (ds_if (dt_w (dw_or (dt_not (dt_val (de_isi (T := "list") (by rfl) B.z_isinstance bb_isinstance (de_var 2) (by rfl) B.z_list bb_list))) (dw_or (dt_cmp (o_ne hr.units) (de_var 2) (de_var 1) (nomark _)) (dw_or1 (dt_not (dt_val (de_callBL (n_all rfl) (by rfl) B.z_all bb_all (le_lc (own := [("_law_one", 5)]) rfl sc_law.nd (di_seq (de_var 2)) (blkOk_by (N := N_law) (sc := defScope s_law) (by decide +kernel)) (fun _ _ _ _ _ => (dg_name (i := 5) sc_law.nd rfl (by first | exact Or.inl rfl | exact Or.inr rfl))) (fun _ _ _ _ _ => dts_nil) (fun _ _ _ _ _ => (de_isi (T := "tuple") (by rfl) B.z_isinstance bb_isinstance (de_var 5) (by rfl) B.z_tuple bb_tuple)))))))))) (dss_one (ds_ret de_bl)) dss_nil)
    (dss_cons (ds_expr (de_lm0 PySem.F.slot_list_pop PySem.F.type_list_pop t_pop (de_var 2)))
    (dss_cons (ds_set (i := 2) sc_law.nd rfl (by first | exact Or.inl rfl | exact Or.inr rfl) (de_callF0 (F_spins.mono (by decide)) hr (by rfl)))
    (dss_cons (ds_if (dt_cmp (o_ne hr.units) (de_var 2) (de_var 1) (nomark _)) (dss_one (ds_ret de_bl)) dss_nil)
    (dss_cons (ds_for PassesOwn.never rfl (di_range1 (by rfl) B.z_range (da_cons (de_callB (c_max2 rfl) (by rfl) B.z_max bb_max (da_cons de_int (da_cons (de_callB (c_min2 rfl) (by rfl) B.z_min bb_min (da_cons de_int (da_cons (de_callB c_len (by rfl) B.z_len bb_len (da_cons (de_var 0) da_nil)) da_nil))) da_nil))) da_nil)) (dg_name (i := 3) sc_law.nd rfl (by first | exact Or.inl rfl | exact Or.inr rfl)) (dss_cons (ds_set (i := 4) sc_law.nd rfl (by first | exact Or.inl rfl | exact Or.inr rfl) (de_callF (F_L_hand.mono (by decide)) hr (by rfl) (da_cons (de_var 0) (da_cons (de_var 3) da_nil))))
    (dss_cons (ds_asg (de_tup (da_cons (de_callF (F_L_pick.mono (by decide)) hr (by rfl) (da_cons (de_var 4) (da_cons (de_var 2) da_nil))) (da_cons (de_callF (F_L_pick.mono (by decide)) hr (by rfl) (da_cons (de_var 4) (da_cons (de_var 2) da_nil))) da_nil))) (dg_tup rfl (dgs_cons (dg_name (i := 5) sc_law.nd rfl (by first | exact Or.inl rfl | exact Or.inr rfl)) (dgs_cons (dg_name (i := 6) sc_law.nd rfl (by first | exact Or.inl rfl | exact Or.inr rfl)) dgs_nil))))
    (dss_cons (ds_set (i := 7) sc_law.nd rfl (by first | exact Or.inl rfl | exact Or.inr rfl) (de_callTyL n_tuple (by rfl) B.z_tuple bb_tuple (le_lc (own := [("_law_d", 10)]) rfl sc_law.nd (di_seq (de_var 5)) (blkOk_by (N := N_law) (sc := defScope s_law) (by decide +kernel)) (fun _ _ _ _ _ => (dg_name (i := 10) sc_law.nd rfl (by first | exact Or.inl rfl | exact Or.inr rfl))) (fun _ _ _ _ _ => dts_nil) (fun _ _ _ _ _ => (de_callF (F_L_goes.mono (by decide)) hr (by rfl) (da_cons (de_var 6) (da_cons (de_var 10) da_nil)))))))
    (dss_cons (ds_if (dt_cmp (o_notIn hr.units65) (de_var 7) (de_var 2) rfl) (dss_one (ds_ret de_bl)) dss_nil)
    (dss_cons (ds_setLc (i := 8) (own := [("_law_spin", 9)]) rfl sc_law.nd rfl rfl (sw_true rfl rfl rfl (by decide +kernel)) (di_seq (de_var 2)) (blkOk_by (N := N_law) (sc := defScope s_law) (by decide +kernel)) (fun _ _ _ _ _ => (dg_name (i := 9) sc_law.nd rfl (by first | exact Or.inl rfl | exact Or.inr rfl))) (fun _ _ _ _ _ => (dts_one (dt_cmp (o_eq hr.units) (de_callTyL n_tuple (by rfl) B.z_tuple bb_tuple (le_lc (own := [("_law_d", 10)]) rfl sc_law.nd (di_seq (de_var 5)) (blkOk_by (by kernel_rfl)) (fun _ _ _ _ _ => (dg_name (i := 10) sc_law.nd rfl (by first | exact Or.inl rfl | exact Or.inr rfl))) (fun _ _ _ _ _ => dts_nil) (fun _ _ _ _ _ => (de_callF (F_L_goes.mono (by decide)) hr (by rfl) (da_cons (de_var 9) (da_cons (de_var 10) da_nil)))))) (de_tup (da_cons de_int (da_cons de_int (da_cons de_int da_nil)))) (nomark _)))) (fun _ _ _ _ _ => (de_var 9)))
    (dss_one (ds_if (dt_cmp (o_ne hr.units) (de_callB c_len (by rfl) B.z_len bb_len (da_cons (de_var 8) da_nil)) de_int (nomark _)) (dss_one (ds_ret de_bl)) dss_nil))))))))
    (dss_one (ds_ret de_bl)))))))))
def spLaw (K : PySem.W.Frag) : Sp := fun vs H Q _ => ∃ (a : Addr) (ns : List Int), vs = [.ref a] ∧ ScAt K H a (ns.map V.int) ∧ ns.length ≤ 63 ∧ ∀ H', Q (.bl true) H'
theorem law_sp {P : Program} {w : World} {K : PySem.W.Frag} {mg : Str → Option Value} {base : Heap} {k : Nat} {f : Addr} {fd : FuncData} {ps : List Str} (F : FnOk P w K mg base CX0 k f fd ps (spD K 1 m_law)) : FnOk P w K mg base CX0 k f fd ps (spLaw K) := by
  refine F.imp fun vs H Q E ⟨a, ns, e, hS, hl, q⟩ => ?_
  subst e
  obtain ⟨hp', eq⟩ := law_pure ns hl
  exact ⟨[], [], [.scr ns], .bl true, hp', rfl, ⟨rfl, List.nodup_nil, fun n o a h _ => by simp at h⟩, by rw [Rps]; exact ⟨_, _, rfl, by rw [Rp]; exact ⟨a, rfl, hS⟩, Rps.nil⟩, eq, fun v H' μ' _ _ r => by rw [r.blE]; exact q H'⟩

set_option maxHeartbeats 0 in
theorem all_mk {l : PySem.W.OpenLaw} {w : World} {K : PySem.W.Frag} {h : Heap} {mg : Str → Option Value} {fa : Addr} (X : K.In h) (G : h.Ns mainGlobals mg) (hfa : mg "law" = some (.ref fa))
    {f0 : Addr} {od0 an0 : Option Addr} {sl0 : Array (Option Value)} {oc0 kV0 dc0 pm0 cd0 ct0 : Value}
    (a0 : PySem.W.nsIn K mainGlobals "third_direction" = some (some (.ref f0))) (l0 : K.lookup f0 = some ⟨oc0, od0, .func (PySem.W.fnOf "third_direction" "third_direction" (defArgs s_third_direction) (defBody s_third_direction) (defScope s_third_direction) .none kV0 dc0 pm0 an0 cd0 ct0), sl0⟩) (c0 : PySem.W.codeIn K cd0 "third_direction" = true) (k0 : PySem.W.keepIn K (.ref f0) = true)
    {f1 : Addr} {od1 an1 : Option Addr} {sl1 : Array (Option Value)} {oc1 kV1 dc1 pm1 cd1 ct1 : Value}
    (a1 : PySem.W.nsIn K mainGlobals "spins" = some (some (.ref f1))) (l1 : K.lookup f1 = some ⟨oc1, od1, .func (PySem.W.fnOf "spins" "spins" (defArgs s_spins) (defBody s_spins) (defScope s_spins) .none kV1 dc1 pm1 an1 cd1 ct1), sl1⟩) (c1 : PySem.W.codeIn K cd1 "spins" = true) (k1 : PySem.W.keepIn K (.ref f1) = true)
    {f2 : Addr} {od2 an2 : Option Addr} {sl2 : Array (Option Value)} {oc2 kV2 dc2 pm2 cd2 ct2 : Value}
    (a2 : PySem.W.nsIn K mainGlobals "_law_hand" = some (some (.ref f2))) (l2 : K.lookup f2 = some ⟨oc2, od2, .func (PySem.W.fnOf "_law_hand" "_law_hand" (defArgs s_L_hand) (defBody s_L_hand) (defScope s_L_hand) .none kV2 dc2 pm2 an2 cd2 ct2), sl2⟩) (c2 : PySem.W.codeIn K cd2 "_law_hand" = true) (k2 : PySem.W.keepIn K (.ref f2) = true)
    {f3 : Addr} {od3 an3 : Option Addr} {sl3 : Array (Option Value)} {oc3 kV3 dc3 pm3 cd3 ct3 : Value}
    (a3 : PySem.W.nsIn K mainGlobals "_law_take" = some (some (.ref f3))) (l3 : K.lookup f3 = some ⟨oc3, od3, .func (PySem.W.fnOf "_law_take" "_law_take" (defArgs s_L_take) (defBody s_L_take) (defScope s_L_take) .none kV3 dc3 pm3 an3 cd3 ct3), sl3⟩) (c3 : PySem.W.codeIn K cd3 "_law_take" = true) (k3 : PySem.W.keepIn K (.ref f3) = true)
    {f4 : Addr} {od4 an4 : Option Addr} {sl4 : Array (Option Value)} {oc4 kV4 dc4 pm4 cd4 ct4 : Value}
    (a4 : PySem.W.nsIn K mainGlobals "_law_pick" = some (some (.ref f4))) (l4 : K.lookup f4 = some ⟨oc4, od4, .func (PySem.W.fnOf "_law_pick" "_law_pick" (defArgs s_L_pick) (defBody s_L_pick) (defScope s_L_pick) .none kV4 dc4 pm4 an4 cd4 ct4), sl4⟩) (c4 : PySem.W.codeIn K cd4 "_law_pick" = true) (k4 : PySem.W.keepIn K (.ref f4) = true)
    {f5 : Addr} {od5 an5 : Option Addr} {sl5 : Array (Option Value)} {oc5 kV5 dc5 pm5 cd5 ct5 : Value}
    (a5 : PySem.W.nsIn K mainGlobals "_law_third" = some (some (.ref f5))) (l5 : K.lookup f5 = some ⟨oc5, od5, .func (PySem.W.fnOf "_law_third" "_law_third" (defArgs s_L_third) (defBody s_L_third) (defScope s_L_third) .none kV5 dc5 pm5 an5 cd5 ct5), sl5⟩) (c5 : PySem.W.codeIn K cd5 "_law_third" = true) (k5 : PySem.W.keepIn K (.ref f5) = true)
    {f6 : Addr} {od6 an6 : Option Addr} {sl6 : Array (Option Value)} {oc6 kV6 dc6 pm6 cd6 ct6 : Value}
    (a6 : PySem.W.nsIn K mainGlobals "_law_all" = some (some (.ref f6))) (l6 : K.lookup f6 = some ⟨oc6, od6, .func (PySem.W.fnOf "_law_all" "_law_all" (defArgs s_L_all) (defBody s_L_all) (defScope s_L_all) .none kV6 dc6 pm6 an6 cd6 ct6), sl6⟩) (c6 : PySem.W.codeIn K cd6 "_law_all" = true) (k6 : PySem.W.keepIn K (.ref f6) = true)
    {f7 : Addr} {od7 an7 : Option Addr} {sl7 : Array (Option Value)} {oc7 kV7 dc7 pm7 cd7 ct7 : Value}
    (a7 : PySem.W.nsIn K mainGlobals "_law_goes" = some (some (.ref f7))) (l7 : K.lookup f7 = some ⟨oc7, od7, .func (PySem.W.fnOf "_law_goes" "_law_goes" (defArgs s_L_goes) (defBody s_L_goes) (defScope s_L_goes) .none kV7 dc7 pm7 an7 cd7 ct7), sl7⟩) (c7 : PySem.W.codeIn K cd7 "_law_goes" = true) (k7 : PySem.W.keepIn K (.ref f7) = true)
    {f8 : Addr} {od8 an8 : Option Addr} {sl8 : Array (Option Value)} {oc8 kV8 dc8 pm8 cd8 ct8 : Value}
    (a8 : PySem.W.nsIn K mainGlobals "law" = some (some (.ref f8))) (l8 : K.lookup f8 = some ⟨oc8, od8, .func (PySem.W.fnOf "law" "law" (defArgs s_law) (defBody s_law) (defScope s_law) .none kV8 dc8 pm8 an8 cd8 ct8), sl8⟩) (c8 : PySem.W.codeIn K cd8 "law" = true) (k8 : PySem.W.keepIn K (.ref f8) = true)
    (z_int : PySem.W.nsIn K mainGlobals "int" = some none)
    (z_range : PySem.W.nsIn K mainGlobals "range" = some none)
    (z_len : PySem.W.nsIn K mainGlobals "len" = some none)
    (z_isinstance : PySem.W.nsIn K mainGlobals "isinstance" = some none)
    (z_list : PySem.W.nsIn K mainGlobals "list" = some none)
    (z_tuple : PySem.W.nsIn K mainGlobals "tuple" = some none)
    (z_all : PySem.W.nsIn K mainGlobals "all" = some none)
    (z_min : PySem.W.nsIn K mainGlobals "min" = some none)
    (z_max : PySem.W.nsIn K mainGlobals "max" = some none)
    {t_DIRECTIONS : Tok} (g_DIRECTIONS : PySem.W.nsIn K mainGlobals "DIRECTIONS" = some (some (.int 6 t_DIRECTIONS))) :
    ∃ fd : FuncData, (∀ (s : Shared) (v : Value), BindsTo s fd ⟨[v], []⟩ [("_law_script", v)]) ∧ ∀ base : Heap, K.In base → base.Ns mainGlobals mg → FnOk l.prog w K mg base CX0 3 fa fd ["_law_script"] (spLaw K) := by
  have e := hfa.symm.trans (PySem.W.mg_of X G a8)
  cases e
  have B : Bi mg := ⟨PySem.W.mg_none_of X G z_int, PySem.W.mg_none_of X G z_range, PySem.W.mg_none_of X G z_len, PySem.W.mg_none_of X G z_isinstance, PySem.W.mg_none_of X G z_list, PySem.W.mg_none_of X G z_tuple, PySem.W.mg_none_of X G z_all, PySem.W.mg_none_of X G z_min, PySem.W.mg_none_of X G z_max⟩
  have C : Ks K mg := ⟨⟨_, .int (6), PySem.W.mg_of X G g_DIRECTIONS, ⟨_, rfl⟩, fun _ _ => Rp.int⟩⟩
  have F0 := fun_mk (st := s_third_direction) l0 c0 k0
  have b0 := F0.binds (ps := ["one", "other"]) fun _ _ _ _ _ _ us hl => match us, hl with | [_, _], _ => rfl
  have G_third_direction := fun (base : Heap) => (ok_third_direction (P := l.prog) (w := w) (base := base) B C F0 (PySem.W.mg_of X G a0) b0).cl con_third_direction
  have F1 := fun_mk (st := s_spins) l1 c1 k1
  have b1 := F1.binds (ps := []) fun _ _ _ _ _ _ us hl => match us, hl with | [], _ => rfl
  have G_spins := fun (base : Heap) => (ok_spins (P := l.prog) (w := w) (base := base) B C F1 (PySem.W.mg_of X G a1) b1 (G_third_direction base)).cl con_spins
  have F2 := fun_mk (st := s_L_hand) l2 c2 k2
  have b2 := F2.binds (ps := ["_law_script", "_law_k"]) fun _ _ _ _ _ _ us hl => match us, hl with | [_, _], _ => rfl
  have G_L_hand := fun (base : Heap) => (ok_L_hand (P := l.prog) (w := w) (base := base) B C F2 (PySem.W.mg_of X G a2) b2).cl con_L_hand
  have F3 := fun_mk (st := s_L_take) l3 c3 k3
  have b3 := F3.binds (ps := ["_law_hand_here", "_law_many"]) fun _ _ _ _ _ _ us hl => match us, hl with | [_, _], _ => rfl
  have G_L_take := fun (base : Heap) => (ok_L_take (P := l.prog) (w := w) (base := base) B C F3 (PySem.W.mg_of X G a3) b3).cl con_L_take
  have F4 := fun_mk (st := s_L_pick) l4 c4 k4
  have b4 := F4.binds (ps := ["_law_hand_here", "_law_some"]) fun _ _ _ _ _ _ us hl => match us, hl with | [_, _], _ => rfl
  have G_L_pick := fun (base : Heap) => (ok_L_pick (P := l.prog) (w := w) (base := base) B C F4 (PySem.W.mg_of X G a4) b4 (G_L_take base))
  have F5 := fun_mk (st := s_L_third) l5 c5 k5
  have b5 := F5.binds (ps := ["_law_one", "_law_other"]) fun _ _ _ _ _ _ us hl => match us, hl with | [_, _], _ => rfl
  have G_L_third := fun (base : Heap) => (ok_L_third (P := l.prog) (w := w) (base := base) B C F5 (PySem.W.mg_of X G a5) b5).cl con_L_third
  have F6 := fun_mk (st := s_L_all) l6 c6 k6
  have b6 := F6.binds (ps := []) fun _ _ _ _ _ _ us hl => match us, hl with | [], _ => rfl
  have G_L_all := fun (base : Heap) => (ok_L_all (P := l.prog) (w := w) (base := base) B C F6 (PySem.W.mg_of X G a6) b6 (G_L_third base)).cl con_L_all
  have F7 := fun_mk (st := s_L_goes) l7 c7 k7
  have b7 := F7.binds (ps := ["_law_spin", "_law_d"]) fun _ _ _ _ _ _ us hl => match us, hl with | [_, _], _ => rfl
  have G_L_goes := fun (base : Heap) => (ok_L_goes (P := l.prog) (w := w) (base := base) B C F7 (PySem.W.mg_of X G a7) b7).cl con_L_goes
  have F8 := fun_mk (st := s_law) l8 c8 k8
  have b8 := F8.binds (ps := ["_law_script"]) fun _ _ _ _ _ _ us hl => match us, hl with | [_], _ => rfl
  refine ⟨PySem.W.fnOf "law" "law" (defArgs s_law) (defBody s_law) (defScope s_law) .none kV8 dc8 pm8 an8 cd8 ct8, fun s v => .of_eq rfl, fun base _ _ => ?_⟩
  have FL := fn_def (P := l.prog) (w := w) (mg := mg) (base := base) (k := 2) (N := N_law) (ps := ["_law_script"]) (fb := b_law) F8 sc_law
    (fun cdv A outer s H E hr => body_law B C (G_L_all base) (G_L_goes base) (G_L_hand base) (G_L_pick base) (G_spins base) hr)
  exact law_sp FL
end Lw
open PySem PySem.W PyProof.Rows
set_option maxRecDepth 100000 in
set_option maxHeartbeats 0 in
theorem PySem.Challenge.cw_flatbody_k04_spins_holds : PySem.Challenge.rw_flatbody_k04_spins.Holds := by
  w_on; o_law; k_head; (case hw => w_witness2)
  k_fill
  refine L2.walk_of (l := PySem.Challenge.rw_flatbody_k04_spins) (n := 63) (k := 3) (x := "_law_script") (CX := fun _ => L2.CX0) (sp := fun w => Lw.spLaw _) rfl (by decide) rfl ⟨rfl, by decide, by decide⟩ (fun w h Y => PySem.W.kIn_of Y) ?F (fun _ _ a ns hl ho hS => ⟨a, ns, rfl, Ve.scAt_of ho hS, hl, fun _ => rfl⟩) (fun _ _ _ _ _ h => h)
  case F =>
    intro w mg fa h KX G hmg
    refine' Lw.all_mk KX G hmg ?a0 ?l0 ?c0 ?k0 ?a1 ?l1 ?c1 ?k1 ?a2 ?l2 ?c2 ?k2 ?a3 ?l3 ?c3 ?k3 ?a4 ?l4 ?c4 ?k4 ?a5 ?l5 ?c5 ?k5 ?a6 ?l6 ?c6 ?k6 ?a7 ?l7 ?c7 ?k7 ?a8 ?l8 ?c8 ?k8 ?z_int ?z_range ?z_len ?z_isinstance ?z_list ?z_tuple ?z_all ?z_min ?z_max ?g_DIRECTIONS
    (case a0 => k_is); (case l0 => k_is); (case c0 => k_is); (case k0 => k_is); (case a1 => k_is); (case l1 => k_is); (case c1 => k_is); (case k1 => k_is); (case a2 => k_is); (case l2 => k_is); (case c2 => k_is); (case k2 => k_is); (case a3 => k_is); (case l3 => k_is); (case c3 => k_is); (case k3 => k_is); (case a4 => k_is); (case l4 => k_is); (case c4 => k_is); (case k4 => k_is); (case a5 => k_is); (case l5 => k_is); (case c5 => k_is); (case k5 => k_is); (case a6 => k_is); (case l6 => k_is); (case c6 => k_is); (case k6 => k_is); (case a7 => k_is); (case l7 => k_is); (case c7 => k_is); (case k7 => k_is); (case a8 => k_is); (case l8 => k_is); (case c8 => k_is); (case k8 => k_is); (case z_int => k_is); (case z_range => k_is); (case z_len => k_is); (case z_isinstance => k_is); (case z_list => k_is); (case z_tuple => k_is); (case z_all => k_is); (case z_min => k_is); (case z_max => k_is); (case g_DIRECTIONS => k_is)
