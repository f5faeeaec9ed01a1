import PyProof.Rows.All
import Wide.All
import OpenK.AllK
import Wide.FinOn
import HandS.ForMost
import HandS.Walk
import HandS.TupAny
import HandS.Deep
import HandS.Style
import HandS.TupLe
import HandS.Wide
import KE.KDictKeyed
import KE.KNestM
import HandS.IsInst
import HandS.Ends
import HandS.Words
import HandS.TupLen
import HandS.More
import HandS.NoneIn
import HandS.TupMul
import HandS.Conv
import HandS.Zip
import KE.SortData
import PyProof.Rows.TupDisplay
import KE.DataFind
import KE.DataCmp
import KE.DataMinMax
import KE.GoesMore
import PyProof.EnumMake
import PyProof.Claim2Refuses
import HandS.Strs
import PyProof.ReprRoads
import HandS.SetFor
import HandS.Keys
import HandS.Iter
import KE.KDictZip
import KE.KDictWalk
import PyProof.DictMoreH
import KE.DatumOrd
import PyProof.ListIndex
import PyProof.ListIndexNeg
import PyProof.MinMaxWalk
import PyProof.TupleOfSeq
import PyProof.FitsInt
import PyProof.ReprLen
import KE.GoesEnum
import HandS.Zip0
import HandS.Sort
import KE.KDictCopyH
import KE.KDictExact
import HandS.Text
import HandS.Exc
import HandS.TupSets
import PySem.Challenge.RW_flatbody_k06_whole_least_bodies
set_option Elab.async false
set_option linter.all false
set_option maxRecDepth 100000
namespace Ve
open PySem PySem.Spec L2
inductive D where
  | non | bl (b : Bool) | int (i : Int) | str (x : Str) | tup (ds : List D) | ref (n : Nat) | scr (ns : List Int) | wt (ds : List D)
inductive O where
  | lst (xs : List D) | dic (kvs : List (D × D)) | dicL (kvs : List (D × D))
  | dicN (ks : List D) | dicM (ks : List D)
  | ins (c : Str) (kvs : List (D × D))
  | exc (c : Str)
  | tab (x : Str)
abbrev Hd := List O
abbrev Ls := List (Option D)
def TpAt (H : Hp) (a : Addr) (vs : List V) : Prop := H a = some (.tup vs)
def WtAt (K : PySem.W.Frag) (H : Hp) (a : Addr) (vs : List V) : Prop := (∃ o : Obj, o.dict = none ∧ H a = some (.frz o (.tup vs))) ∨ ∃ (o : Obj) (its : Array Value) (n : Nat), K.lookup a = some o ∧ o.cls = .type "tuple" ∧ o.dict = none ∧ o.data = .seq its n ∧ its.size ≤ sizeLine ∧ Vals vs its.toList
theorem TpAt.sq {K : PySem.W.Frag} {H : Hp} {a : Addr} {vs : List V} (h : TpAt H a vs) : SqT K H a vs := .inl (.inl h)
theorem WtAt.sq {K : PySem.W.Frag} {H : Hp} {a : Addr} {vs : List V} (h : WtAt K H a vs) : SqT K H a vs := h.elim (fun ⟨o, _, e⟩ => .inl (.inr ⟨o, e⟩)) fun ⟨o, its, n, h1, h2, _, h3⟩ => .inr ⟨o, its, n, h1, h2, h3⟩
def ScAt (K : PySem.W.Frag) (H : Hp) (a : Addr) (vs : List V) : Prop :=
  (∃ o, H a = some (.frz o (.lst vs))) ∨ ∃ (o : Obj) (its : Array Value) (n : Nat), K.lookup a = some o ∧ o.cls = .type "list" ∧ o.dict = none ∧ o.data = .seq its n ∧ its.size ≤ sizeLine ∧ Vals vs its.toList
theorem ScAt.sq {K : PySem.W.Frag} {H : Hp} {a : Addr} {vs : List V} (h : ScAt K H a vs) : SqL K H a vs := h.elim (fun ⟨o, e⟩ => .inl (.inr ⟨o, e⟩)) .inr
mutual
def Rp (K : PySem.W.Frag) (H : Hp) (μ : List Addr) : D → V → Prop
  | .non, v => v = .non
  | .bl b, v => v = .bl b
  | .int i, v => v = .int i
  | .str x, v => v = .str x
  | .ref n, v => ∃ a, μ[n]? = some a ∧ v = .ref a
  | .scr ns, v => ∃ a, v = .ref a ∧ ScAt K H a (ns.map V.int)
  | .tup ds, v => ∃ a vs, v = .ref a ∧ TpAt H a vs ∧ Rps K H μ ds vs
  | .wt ds, v => ∃ a vs, v = .ref a ∧ WtAt K H a vs ∧ Rps K H μ ds vs
def Rps (K : PySem.W.Frag) (H : Hp) (μ : List Addr) : List D → List V → Prop
  | [], vs => vs = []
  | d :: ds, vs => ∃ v r, vs = v :: r ∧ Rp K H μ d v ∧ Rps K H μ ds r
end
def toKey : D → Option Key
  | .int i => some (.inl i)
  | .str x => some (.inr x)
  | _ => none
def toKeys : List D → Option (List Key)
  | [] => some []
  | d :: ds => match toKey d, toKeys ds with
    | some k, some ks => some (k :: ks)
    | _, _ => none
def RpK (K : PySem.W.Frag) (H : Hp) (μ : List Addr) : List (D × D) → List (Key × V) → Prop
  | [], vs => vs = []
  | p :: ds, vs => ∃ k v r, vs = (k, v) :: r ∧ toKey p.1 = some k ∧ Rp K H μ p.2 v ∧ RpK K H μ ds r
def RpT (K : PySem.W.Frag) (H : Hp) (μ : List Addr) : List (D × D) → List (List Key × V) → Prop
  | [], vs => vs = []
  | p :: ds, vs => ∃ ks k v r, p.1 = .tup ks ∧ vs = (k, v) :: r ∧ toKeys ks = some k ∧ Rp K H μ p.2 v ∧ RpT K H μ ds r
mutual
def toNK : D → Option NestedKey
  | .int i => some (.num i)
  | .tup ds => match toNKs ds with
    | some ks => some (.tup ks)
    | none => none
  | _ => none
def toNKs : List D → Option (List NestedKey)
  | [] => some []
  | d :: ds => match toNK d, toNKs ds with
    | some k, some ks => some (k :: ks)
    | _, _ => none
end
def dnP (a : Addr) (kas : List (NestedKey × Addr)) : Heap → Prop := fun h => kas.length ≤ sizeLine ∧ (a == sysModules) = false ∧ (kas.map (·.1)).Nodup ∧
  ∃ (o : Obj) (es : Array DictEntry) (ep : Nat), h.get? a = some o ∧ o.ExactDict ∧ o.data = .dict es ep ∧ ∀ w : World, es.toList = kas.map fun p => (⟨p.1.hash w, .ref p.2, .bool true⟩ : DictEntry)
def RpN (K : PySem.W.Frag) (H : Hp) (μ : List Addr) : List D → List (NestedKey × Addr) → Prop
  | [], as => as = []
  | d :: ds, as => ∃ k a r, as = (k, a) :: r ∧ toNK d = some k ∧ k.depth ≤ 8 ∧ Rp K H μ d (.ref a) ∧ RpN K H μ ds r
def excP (a C : Addr) : Heap → Prop := fun h => ∃ oe, PySem.W.InstAt h a oe C none
def lamQ (x : Str) : Str := (x ++ ".<locals>.") ++ "<lambda>"
def TabFor (K : PySem.W.Frag) (x : Str) (P : Addr) : Prop := ∃ (f c : Addr) (o : Obj) (fd : FuncData), PySem.W.nsIn K mainGlobals x = some (some (.ref f)) ∧ K.lookup f = some o ∧ o.data = .func fd ∧ fd.code = .ref c ∧ PySem.W.codeHdIn K c P = true
abbrev codeU (oc : Obj) : HO := .frz oc (.ext fun _ => True)
def kName : Key → Str
  | .inr x => x
  | .inl _ => ""
abbrev fsOf (vs : List (Key × V)) : List (Str × V) := vs.map fun p => (kName p.1, p.2)
def KNd : List (D × D) → Prop
  | [] => True
  | p :: r => (∀ q ∈ r, q.1 ≠ p.1) ∧ KNd r
def Ro (K : PySem.W.Frag) (H : Hp) (μ : List Addr) : O → Option HO → Prop
  | .lst xs, h => ∃ vs, h = some (.lst vs) ∧ Rps K H μ xs vs
  | .dic kvs, h => KNd kvs ∧ ((∃ vs, h = some (.dK vs) ∧ RpK K H μ kvs vs) ∨ ∃ vs, h = some (.dT vs) ∧ RpT K H μ kvs vs)
  | .dicN ks, h => ∃ a kas, h = some (.ext (dnP a kas)) ∧ RpN K H μ ks kas
  | .dicM ks, h => ∃ a kas od, h = some (.frz od (.ext (dnP a kas))) ∧ RpN K H μ ks kas
  | .ins c kvs, h => ∃ C dx vs, h = some (.ins C dx (fsOf vs)) ∧ PySem.W.nsIn K mainGlobals c = some (some (.ref C)) ∧ RpK K H μ kvs vs
  | .tab x, h => ∃ ps : Array Value, h = some (.tbl ps) ∧ TriplesOk ps.toList ∧ ∀ (pos : Pos) (cv : Value), codeAmong pos ps.toList = some cv → ∃ (c : Addr) (oc : Obj) (vs : Array Value) (t : Tok), cv = .ref c ∧ H c = some (codeU oc) ∧ oc.data = .fields vs ∧ vs[1]? = some (.str (lamQ x) t)
  | .exc c, h => ∃ a C, h = some (.ext (excP a C)) ∧ PySem.W.nsIn K mainGlobals c = some (some (.ref C))
  | .dicL kvs, h => KNd kvs ∧ ((∃ o vs, h = some (.frz o (.dK vs)) ∧ RpK K H μ kvs vs) ∨ ∃ o vs, h = some (.frz o (.dT vs)) ∧ RpT K H μ kvs vs)
structure RelH (K : PySem.W.Frag) (H : Hp) (μ : List Addr) (hp : Hd) : Prop where
  len : μ.length = hp.length
  nd : μ.Nodup
  obj : ∀ (n : Nat) (o : O) (a : Addr), hp[n]? = some o → μ[n]? = some a → Ro K H μ o (H a)
  tabs : ∀ (n : Nat) (x : Str) (a : Addr), hp[n]? = some (.tab x) → μ[n]? = some a → TabFor K x a
structure Ext (μ : List Addr) (H : Hp) (μ' : List Addr) (H' : Hp) : Prop where
  pre : ∃ ν, μ' = μ ++ ν
  new : ∀ a o, a ∉ μ → H a = some o → a ∉ μ'
  keep : ∀ a o, a ∉ μ → H a = some o → H' a = some o
  tups : ∀ a xs, H a = some (.tup xs) → H' a = some (.tup xs)
  scrs : ∀ a o xs, H a = some (.frz o xs) → H' a = some (.frz o xs)
structure Mon (μ : List Addr) (H : Hp) (μ' : List Addr) (H' : Hp) : Prop where
  pre : ∃ ν, μ' = μ ++ ν
  tups : ∀ a xs, H a = some (.tup xs) → H' a = some (.tup xs)
  scrs : ∀ a o u, ((∃ xs, u = .lst xs) ∨ (∃ xs, u = .tup xs) ∨ ∃ φ, u = .ext φ) → H a = some (.frz o u) → H' a = some (.frz o u)
def Rl (K : PySem.W.Frag) (H : Hp) (μ : List Addr) (ls : Ls) (σ : St) : Prop :=
  σ.length = ls.length ∧ ∀ (i : Nat) (d : D), ls[i]? = some (some d) → ∃ v, σ[i]? = some (some v) ∧ Rp K H μ d v
section
variable {K : PySem.W.Frag} {H H' H2 : Hp} {μ μ' μ2 : List Addr} {hp hp' : Hd} {ls : Ls} {σ : St}
theorem Ext.refl : Ext μ H μ H := ⟨⟨[], by simp⟩, fun _ _ h _ => h, fun _ _ _ h => h, fun _ _ h => h, fun _ _ _ h => h⟩
theorem Ext.trans (x : Ext μ H μ' H') (y : Ext μ' H' μ2 H2) : Ext μ H μ2 H2 := by
  obtain ⟨ν, e1⟩ := x.pre
  obtain ⟨ν2, e2⟩ := y.pre
  exact ⟨⟨ν ++ ν2, by rw [e2, e1, List.append_assoc]⟩, fun a o hn e => y.new a o (x.new a o hn e) (x.keep a o hn e), fun a o hn e => y.keep a o (x.new a o hn e) (x.keep a o hn e),
    fun a xs e => y.tups a xs (x.tups a xs e), fun a o xs e => y.scrs a o xs (x.scrs a o xs e)⟩
theorem Ext.m (x : Ext μ H μ' H') : Mon μ H μ' H' := ⟨x.pre, x.tups, fun a o xs _ e => x.scrs a o _ e⟩
theorem Mon.at_ (x : Mon μ H μ' H') {n : Nat} {a : Addr} (h : μ[n]? = some a) : μ'[n]? = some a := by
  obtain ⟨ν, e⟩ := x.pre
  rw [e, List.getElem?_append_left (List.getElem?_eq_some_iff.mp h).1]
  exact h
theorem TpAt.mon (x : Mon μ H μ' H') {a : Addr} {vs : List V} (h : TpAt H a vs) : TpAt H' a vs := x.tups _ _ h
theorem ScAt.mon (x : Mon μ H μ' H') {a : Addr} {vs : List V} (h : ScAt K H a vs) : ScAt K H' a vs := h.elim (fun ⟨o, e⟩ => .inl ⟨o, x.scrs _ _ _ (.inl ⟨_, rfl⟩) e⟩) .inr
theorem WtAt.mon (x : Mon μ H μ' H') {a : Addr} {vs : List V} (h : WtAt K H a vs) : WtAt K H' a vs := h.elim (fun ⟨o, d, e⟩ => .inl ⟨o, d, x.scrs _ _ _ (.inr (.inl ⟨_, rfl⟩)) e⟩) .inr
mutual
theorem Rp.mon (x : Mon μ H μ' H') : ∀ {d : D} {v : V}, Rp K H μ d v → Rp K H' μ' d v
  | .non, _, h => by rw [Rp] at *; exact h
  | .bl b, _, h => by rw [Rp] at *; exact h
  | .int i, _, h => by rw [Rp] at *; exact h
  | .str s, _, h => by rw [Rp] at *; exact h
  | .ref n, _, h => by
    rw [Rp] at *
    obtain ⟨a, e, r⟩ := h
    exact ⟨a, x.at_ e, r⟩
  | .scr ns, _, h => by
    rw [Rp] at *
    obtain ⟨a, e, r⟩ := h
    exact ⟨a, e, r.mon x⟩
  | .tup ds, _, h => by
    rw [Rp] at *
    obtain ⟨a, vs, e, t, r⟩ := h
    exact ⟨a, vs, e, t.mon x, Rps.mon x r⟩
  | .wt ds, _, h => by
    rw [Rp] at *
    obtain ⟨a, vs, e, t, r⟩ := h
    exact ⟨a, vs, e, t.mon x, Rps.mon x r⟩
theorem Rps.mon (x : Mon μ H μ' H') : ∀ {ds : List D} {vs : List V}, Rps K H μ ds vs → Rps K H' μ' ds vs
  | [], _, h => by rw [Rps] at *; exact h
  | d :: ds, _, h => by
    rw [Rps] at *
    obtain ⟨v, r, e, h1, h2⟩ := h
    exact ⟨v, r, e, Rp.mon x h1, Rps.mon x h2⟩
end
theorem RpK.mon (x : Mon μ H μ' H') : ∀ {ds : List (D × D)} {vs : List (Key × V)}, RpK K H μ ds vs → RpK K H' μ' ds vs
  | [], _, h => by rw [RpK] at *; exact h
  | d :: ds, _, h => by
    rw [RpK] at *
    obtain ⟨k, v, r, e, h1, h2, h3⟩ := h
    exact ⟨k, v, r, e, h1, h2.mon x, RpK.mon x h3⟩
theorem RpT.mon (x : Mon μ H μ' H') : ∀ {ds : List (D × D)} {vs : List (List Key × V)}, RpT K H μ ds vs → RpT K H' μ' ds vs
  | [], _, h => by rw [RpT] at *; exact h
  | d :: ds, _, h => by
    rw [RpT] at *
    obtain ⟨ks, k, v, r, e0, e, h1, h2, h3⟩ := h
    exact ⟨ks, k, v, r, e0, e, h1, h2.mon x, RpT.mon x h3⟩
theorem RpN.mon (x : Mon μ H μ' H') : ∀ {ds : List D} {as : List (NestedKey × Addr)}, RpN K H μ ds as → RpN K H' μ' ds as
  | [], _, h => by rw [RpN] at *; exact h
  | d :: ds, _, h => by
    rw [RpN] at *
    obtain ⟨k, a, r, e, h1, h2, h3, h4⟩ := h
    exact ⟨k, a, r, e, h1, h2, h3.mon x, RpN.mon x h4⟩
theorem Rl.mon (x : Mon μ H μ' H') (h : Rl K H μ ls σ) : Rl K H' μ' ls σ := ⟨h.1, fun i d e => let ⟨v, e1, r⟩ := h.2 i d e; ⟨v, e1, r.mon x⟩⟩
theorem Ro.mon (x : Mon μ H μ' H') {o : O} {h : Option HO} (r : Ro K H μ o h) : Ro K H' μ' o h := by
  cases o with
  | lst xs => obtain ⟨vs, e, q⟩ := r; exact ⟨vs, e, q.mon x⟩
  | dic kvs =>
    rcases r with ⟨nd, ⟨vs, e, q⟩ | ⟨vs, e, q⟩⟩
    · exact ⟨nd, .inl ⟨vs, e, q.mon x⟩⟩
    · exact ⟨nd, .inr ⟨vs, e, q.mon x⟩⟩
  | dicN ks => obtain ⟨a, kas, e, q⟩ := r; exact ⟨a, kas, e, q.mon x⟩
  | dicM ks => obtain ⟨a, kas, od, e, q⟩ := r; exact ⟨a, kas, od, e, q.mon x⟩
  | ins c kvs => obtain ⟨C, dx, vs, e, hc, q⟩ := r; exact ⟨C, dx, vs, e, hc, q.mon x⟩
  | exc c => exact r
  | tab c =>
    obtain ⟨ps, e, t, q⟩ := r
    refine ⟨ps, e, t, fun pos cv hc => ?_⟩
    obtain ⟨c, oc, vs, t, e1, e2, e3⟩ := q pos cv hc
    exact ⟨c, oc, vs, t, e1, x.scrs _ _ _ (.inr (.inr ⟨_, rfl⟩)) e2, e3⟩
  | dicL kvs =>
    rcases r with ⟨nd, ⟨o, vs, e, q⟩ | ⟨o, vs, e, q⟩⟩
    · exact ⟨nd, .inl ⟨o, vs, e, q.mon x⟩⟩
    · exact ⟨nd, .inr ⟨o, vs, e, q.mon x⟩⟩
theorem Ro.some {o : O} {h : Option HO} (r : Ro K H μ o h) : ∃ u, h = some u ∧ ∀ xs, u ≠ .tup xs := by
  cases o with
  | lst xs => obtain ⟨vs, e, q⟩ := r; exact ⟨_, e, fun _ z => nomatch z⟩
  | dic kvs =>
    rcases r with ⟨nd, ⟨vs, e, q⟩ | ⟨vs, e, q⟩⟩ <;> exact ⟨_, e, fun _ z => nomatch z⟩
  | dicN ks => obtain ⟨a, kas, e, q⟩ := r; exact ⟨_, e, fun _ z => nomatch z⟩
  | dicM ks => obtain ⟨a, kas, od, e, q⟩ := r; exact ⟨_, e, fun _ z => nomatch z⟩
  | ins c kvs => obtain ⟨C, dx, vs, e, q⟩ := r; exact ⟨_, e, fun _ z => nomatch z⟩
  | exc c => obtain ⟨a, C, e, q⟩ := r; exact ⟨_, e, fun _ z => nomatch z⟩
  | tab c => obtain ⟨ps, e, q⟩ := r; exact ⟨_, e, fun _ z => nomatch z⟩
  | dicL kvs =>
    rcases r with ⟨nd, ⟨o, vs, e, q⟩ | ⟨o, vs, e, q⟩⟩ <;> exact ⟨_, e, fun _ z => nomatch z⟩
theorem Rp.ext (x : Ext μ H μ' H') {d : D} {v : V} (h : Rp K H μ d v) : Rp K H' μ' d v := h.mon x.m
theorem Rps.ext (x : Ext μ H μ' H') {d : List D} {v : List V} (h : Rps K H μ d v) : Rps K H' μ' d v := h.mon x.m
theorem Rl.ext (x : Ext μ H μ' H') (h : Rl K H μ ls σ) : Rl K H' μ' ls σ := h.mon x.m
theorem TpAt.ext (x : Ext μ H μ' H') {a : Addr} {vs : List V} (h : TpAt H a vs) : TpAt H' a vs := h.mon x.m
theorem RelH.at_ (r : RelH K H μ hp) {n : Nat} {o : O} (h : hp[n]? = some o) : ∃ a, μ[n]? = some a ∧ Ro K H μ o (H a) := by
  have hl := (List.getElem?_eq_some_iff.mp h).1
  rw [← r.len] at hl
  exact ⟨μ[n], List.getElem?_eq_getElem hl, r.obj n o _ h (List.getElem?_eq_getElem hl)⟩
theorem RelH.taken (r : RelH K H μ hp) {a : Addr} (h : a ∈ μ) : ∃ u, H a = some u ∧ ∀ xs, u ≠ .tup xs := by
  obtain ⟨n, hn, e⟩ := List.mem_iff_getElem.mp h
  have hn' : n < hp.length := by rw [← r.len]; exact hn
  exact (r.obj n hp[n] a (List.getElem?_eq_getElem hn') (by rw [List.getElem?_eq_getElem hn, e])).some
theorem RelH.notIn (r : RelH K H μ hp) {a : Addr} (h : H a = none) : a ∉ μ := fun m => by
  obtain ⟨u, e, _⟩ := r.taken m
  rw [h] at e
  cases e
theorem Ext.laid (r : RelH K H μ hp) {p : Addr} {o : HO} (h : H p = none) : Ext μ H μ (upd H p o) :=
  ⟨⟨[], by simp⟩, fun _ _ n _ => n, fun a u _ e => by rw [upd_ne (ne_of_none e h)]; exact e, fun a xs e => by rw [upd_ne (ne_of_none e h)]; exact e, fun a o xs e => by rw [upd_ne (ne_of_none e h)]; exact e⟩
theorem RelH.laid (r : RelH K H μ hp) {p : Addr} {o : HO} (h : H p = none) : RelH K (upd H p o) μ hp :=
  ⟨r.len, r.nd, fun n ob a e1 e2 => by
    have q := r.obj n ob a e1 e2
    obtain ⟨u, e, _⟩ := q.some
    rw [upd_ne (ne_of_none e h)]
    exact q.mon (Ext.laid r h).m, r.tabs⟩
theorem Mon.grow {p : Addr} : Mon μ H (μ ++ [p]) H := ⟨⟨[p], rfl⟩, fun _ _ e => e, fun _ _ _ _ e => e⟩
theorem Ext.place {p : Addr} (x : Ext μ H μ' H') (hp0 : H p = none) : Ext μ H (μ' ++ [p]) H' := by
  obtain ⟨ν, e⟩ := x.pre
  refine ⟨⟨ν ++ [p], by rw [e, List.append_assoc]⟩, fun a o n e1 hm => ?_, x.keep, x.tups, x.scrs⟩
  rcases List.mem_append.mp hm with hm | hm
  · exact x.new a o n e1 hm
  · have : a = p := by simpa using hm
    subst this
    rw [hp0] at e1
    cases e1
theorem RelH.place (r : RelH K H μ hp) {p : Addr} {o : O} (hn : p ∉ μ) (q : Ro K H (μ ++ [p]) o (H p)) (nt : ∀ x, o ≠ .tab x := by intro _ z; exact nomatch z) : RelH K H (μ ++ [p]) (hp ++ [o]) := by
  refine ⟨by simp [r.len], List.nodup_append.mpr ⟨r.nd, by simp, fun a ha b hb => ?_⟩, fun n ob a e1 e2 => ?_, fun n x a e1 e2 => ?_⟩
  · have : b = p := by simpa using hb
    subst this
    intro e
    subst e
    exact hn ha
  · by_cases hl : n < hp.length
    · rw [List.getElem?_append_left hl] at e1
      rw [List.getElem?_append_left (by rw [r.len]; exact hl)] at e2
      exact (r.obj n ob a e1 e2).mon Mon.grow
    · have hl2 : n < (hp ++ [o]).length := (List.getElem?_eq_some_iff.mp e1).1
      have : n = hp.length := by
        simp at hl2
        omega
      subst this
      rw [List.getElem?_append_right (Nat.le_refl _)] at e1
      rw [List.getElem?_append_right (by rw [r.len]; exact Nat.le_refl _)] at e2
      simp [r.len] at e1 e2
      subst e1; subst e2
      exact q
  · by_cases hl : n < hp.length
    · rw [List.getElem?_append_left hl] at e1
      rw [List.getElem?_append_left (by rw [r.len]; exact hl)] at e2
      exact r.tabs n x a e1 e2
    · have hl2 : n < (hp ++ [o]).length := (List.getElem?_eq_some_iff.mp e1).1
      have : n = hp.length := by
        simp at hl2
        omega
      subst this
      rw [List.getElem?_append_right (Nat.le_refl _)] at e1
      simp at e1
      exact absurd e1 (nt x)
theorem RelH.put (r : RelH K H μ hp) {n : Nat} {a : Addr} {o : O} {u : HO} (h : μ[n]? = some a) (q : Ro K (upd H a u) μ o (some u)) {u1 : HO} (e1 : H a = some u1 := by assumption) (nf : ∀ ob w, u1 ≠ .frz ob w := by intro _ _ z; exact nomatch z) (ntb : ∀ x, o ≠ .tab x := by intro _ z; exact nomatch z) : RelH K (upd H a u) μ (hp.set n o) ∧ Ext μ H μ (upd H a u) := by
  have ha : a ∈ μ := List.mem_of_getElem? h
  obtain ⟨u0, e0, nt⟩ := r.taken ha
  have x : Ext μ H μ (upd H a u) := by
    refine ⟨⟨[], by simp⟩, fun _ _ n _ => n, fun b v hb e => ?_, fun b xs e => ?_, fun b ob xs e => ?_⟩
    · rw [upd_ne (show b ≠ a from fun z => hb (by rw [z]; exact ha))]
      exact e
    · rw [upd_ne (fun z => ?_)]
      · exact e
      · subst z
        rw [e0] at e
        exact nt _ (Option.some.inj e)
    · rw [upd_ne (fun z => ?_)]
      · exact e
      · subst z
        rw [e1] at e
        exact nf _ _ (Option.some.inj e)
  refine ⟨⟨by simp [r.len], r.nd, fun m ob b e1 e2 => ?_, fun m y b e1 e2 => ?_⟩, x⟩
  rotate_left
  · by_cases hm : m = n
    · subst hm
      have hl : m < hp.length := by rw [← r.len]; exact (List.getElem?_eq_some_iff.mp h).1
      rw [List.getElem?_set_self hl] at e1
      exact absurd (Option.some.inj e1) (ntb y)
    · rw [List.getElem?_set_ne (Ne.symm hm)] at e1
      exact r.tabs m y b e1 e2
  by_cases hm : m = n
  · subst hm
    rw [h] at e2
    cases e2
    have hl : m < hp.length := by rw [← r.len]; exact (List.getElem?_eq_some_iff.mp h).1
    rw [List.getElem?_set_self hl] at e1
    cases e1
    rw [upd_same]
    exact q
  · rw [List.getElem?_set_ne (Ne.symm hm)] at e1
    have hb : b ≠ a := fun z => by
      subst z
      obtain ⟨h1, h2⟩ := List.getElem?_eq_some_iff.mp h
      obtain ⟨h3, h4⟩ := List.getElem?_eq_some_iff.mp e2
      exact hm ((List.getElem_inj r.nd).mp (h4.trans h2.symm))
    rw [upd_ne hb]
    exact (r.obj m ob b e1 e2).mon x.m
end
end Ve
namespace Ve
open PySem PySem.Spec L2
abbrev AE := Ls → Hd → Option (D × Hd)
abbrev AT := Ls → Hd → Option (Bool × Hd)
abbrev AA := Ls → Hd → Option (List D × Hd)
def tD (K : PySem.W.Frag) (f : AE) : TE := fun σ H Q => ∃ ls hp μ d hp', Rl K H μ ls σ ∧ RelH K H μ hp ∧ f ls hp = some (d, hp') ∧
  ∀ v H' μ', Ext μ H μ' H' → RelH K H' μ' hp' → Rp K H' μ' d v → Q v H'
def tT (K : PySem.W.Frag) (f : AT) : TT := fun σ H Q => ∃ ls hp μ b hp', Rl K H μ ls σ ∧ RelH K H μ hp ∧ f ls hp = some (b, hp') ∧
  ∀ H' μ', Ext μ H μ' H' → RelH K H' μ' hp' → Q b H'
def tAs (K : PySem.W.Frag) (f : AA) : TA := fun σ H Q => ∃ ls hp μ ds hp', Rl K H μ ls σ ∧ RelH K H μ hp ∧ f ls hp = some (ds, hp') ∧
  ∀ vs H' μ', Ext μ H μ' H' → RelH K H' μ' hp' → Rps K H' μ' ds vs → Q vs H'
def tL (K : PySem.W.Frag) (f : AA) : TE := fun σ H Q => ∃ ls hp μ ds hp', Rl K H μ ls σ ∧ RelH K H μ hp ∧ f ls hp = some (ds, hp') ∧
  ∀ a vs H' μ', Ext μ H μ' H' → RelH K H' μ' hp' → H a = none → a ∉ μ' → H' a = some (.lst vs) → Rps K H' μ' ds vs → Q (.ref a) H'
abbrev DE (X : Cx) (e : Expr) (f : AE) : Prop := PE X e (tD X.K f)
abbrev DT (X : Cx) (e : Expr) (f : AT) : Prop := PT X e (tT X.K f)
abbrev DW (X : Cx) (e : Expr) (f : AT) : Prop := PW X e (tT X.K f)
abbrev DA (X : Cx) (es : List Expr) (f : AA) : Prop := PA X es (tAs X.K f)
abbrev LE (X : Cx) (e : Expr) (f : AA) : Prop := PE X e (tL X.K f)
theorem PE.imp {X : Cx} {e : Expr} {t t' : TE} (h : PE X e t) (i : ∀ σ H Q, t' σ H Q → t σ H Q) : PE X e t' := ⟨fun pins s σ H Q I q => h.run pins s σ H Q I (i σ H Q q)⟩
theorem PT.imp {X : Cx} {e : Expr} {t t' : TT} (h : PT X e t) (i : ∀ σ H Q, t' σ H Q → t σ H Q) : PT X e t' := ⟨fun pins s σ H Q I q => h.run pins s σ H Q I (i σ H Q q)⟩
theorem PW.imp {X : Cx} {e : Expr} {t t' : TT} (h : PW X e t) (i : ∀ σ H Q, t' σ H Q → t σ H Q) : PW X e t' := ⟨fun w pins s σ H Q I q => h.run w pins s σ H Q I (i σ H Q q)⟩
theorem PA.imp {X : Cx} {e : List Expr} {t t' : TA} (h : PA X e t) (i : ∀ σ H Q, t' σ H Q → t σ H Q) : PA X e t' := ⟨fun p pins s σ H Q I q => h.run p pins s σ H Q I (i σ H Q q)⟩
theorem PS.imp {X : Cx} {e : Stmt} {t t' : TS} (h : PS X e t) (i : ∀ D σ H, t' D σ H → t D σ H) : PS X e t' := ⟨fun pins s σ H Q I q => h.run pins s σ H Q I (i Q σ H q)⟩
theorem PSs.imp {X : Cx} {e : List Stmt} {t t' : TS} (h : PSs X e t) (i : ∀ D σ H, t' D σ H → t D σ H) : PSs X e t' := ⟨fun pins s σ H Q I q => h.run pins s σ H Q I (i Q σ H q)⟩
def mVar (i : Nat) : AE := fun ls hp => match ls[i]? with
  | some (some d) => some (d, hp)
  | _ => none
def mC (d : D) : AE := fun _ hp => some (d, hp)
def m2 (fa fb : AE) (g : D → D → Hd → Option (D × Hd)) : AE := fun ls hp => match fa ls hp with
  | some (a, hp1) => match fb ls hp1 with
    | some (b, hp2) => g a b hp2
    | none => none
  | none => none
def m1 (fa : AE) (g : D → Hd → Option (D × Hd)) : AE := fun ls hp => match fa ls hp with
  | some (a, hp1) => g a hp1
  | none => none
def mT (fa : AE) : AT := fun ls hp => match fa ls hp with
  | some (.bl b, hp1) => some (b, hp1)
  | _ => none
def mNil : AA := fun _ hp => some ([], hp)
def mCons (fa : AE) (fr : AA) : AA := fun ls hp => match fa ls hp with
  | some (a, hp1) => match fr ls hp1 with
    | some (r, hp2) => some (a :: r, hp2)
    | none => none
  | none => none
def mAs (fa : AA) (g : List D → Hd → Option (D × Hd)) : AE := fun ls hp => match fa ls hp with
  | some (a, hp1) => g a hp1
  | none => none
def mNew (f : AA) : AE := fun ls hp => match f ls hp with
  | some (ds, hp1) => some (.ref hp1.length, hp1 ++ [.lst ds])
  | none => none
section
variable {X : Cx} {e a b : Expr} {es : List Expr} {fa fb : AE} {ft : AT} {fr : AA} {pos : Pos}
theorem de_var (i : Nat) {x : Str} (hN : X.N[i]? = some x := by rfl) (hv : Vis X.env.scope x := by first | exact Or.inl rfl | exact Or.inr (Or.inl rfl) | exact Or.inr (Or.inr rfl))
    (hd : (x == ("__debug__" : Str)) = false := by decide) (hcd : (x == ("__classdict__" : Str)) = false := by decide) : DE X (.Name x pos) (mVar i) :=
  PE.imp (pe_var hN hv hd hcd) fun σ H Q ⟨ls, hp, μ, d, hp', rl, rh, e, q⟩ => by
    unfold mVar at e
    split at e
    · rename_i d' e1
      cases e
      obtain ⟨v, e2, r⟩ := rl.2 i _ e1
      exact ⟨v, e2, q v H μ Ext.refl rh r⟩
    · cases e
theorem de_c {v : V} {d : D} {e : Expr} (h : PE X e (tC v)) (hd : ∀ H μ, Rp X.K H μ d v) : DE X e (mC d) :=
  PE.imp h fun σ H Q ⟨ls, hp, μ, d', hp', rl, rh, e, q⟩ => by
    cases e
    exact q v H μ Ext.refl rh (hd H μ)
theorem de_int {i j} : DE X (.Constant (.int i) j pos) (mC (.int i)) := de_c pe_int fun _ _ => by rw [Rp]
theorem de_bl {c j} : DE X (.Constant (.bool c) j pos) (mC (.bl c)) := de_c pe_bl fun _ _ => by rw [Rp]
def RD (K : PySem.W.Frag) (g : D → D → Hd → Option (D × Hd)) : R2 := fun x y H Q => ∃ hp μ d1 d2 d hp', RelH K H μ hp ∧ Rp K H μ d1 x ∧ Rp K H μ d2 y ∧ g d1 d2 hp = some (d, hp') ∧
  ∀ v H' μ', Ext μ H μ' H' → RelH K H' μ' hp' → Rp K H' μ' d v → Q v H'
def RD1 (K : PySem.W.Frag) (g : D → Hd → Option (D × Hd)) : V → Hp → VK → Prop := fun x H Q => ∃ hp μ d1 d hp', RelH K H μ hp ∧ Rp K H μ d1 x ∧ g d1 hp = some (d, hp') ∧
  ∀ v H' μ', Ext μ H μ' H' → RelH K H' μ' hp' → Rp K H' μ' d v → Q v H'
def RDs (K : PySem.W.Frag) (g : List D → Hd → Option (D × Hd)) : List V → Hp → VK → Prop := fun xs H Q => ∃ hp μ ds d hp', RelH K H μ hp ∧ Rps K H μ ds xs ∧ g ds hp = some (d, hp') ∧
  ∀ v H' μ', Ext μ H μ' H' → RelH K H' μ' hp' → Rp K H' μ' d v → Q v H'
theorem tOp_of {K : PySem.W.Frag} {g : D → D → Hd → Option (D × Hd)} {σ : St} {H : Hp} {Q : VK} (h : tD K (m2 fa fb g) σ H Q) : tOp (RD K g) (tD K fa) (tD K fb) σ H Q := by
  obtain ⟨ls, hp, μ, d, hp', rl, rh, e, q⟩ := h
  unfold m2 at e
  cases e1 : fa ls hp with
  | none => rw [e1] at e; cases e
  | some p1 =>
    obtain ⟨d1, hp1⟩ := p1
    rw [e1] at e
    dsimp only at e
    cases e2 : fb ls hp1 with
    | none => rw [e2] at e; cases e
    | some p2 =>
      obtain ⟨d2, hp2⟩ := p2
      rw [e2] at e
      dsimp only at e
      exact ⟨ls, hp, μ, d1, hp1, rl, rh, e1, fun v1 H1 μ1 x1 rh1 r1 => ⟨ls, hp1, μ1, d2, hp2, rl.ext x1, rh1, e2, fun v2 H2 μ2 x2 rh2 r2 =>
        ⟨hp2, μ2, d1, d2, d, hp', rh2, r1.ext x2, r2, e, fun v H' μ' x3 rh3 r3 => q v H' μ' ((x1.trans x2).trans x3) rh3 r3⟩⟩⟩
theorem tUn_of {K : PySem.W.Frag} {g : D → Hd → Option (D × Hd)} {σ : St} {H : Hp} {Q : VK} (h : tD K (m1 fa g) σ H Q) : tUn (RD1 K g) (tD K fa) σ H Q := by
  obtain ⟨ls, hp, μ, d, hp', rl, rh, e, q⟩ := h
  unfold m1 at e
  cases e1 : fa ls hp with
  | none => rw [e1] at e; cases e
  | some p1 =>
    obtain ⟨d1, hp1⟩ := p1
    rw [e1] at e
    dsimp only at e
    exact ⟨ls, hp, μ, d1, hp1, rl, rh, e1, fun v1 H1 μ1 x1 rh1 r1 => ⟨hp1, μ1, d1, d, hp', rh1, r1, e, fun v H' μ' x3 rh3 r3 => q v H' μ' (x1.trans x3) rh3 r3⟩⟩
theorem tCB_of {K : PySem.W.Frag} {g : List D → Hd → Option (D × Hd)} {σ : St} {H : Hp} {Q : VK} (h : tD K (mAs fr g) σ H Q) : tCB (RDs K g) (tAs K fr) σ H Q := by
  obtain ⟨ls, hp, μ, d, hp', rl, rh, e, q⟩ := h
  unfold mAs at e
  cases e1 : fr ls hp with
  | none => rw [e1] at e; cases e
  | some p1 =>
    obtain ⟨d1, hp1⟩ := p1
    rw [e1] at e
    dsimp only at e
    exact ⟨ls, hp, μ, d1, hp1, rl, rh, e1, fun v1 H1 μ1 x1 rh1 r1 => ⟨hp1, μ1, d1, d, hp', rh1, r1, e, fun v H' μ' x3 rh3 r3 => q v H' μ' (x1.trans x3) rh3 r3⟩⟩
theorem de_op {op : Operator} {g : D → D → Hd → Option (D × Hd)} (ho : OpR X (binaryOp op) (RD X.K g)) (ha : DE X a fa) (hb : DE X b fb) : DE X (.BinOp a op b pos) (m2 fa fb g) :=
  PE.imp (pe_op ho ha hb) fun _ _ _ h => tOp_of h
theorem de_un {op : UnaryOp} {g : D → Hd → Option (D × Hd)} (ho : UnR X (unaryOp op) (RD1 X.K g)) (ha : DE X a fa) : DE X (.UnaryOp op a pos) (m1 fa g) :=
  PE.imp (pe_un ho ha) fun _ _ _ h => tUn_of h
theorem de_cmp {op : CmpOp} {g : D → D → Hd → Option (D × Hd)} (ho : OpR X (compareOp op) (RD X.K g)) (ha : DE X a fa) (hb : DE X b fb) (hm : behindInMarks op b = false) : DE X (.Compare a [op] [b] pos) (m2 fa fb g) :=
  PE.imp (pe_cmpR ho ha hb hm) fun _ _ _ h => tOp_of h
theorem tTest_of {K : PySem.W.Frag} {t : TE} {f : AE} {σ : St} {H : Hp} {Q : Bool → Hp → Prop} (i : ∀ σ H Q, tD K f σ H Q → t σ H Q) (h : tT K (mT f) σ H Q) : tTest t σ H Q := by
  obtain ⟨ls, hp, μ, c, hp', rl, rh, e, q⟩ := h
  unfold mT at e
  split at e
  · rename_i c' hp1 e1
    cases e
    refine i _ _ _ ⟨ls, hp, μ, .bl c, hp', rl, rh, e1, fun v H' μ' x1 rh1 r1 => ?_⟩
    rw [Rp] at r1
    exact ⟨c, r1, q H' μ' x1 rh1⟩
  · cases e
theorem dt_cmp {op : CmpOp} {g : D → D → Hd → Option (D × Hd)} (ho : OpR X (compareOp op) (RD X.K g)) (ha : DE X a fa) (hb : DE X b fb) (hm : behindInMarks op b = false) : DT X (.Compare a [op] [b] pos) (mT (m2 fa fb g)) :=
  PT.imp (pt_cmpR ho ha hb hm) fun _ _ _ h => tTest_of (fun _ _ _ h => tOp_of h) h
theorem da_nil : DA X [] mNil := PA.imp pa_nil fun σ H Q ⟨ls, hp, μ, ds, hp', rl, rh, e, q⟩ => by
  cases e
  exact q [] H μ Ext.refl rh (by rw [Rps])
theorem da_cons (ha : DE X e fa) (hr : DA X es fr) (hs : starEach (e :: es) X.env = (false, eval e X.env) :: starEach es X.env := by rfl) : DA X (e :: es) (mCons fa fr) :=
  PA.imp (pa_cons ha hr hs) fun σ H Q ⟨ls, hp, μ, ds, hp', rl, rh, e, q⟩ => by
    unfold mCons at e
    cases e1 : fa ls hp with
    | none => rw [e1] at e; cases e
    | some p1 =>
      obtain ⟨d1, hp1⟩ := p1
      rw [e1] at e
      dsimp only at e
      cases e2 : fr ls hp1 with
      | none => rw [e2] at e; cases e
      | some p2 =>
        obtain ⟨d2, hp2⟩ := p2
        rw [e2] at e
        cases e
        exact ⟨ls, hp, μ, d1, hp1, rl, rh, e1, fun v1 H1 μ1 x1 rh1 r1 => ⟨ls, hp1, μ1, d2, hp', rl.ext x1, rh1, e2, fun v2 H2 μ2 x2 rh2 r2 =>
          q _ H2 μ2 (x1.trans x2) rh2 (by rw [Rps]; exact ⟨v1, v2, rfl, r1.ext x2, r2⟩)⟩⟩
theorem Rps.len {K : PySem.W.Frag} {H : Hp} {μ : List Addr} : ∀ {ds : List D} {vs : List V}, Rps K H μ ds vs → vs.length = ds.length
  | [], vs, h => by rw [Rps] at h; rw [h]; rfl
  | d :: ds, vs, h => by
    rw [Rps] at h
    obtain ⟨v, r, e, _, h2⟩ := h
    rw [e, List.length_cons, List.length_cons, Rps.len h2]
def mTup (fr : AA) : AE := fun ls hp => match fr ls hp with
  | some (ds, hp1) => if ds.length ≤ sizeLine then some (.tup ds, hp1) else none
  | none => none
def mLst (fr : AA) : AA := fun ls hp => match fr ls hp with
  | some (ds, hp1) => if ds.length ≤ sizeLine then some (ds, hp1) else none
  | none => none
theorem de_tup {x1} (h : DA X es fr) : DE X (.Tuple es x1 pos) (mTup fr) :=
  PE.imp (pe_tup h) fun σ H Q ⟨ls, hp, μ, d, hp', rl, rh, e, q⟩ => by
    unfold mTup at e
    cases e1 : fr ls hp with
    | none => rw [e1] at e; cases e
    | some p1 =>
      obtain ⟨ds, hp1⟩ := p1
      rw [e1] at e
      dsimp only at e
      split at e
      · rename_i hl
        cases e
        refine ⟨ls, hp, μ, ds, hp', rl, rh, e1, fun vs H1 μ1 x1 rh1 r1 => ⟨by rw [r1.len]; exact hl, fun p hp0 => ?_⟩⟩
        have x2 := Ext.laid rh1 (o := .tup vs) hp0
        exact q _ _ μ1 (x1.trans x2) (rh1.laid hp0) (by rw [Rp]; exact ⟨p, vs, rfl, upd_same, r1.ext x2⟩)
      · cases e
theorem le_lst (h : DA X es fr) : LE X (.List es pos) (mLst fr) :=
  PE.imp (pe_lst h) fun σ H Q ⟨ls, hp, μ, d, hp', rl, rh, e, q⟩ => by
    unfold mLst at e
    cases e1 : fr ls hp with
    | none => rw [e1] at e; cases e
    | some p1 =>
      obtain ⟨ds, hp1⟩ := p1
      rw [e1] at e
      dsimp only at e
      split at e
      · rename_i hl
        cases e
        refine ⟨ls, hp, μ, d, hp', rl, rh, e1, fun vs H1 μ1 x1 rh1 r1 => ⟨by rw [r1.len]; exact hl, fun p hp0 => ?_⟩⟩
        have x2 := Ext.laid rh1 (o := .lst vs) hp0
        have h0 : H p = none := by
          cases hh : H p with
          | none => rfl
          | some o =>
            exfalso
            by_cases hm : p ∈ μ
            · exact rh1.notIn hp0 (by
                obtain ⟨ν, e⟩ := x1.pre
                rw [e]
                exact List.mem_append_left _ hm)
            · have := x1.keep p o hm hh
              rw [hp0] at this
              cases this
        exact q p vs _ μ1 (x1.trans x2) (rh1.laid hp0) h0 (rh1.notIn hp0) upd_same (r1.ext x2)
      · cases e
theorem de_new {f : AA} (h : LE X e f) : DE X e (mNew f) :=
  PE.imp h fun σ H Q ⟨ls, hp, μ, d, hp', rl, rh, e, q⟩ => by
    unfold mNew at e
    cases e1 : f ls hp with
    | none => rw [e1] at e; cases e
    | some p1 =>
      obtain ⟨ds, hp1⟩ := p1
      rw [e1] at e
      cases e
      refine ⟨ls, hp, μ, ds, hp1, rl, rh, e1, fun a vs H1 μ1 x1 rh1 h0 hn hl r1 => ?_⟩
      refine q (.ref a) H1 (μ1 ++ [a]) (x1.place h0) (rh1.place hn ⟨vs, hl, r1.mon Mon.grow⟩) ?_
      rw [Rp]
      refine ⟨a, ?_, rfl⟩
      rw [List.getElem?_append_right (by rw [rh1.len]; exact Nat.le_refl _), rh1.len]
      simp
end
end Ve
namespace Ve
open PySem PySem.Spec L2
def gI (c : Int → Int → Bool) (g : Int → Int → D) : D → D → Hd → Option (D × Hd)
  | .int i, .int j, hp => if c i j then some (g i j, hp) else none
  | _, _, _ => none
theorem gI_some {c : Int → Int → Bool} {g : Int → Int → D} {a b d : D} {hp hp' : Hd} (h : gI c g a b hp = some (d, hp')) : ∃ i j, a = .int i ∧ b = .int j ∧ c i j = true ∧ d = g i j ∧ hp' = hp := by
  unfold gI at h
  split at h
  · rename_i i j
    split at h
    · rename_i hc
      cases h
      exact ⟨i, j, rfl, rfl, hc, rfl, rfl⟩
    · cases h
  · cases h
theorem Rp.intE {K : PySem.W.Frag} {H : Hp} {μ : List Addr} {i : Int} {v : V} (h : Rp K H μ (.int i) v) : v = .int i := by rw [Rp] at h; exact h
theorem Rp.blE {K : PySem.W.Frag} {H : Hp} {μ : List Addr} {i : Bool} {v : V} (h : Rp K H μ (.bl i) v) : v = .bl i := by rw [Rp] at h; exact h
theorem Rp.nonE {K : PySem.W.Frag} {H : Hp} {μ : List Addr} {v : V} (h : Rp K H μ .non v) : v = .non := by rw [Rp] at h; exact h
theorem Rp.strE {K : PySem.W.Frag} {H : Hp} {μ : List Addr} {i : Str} {v : V} (h : Rp K H μ (.str i) v) : v = .str i := by rw [Rp] at h; exact h
theorem Rp.refE {K : PySem.W.Frag} {H : Hp} {μ : List Addr} {n : Nat} {v : V} (h : Rp K H μ (.ref n) v) : ∃ a, μ[n]? = some a ∧ v = .ref a := by rw [Rp] at h; exact h
theorem Rp.scrE {K : PySem.W.Frag} {H : Hp} {μ : List Addr} {ns : List Int} {v : V} (h : Rp K H μ (.scr ns) v) : ∃ a, v = .ref a ∧ ScAt K H a (ns.map V.int) := by rw [Rp] at h; exact h
theorem Rp.tupE {K : PySem.W.Frag} {H : Hp} {μ : List Addr} {ds : List D} {v : V} (h : Rp K H μ (.tup ds) v) : ∃ a vs, v = .ref a ∧ TpAt H a vs ∧ Rps K H μ ds vs := by rw [Rp] at h; exact h
theorem Rp.wtE {K : PySem.W.Frag} {H : Hp} {μ : List Addr} {ds : List D} {v : V} (h : Rp K H μ (.wt ds) v) : ∃ a vs, v = .ref a ∧ WtAt K H a vs ∧ Rps K H μ ds vs := by rw [Rp] at h; exact h
theorem Rp.int {K : PySem.W.Frag} {H : Hp} {μ : List Addr} {i : Int} : Rp K H μ (.int i) (.int i) := by rw [Rp]
theorem Rp.bl {K : PySem.W.Frag} {H : Hp} {μ : List Addr} {i : Bool} : Rp K H μ (.bl i) (.bl i) := by rw [Rp]
theorem Rp.non {K : PySem.W.Frag} {H : Hp} {μ : List Addr} : Rp K H μ .non .non := by rw [Rp]
theorem Rp.str {K : PySem.W.Frag} {H : Hp} {μ : List Addr} {i : Str} : Rp K H μ (.str i) (.str i) := by rw [Rp]
section
variable {X : Cx}
theorem op_gI {f : Value → Value → Sem Value} {C : Int → Int → Prop} {c : Int → Int → Bool} {g : Int → Int → Int} (h : OpR X f (rI C fun i j => .int (g i j))) (hc : ∀ i j, c i j = true → C i j) :
    OpR X f (RD X.K (gI c fun i j => .int (g i j))) := fun pins s σ H x y v u Q I rx ry ⟨hp, μ, d1, d2, d, hp', rh, r1, r2, e, q⟩ => by
  obtain ⟨i, j, rfl, rfl, c1, rfl, rfl⟩ := gI_some e
  exact h pins s σ H x y v u Q I rx ry ⟨i, j, r1.intE, r2.intE, hc i j c1, q _ H μ Ext.refl rh Rp.int⟩
theorem op_gI0 {f : Value → Value → Sem Value} {c : Int → Int → Bool} {g : Int → Int → Int} (h : OpR X f (rI0 fun i j => .int (g i j))) :
    OpR X f (RD X.K (gI c fun i j => .int (g i j))) := fun pins s σ H x y v u Q I rx ry ⟨hp, μ, d1, d2, d, hp', rh, r1, r2, e, q⟩ => by
  obtain ⟨i, j, rfl, rfl, c1, rfl, rfl⟩ := gI_some e
  exact h pins s σ H x y v u Q I rx ry ⟨i, j, r1.intE, r2.intE, q _ H μ Ext.refl rh Rp.int⟩
theorem op_gB0 {f : Value → Value → Sem Value} {c : Int → Int → Bool} {g : Int → Int → Bool} (h : OpR X f (rI0 fun i j => .bl (g i j))) :
    OpR X f (RD X.K (gI c fun i j => .bl (g i j))) := fun pins s σ H x y v u Q I rx ry ⟨hp, μ, d1, d2, d, hp', rh, r1, r2, e, q⟩ => by
  obtain ⟨i, j, rfl, rfl, c1, rfl, rfl⟩ := gI_some e
  exact h pins s σ H x y v u Q I rx ry ⟨i, j, r1.intE, r2.intE, q _ H μ Ext.refl rh Rp.bl⟩
def gSub : D → D → Hd → Option (D × Hd) := gI (fun _ _ => true) fun i j => .int (i - j)
def cMul (i j : Int) : Bool := decide (((-(2 ^ 64) < i ∧ i < 2 ^ 64) ∨ (-(2 ^ 64) < j ∧ j < 2 ^ 64)) ∨ i.natAbs.log2 + j.natAbs.log2 < 1000000)
def gMul : D → D → Hd → Option (D × Hd) := gI cMul fun i j => .int (i * j)
def cDiv (_ j : Int) : Bool := decide (0 < j ∧ (j < 1073741824 ∨ j.natAbs.log2 < 9000))
def gDiv : D → D → Hd → Option (D × Hd) := gI cDiv fun i j => .int (i / j)
def gMod : D → D → Hd → Option (D × Hd) := gI (fun _ j => decide (0 < j)) fun i j => .int (i % j)
def cPow (i j : Int) : Bool := decide (0 ≤ j ∧ j ≤ 1000000 ∧ i.natAbs < 2 ^ 64)
def gPow : D → D → Hd → Option (D × Hd) := gI cPow fun i j => .int (i ^ j.toNat)
theorem o_sub : OpR X (binaryOp .Sub) (RD X.K gSub) := op_gI0 op_sub
theorem o_mul : OpR X (binaryOp .Mult) (RD X.K gMul) := fun pins s σ H x y v u Q I rx ry ⟨hp, μ, d1, d2, d, hp', rh, r1, r2, e, q⟩ => by
  obtain ⟨i, j, rfl, rfl, c1, rfl, rfl⟩ := gI_some e
  have q' := q _ H μ Ext.refl rh Rp.int
  rcases of_decide_eq_true c1 with c2 | c2
  · exact op_mul pins s σ H x y v u Q I rx ry ⟨i, j, r1.intE, r2.intE, c2, q'⟩
  · exact op_mulW pins s σ H x y v u Q I rx ry ⟨i, j, r1.intE, r2.intE, c2, q'⟩
theorem o_div : OpR X (binaryOp .FloorDiv) (RD X.K gDiv) := fun pins s σ H x y v u Q I rx ry ⟨hp, μ, d1, d2, d, hp', rh, r1, r2, e, q⟩ => by
  obtain ⟨i, j, rfl, rfl, c1, rfl, rfl⟩ := gI_some e
  have q' := q _ H μ Ext.refl rh Rp.int
  obtain ⟨c0, c2⟩ := of_decide_eq_true c1
  rcases c2 with c2 | c2
  · exact op_fdiv pins s σ H x y v u Q I rx ry ⟨i, j, r1.intE, r2.intE, ⟨c0, c2⟩, q'⟩
  · exact op_fdivW pins s σ H x y v u Q I rx ry ⟨i, j, r1.intE, r2.intE, ⟨c0, c2⟩, q'⟩
theorem o_mod : OpR X (binaryOp .Mod) (RD X.K gMod) := op_gI op_mod fun _ _ h => of_decide_eq_true h
theorem o_pow : OpR X (binaryOp .Pow) (RD X.K gPow) := op_gI op_pow fun i j h => (show 0 ≤ j ∧ j ≤ 1000000 ∧ i.natAbs < 2 ^ 64 from of_decide_eq_true h)
def gNeg : D → Hd → Option (D × Hd)
  | .int i, hp => some (.int (-i), hp)
  | _, _ => none
theorem u_neg : UnR X (unaryOp .USub) (RD1 X.K gNeg) := fun pins s σ H x v Q I rx ⟨hp, μ, d1, d, hp', rh, r1, e, q⟩ => by
  unfold gNeg at e
  split at e
  · rename_i i
    cases e
    exact un_neg pins s σ H x v Q I rx ⟨i, r1.intE, q _ H μ Ext.refl rh Rp.int⟩
  · cases e
def gAdd : D → D → Hd → Option (D × Hd)
  | .int i, .int j, hp => some (.int (i + j), hp)
  | .tup a, .tup b, hp => if a.length + b.length ≤ sizeLine then some (.tup (a ++ b), hp) else none
  | .str a, .str b, hp => if a.length + b.length ≤ sizeLine then some (.str (a ++ b), hp) else none
  | .int i, .bl b, hp => some (.int (i + (if b then 1 else 0)), hp)
  | .wt a, .tup b, hp => if (a.length + b.length ≤ sizeLine ∧ 0 < a.length) ∧ 0 < b.length then some (.tup (a ++ b), hp) else none
  | .tup a, .wt b, hp => if (a.length + b.length ≤ sizeLine ∧ 0 < a.length) ∧ 0 < b.length then some (.tup (a ++ b), hp) else none
  | .wt a, .wt b, hp => if (a.length + b.length ≤ sizeLine ∧ 0 < a.length) ∧ 0 < b.length then some (.tup (a ++ b), hp) else none
  | _, _, _ => none
theorem Rps.append {K : PySem.W.Frag} {H : Hp} {μ : List Addr} : ∀ {a b : List D} {vs ws : List V}, Rps K H μ a vs → Rps K H μ b ws → Rps K H μ (a ++ b) (vs ++ ws)
  | [], b, vs, ws, h, h2 => by rw [Rps] at h; rw [h]; exact h2
  | d :: ds, b, vs, ws, h, h2 => by
    rw [Rps] at h
    obtain ⟨v, r, e, h3, h4⟩ := h
    rw [e, List.cons_append, List.cons_append, Rps]
    exact ⟨v, _, rfl, h3, Rps.append h4 h2⟩
theorem Rps.nil {K : PySem.W.Frag} {H : Hp} {μ : List Addr} : Rps K H μ [] [] := by rw [Rps]
theorem Rps.nil_iff {K : PySem.W.Frag} {H : Hp} {μ : List Addr} {a : List D} {vs : List V} (h : Rps K H μ a vs) : vs = [] ↔ a = [] := by
  have := h.len
  constructor
  · intro e
    rw [e] at this
    exact List.eq_nil_of_length_eq_zero this.symm
  · intro e
    rw [e] at this
    exact List.eq_nil_of_length_eq_zero this
theorem Rp.tup {K : PySem.W.Frag} {H : Hp} {μ : List Addr} {ds : List D} {a : Addr} {vs : List V} (h : H a = some (.tup vs)) (r : Rps K H μ ds vs) : Rp K H μ (.tup ds) (.ref a) := by rw [Rp]; exact ⟨a, vs, rfl, h, r⟩
theorem Rp.tup' {K : PySem.W.Frag} {H : Hp} {μ : List Addr} {ds : List D} {a : Addr} {vs : List V} (h : TpAt H a vs) (r : Rps K H μ ds vs) : Rp K H μ (.tup ds) (.ref a) := by rw [Rp]; exact ⟨a, vs, rfl, h, r⟩
theorem o_add : OpR X (binaryOp .Add) (RD X.K gAdd) := fun pins s σ H x y v u Q I rx ry ⟨hp, μ, d1, d2, d, hp', rh, r1, r2, e, q⟩ => by
  unfold gAdd at e
  split at e
  · rename_i i j
    cases e
    exact op_add pins s σ H x y v u Q I rx ry ⟨i, j, r1.intE, r2.intE, q _ H μ Ext.refl rh Rp.int⟩
  · rename_i a b
    split at e
    · rename_i hl
      cases e
      obtain ⟨p1, vs, e1, t1, q1⟩ := r1.tupE
      obtain ⟨p2, ws, e2, t2, q2⟩ := r2.tupE
      refine op_catA pins s σ H x y v u Q I rx ry ⟨p1, p2, vs, ws, e1, e2, t1.sq, t2.sq, by rw [q1.len, q2.len]; exact hl, fun z => ?_, fun _ z => ?_, fun _ _ p h0 => ?_⟩
      · have := q1.nil_iff.mp z
        subst this
        exact q _ H μ Ext.refl rh (Rp.tup' t2 q2)
      · have := q2.nil_iff.mp z
        subst this
        rw [List.append_nil] at q
        exact q _ H μ Ext.refl rh (Rp.tup' t1 q1)
      · have x2 := Ext.laid rh (o := .tup (vs ++ ws)) h0
        exact q _ _ μ x2 (rh.laid h0) (Rp.tup upd_same ((q1.append q2).ext x2))
    · cases e
  · rename_i a b
    split at e
    · rename_i hl
      cases e
      exact op_add_str pins s σ H x y v u Q I rx ry ⟨a, b, r1.strE, r2.strE, hl, q _ H μ Ext.refl rh Rp.str⟩
    · cases e
  · rename_i i b
    cases e
    exact op_add_ib pins s σ H x y v u Q I rx ry ⟨i, b, r1.intE, r2.blE, q _ H μ Ext.refl rh Rp.int⟩
  · split at e
    · rename_i hl
      cases e
      obtain ⟨p1, vs, e1, t1, q1⟩ := r1.wtE
      obtain ⟨p2, ws, e2, t2, q2⟩ := r2.tupE
      refine op_catA pins s σ H x y v u Q I rx ry ⟨p1, p2, vs, ws, e1, e2, t1.sq, t2.sq, by rw [q1.len, q2.len]; exact hl.1.1, fun z => ?_, fun _ z => ?_, fun _ _ p h0 => ?_⟩
      · have := q1.len; rw [z] at this; simp at this; omega
      · have := q2.len; rw [z] at this; simp at this; omega
      · have x2 := Ext.laid rh (o := .tup (vs ++ ws)) h0
        exact q _ _ μ x2 (rh.laid h0) (Rp.tup upd_same ((q1.append q2).ext x2))
    · cases e
  · split at e
    · rename_i hl
      cases e
      obtain ⟨p1, vs, e1, t1, q1⟩ := r1.tupE
      obtain ⟨p2, ws, e2, t2, q2⟩ := r2.wtE
      refine op_catA pins s σ H x y v u Q I rx ry ⟨p1, p2, vs, ws, e1, e2, t1.sq, t2.sq, by rw [q1.len, q2.len]; exact hl.1.1, fun z => ?_, fun _ z => ?_, fun _ _ p h0 => ?_⟩
      · have := q1.len; rw [z] at this; simp at this; omega
      · have := q2.len; rw [z] at this; simp at this; omega
      · have x2 := Ext.laid rh (o := .tup (vs ++ ws)) h0
        exact q _ _ μ x2 (rh.laid h0) (Rp.tup upd_same ((q1.append q2).ext x2))
    · cases e
  · split at e
    · rename_i hl
      cases e
      obtain ⟨p1, vs, e1, t1, q1⟩ := r1.wtE
      obtain ⟨p2, ws, e2, t2, q2⟩ := r2.wtE
      refine op_catA pins s σ H x y v u Q I rx ry ⟨p1, p2, vs, ws, e1, e2, t1.sq, t2.sq, by rw [q1.len, q2.len]; exact hl.1.1, fun z => ?_, fun _ z => ?_, fun _ _ p h0 => ?_⟩
      · have := q1.len; rw [z] at this; simp at this; omega
      · have := q2.len; rw [z] at this; simp at this; omega
      · have x2 := Ext.laid rh (o := .tup (vs ++ ws)) h0
        exact q _ _ μ x2 (rh.laid h0) (Rp.tup upd_same ((q1.append q2).ext x2))
    · cases e
  · cases e
def gLe : D → D → Hd → Option (D × Hd) := gI (fun _ _ => true) fun i j => .bl (decide (i ≤ j))
def gGt : D → D → Hd → Option (D × Hd) := gI (fun _ _ => true) fun i j => .bl (decide (j < i))
def gGe : D → D → Hd → Option (D × Hd) := gI (fun _ _ => true) fun i j => .bl (decide (j ≤ i))
theorem o_le : OpR X (compareOp .LtE) (RD X.K gLe) := op_gB0 op_le
theorem o_gt : OpR X (compareOp .Gt) (RD X.K gGt) := op_gB0 op_gt
theorem o_ge : OpR X (compareOp .GtE) (RD X.K gGe) := op_gB0 op_ge
def ints? : List D → Option (List Int)
  | [] => some []
  | .int i :: r => (ints? r).map (i :: ·)
  | _ :: _ => none
theorem ints?_eq : ∀ {ds : List D} {ns : List Int}, ints? ds = some ns → ds = ns.map D.int
  | [], ns, h => by cases h; rfl
  | d :: r, ns, h => by
    cases d <;> simp only [ints?] at h <;> try (cases h)
    rename_i i
    cases e : ints? r with
    | none => rw [e] at h; cases h
    | some m =>
      rw [e] at h
      cases h
      rw [ints?_eq e]
      rfl
theorem ints?_map : ∀ ns : List Int, ints? (ns.map D.int) = some ns
  | [] => rfl
  | n :: ns => by
    show (ints? (ns.map D.int)).map (n :: ·) = _
    rw [ints?_map ns]
    rfl
theorem Rps.ints {K : PySem.W.Frag} {H : Hp} {μ : List Addr} : ∀ {ns : List Int} {vs : List V}, Rps K H μ (ns.map D.int) vs → vs = ns.map V.int
  | [], vs, h => by rw [List.map_nil, Rps] at h; rw [h]; rfl
  | n :: ns, vs, h => by
    rw [List.map_cons, Rps] at h
    obtain ⟨v, r, e, h1, h2⟩ := h
    rw [e, h1.intE, Rps.ints h2]
    rfl
theorem Rps.ofInts {K : PySem.W.Frag} {H : Hp} {μ : List Addr} : ∀ {ns : List Int}, Rps K H μ (ns.map D.int) (ns.map V.int)
  | [] => Rps.nil
  | n :: ns => by
    rw [List.map_cons, List.map_cons, Rps]
    exact ⟨_, _, rfl, Rp.int, Rps.ofInts⟩
def gLt : D → D → Hd → Option (D × Hd)
  | .int i, .int j, hp => some (.bl (decide (i < j)), hp)
  | .tup a, .tup b, hp => match ints? a, ints? b with
    | some ns, some ms => some (.bl (HT.lexLt ns ms), hp)
    | _, _ => none
  | _, _, _ => none
theorem o_lt (hu : X.A.units < cLine) : OpR X (compareOp .Lt) (RD X.K gLt) := fun pins s σ H x y v u Q I rx ry ⟨hp, μ, d1, d2, d, hp', rh, r1, r2, e, q⟩ => by
  unfold gLt at e
  split at e
  · rename_i i j
    cases e
    exact op_lt pins s σ H x y v u Q I rx ry ⟨i, j, r1.intE, r2.intE, q _ H μ Ext.refl rh Rp.bl⟩
  · rename_i a b
    split at e
    · rename_i ns ms e1 e2
      cases e
      have z1 := ints?_eq e1
      have z2 := ints?_eq e2
      subst z1 z2
      obtain ⟨p1, vs, f1, t1, q1⟩ := r1.tupE
      obtain ⟨p2, ws, f2, t2, q2⟩ := r2.tupE
      have z1 := q1.ints
      have z2 := q2.ints
      subst z1 z2
      exact op_ltT hu pins s σ H x y v u Q I rx ry ⟨p1, p2, ns, ms, f1, f2, t1.sq, t2.sq, q _ H μ Ext.refl rh Rp.bl⟩
    · cases e
  · cases e
def mapO {α β : Type} (f : α → Option β) : List α → Option (List β)
  | [] => some []
  | x :: r => match f x, mapO f r with
    | some y, some ys => some (y :: ys)
    | _, _ => none
def pyF (hp : Hd) : Nat → D → Option PyData
  | 0, _ => none
  | n + 1, d => match d with
    | .non => some .none
    | .bl b => some (.bool b)
    | .int i => some (.int i)
    | .str x => some (.str x)
    | .tup ds => (mapO (pyF hp n) ds).map .tuple
    | .wt ds => (mapO (pyF hp n) ds).map .tuple
    | .scr ns => some (.list (ns.map .int))
    | .ref k => match hp[k]? with
      | some (.lst xs) => (mapO (pyF hp n) xs).map .list
      | _ => none
theorem DpAll.ints {K : PySem.W.Frag} {H : Hp} : ∀ ns : List Int, DpAll K H (ns.map V.int) (ns.map PyData.int)
  | [] => .nil
  | n :: ns => .cons (.int n) (DpAll.ints ns)
theorem pyF_dp {K : PySem.W.Frag} {H : Hp} {μ : List Addr} {hp : Hd} (rh : RelH K H μ hp) : ∀ (n : Nat) (d : D) (p : PyData) (v : V), pyF hp n d = some p → Rp K H μ d v → Dp K H v p
  | 0, d, p, v, h, _ => by simp [pyF] at h
  | n + 1, d, p, v, h, r => by
    have all : ∀ (ds : List D) (ps : List PyData) (vs : List V), mapO (pyF hp n) ds = some ps → Rps K H μ ds vs → DpAll K H vs ps := by
      intro ds
      induction ds with
      | nil =>
        intro ps vs h r
        rw [Rps] at r
        simp only [mapO] at h
        cases h
        subst r
        exact .nil
      | cons d ds ih =>
        intro ps vs h r
        rw [Rps] at r
        obtain ⟨v, w, e, r1, r2⟩ := r
        subst e
        simp only [mapO] at h
        split at h
        · rename_i y ys e1 e2
          cases h
          exact .cons (pyF_dp rh n d y v e1 r1) (ih _ _ e2 r2)
        · cases h
    cases d with
    | non => simp only [pyF] at h; cases h; cases r.nonE; exact .non
    | bl b => simp only [pyF] at h; cases h; cases r.blE; exact .bl b
    | int i => simp only [pyF] at h; cases h; cases r.intE; exact .int i
    | str x => simp only [pyF] at h; cases h; cases r.strE; exact .str x
    | scr ns =>
      simp only [pyF] at h
      cases h
      obtain ⟨a, rfl, s⟩ := r.scrE
      exact .lst s.sq (DpAll.ints ns)
    | tup ds =>
      simp only [pyF] at h
      obtain ⟨a, vs, rfl, t, q⟩ := r.tupE
      cases e : mapO (pyF hp n) ds with
      | none => rw [e] at h; cases h
      | some ps =>
        rw [e] at h
        cases h
        exact .tup t.sq (all _ _ _ e q)
    | wt ds =>
      simp only [pyF] at h
      obtain ⟨a, vs, rfl, t, q⟩ := r.wtE
      cases e : mapO (pyF hp n) ds with
      | none => rw [e] at h; cases h
      | some ps =>
        rw [e] at h
        cases h
        exact .tup t.sq (all _ _ _ e q)
    | ref k =>
      simp only [pyF] at h
      split at h
      · rename_i xs e0
        obtain ⟨a, ea, rfl⟩ := r.refE
        obtain ⟨a2, ea2, vs, eh, q⟩ := rh.at_ e0
        rw [ea] at ea2
        cases ea2
        cases e : mapO (pyF hp n) xs with
        | none => rw [e] at h; cases h
        | some ps =>
          rw [e] at h
          cases h
          exact .lst (.inl (.inl eh)) (all _ _ _ e q)
      · cases h
def eqH (hp : Hd) (x y : D) : Option Bool := match pyF hp 16 x, pyF hp 16 y with
  | some p, some q => if (SeqAt.shaped p && SeqAt.shaped q) = true then some (PyData.eqv p q) else none
  | _, _ => none
def gEq (x y : D) (hp : Hd) : Option (D × Hd) := match eqH hp x y with
  | some b => some (.bl b, hp)
  | none => none
def gNe (x y : D) (hp : Hd) : Option (D × Hd) := match eqH hp x y with
  | some b => some (.bl (!b), hp)
  | none => none
theorem eqH_some {hp : Hd} {x y : D} {b : Bool} (h : eqH hp x y = some b) : ∃ p q, pyF hp 16 x = some p ∧ pyF hp 16 y = some q ∧ SeqAt.shaped p = true ∧ SeqAt.shaped q = true ∧ b = PyData.eqv p q := by
  unfold eqH at h
  split at h
  · rename_i p q e1 e2
    split at h
    · rename_i hs
      rw [Bool.and_eq_true] at hs
      cases h
      exact ⟨p, q, e1, e2, hs.1, hs.2, rfl⟩
    · cases h
  · cases h
theorem o_eq (hu : X.A.units + 64 < cLine) : OpR X (compareOp .Eq) (RD X.K gEq) := fun pins s σ H x y v u Q I rx ry ⟨hp, μ, d1, d2, d, hp', rh, r1, r2, e, q⟩ => by
  unfold gEq at e
  split at e
  · rename_i b eb
    cases e
    obtain ⟨p, q2, e1, e2, s1, s2, rfl⟩ := eqH_some eb
    exact op_eqD hu pins s σ H x y v u Q I rx ry ⟨p, q2, pyF_dp rh _ _ _ _ e1 r1, pyF_dp rh _ _ _ _ e2 r2, s1, s2, q _ H μ Ext.refl rh Rp.bl⟩
  · cases e
theorem o_ne (hu : X.A.units + 64 < cLine) : OpR X (compareOp .NotEq) (RD X.K gNe) := fun pins s σ H x y v u Q I rx ry ⟨hp, μ, d1, d2, d, hp', rh, r1, r2, e, q⟩ => by
  unfold gNe at e
  split at e
  · rename_i b eb
    cases e
    obtain ⟨p, q2, e1, e2, s1, s2, rfl⟩ := eqH_some eb
    exact op_neD hu pins s σ H x y v u Q I rx ry ⟨p, q2, pyF_dp rh _ _ _ _ e1 r1, pyF_dp rh _ _ _ _ e2 r2, s1, s2, q _ H μ Ext.refl rh Rp.bl⟩
  · cases e
end
end Ve
namespace Ve
open PySem PySem.Spec L2
mutual
def D.same : D → D → Bool
  | .non, .non => true
  | .bl a, .bl b => a == b
  | .int a, .int b => decide (a = b)
  | .str a, .str b => decide (a = b)
  | .ref a, .ref b => a == b
  | .scr a, .scr b => decide (a = b)
  | .tup a, .tup b => D.sames a b
  | .wt a, .wt b => D.sames a b
  | _, _ => false
def D.sames : List D → List D → Bool
  | [], [] => true
  | a :: as, b :: bs => D.same a b && D.sames as bs
  | _, _ => false
end
mutual
theorem D.same_eq : ∀ (a b : D), D.same a b = true → a = b
  | .non, b, h => by cases b <;> simp [D.same] at h ⊢
  | .bl x, b, h => by cases b <;> simp [D.same] at h ⊢ <;> exact h
  | .int x, b, h => by cases b <;> simp [D.same] at h ⊢ <;> exact h
  | .str x, b, h => by cases b <;> simp [D.same] at h ⊢ <;> exact h
  | .ref x, b, h => by cases b <;> simp [D.same] at h ⊢ <;> exact h
  | .scr x, b, h => by cases b <;> simp [D.same] at h ⊢ <;> exact h
  | .tup x, b, h => by
    cases b <;> simp [D.same] at h ⊢
    exact D.sames_eq _ _ h
  | .wt x, b, h => by
    cases b <;> simp [D.same] at h ⊢
    exact D.sames_eq _ _ h
theorem D.sames_eq : ∀ (a b : List D), D.sames a b = true → a = b
  | [], b, h => by cases b <;> simp [D.sames] at h ⊢
  | x :: xs, b, h => by
    cases b with
    | nil => simp [D.sames] at h
    | cons y ys =>
      simp [D.sames] at h
      rw [D.same_eq x y h.1, D.sames_eq xs ys h.2]
end
mutual
theorem D.same_self : ∀ a : D, D.same a a = true
  | .non => by simp [D.same]
  | .bl x => by simp [D.same]
  | .int x => by simp [D.same]
  | .str x => by simp [D.same]
  | .ref x => by simp [D.same]
  | .scr x => by simp [D.same]
  | .tup x => by simp [D.same, D.sames_self x]
  | .wt x => by simp [D.same, D.sames_self x]
theorem D.sames_self : ∀ a : List D, D.sames a a = true
  | [] => by simp [D.sames]
  | x :: xs => by simp [D.sames, D.same_self x, D.sames_self xs]
end
inductive Fl where
  | nx | rt (d : D) | bk | ct
abbrev AS := Ls → Hd → Option (Fl × Ls × Hd)
def En (K : PySem.W.Frag) (Dn : Ends) (fl : Fl) (ls' : Ls) (H' : Hp) (μ' : List Addr) : Prop := match fl with
  | .nx => ∀ σ', Rl K H' μ' ls' σ' → Dn.nx σ' H'
  | .rt d => ∀ v, Rp K H' μ' d v → Dn.rt v H'
  | .bk => ∀ σ', Rl K H' μ' ls' σ' → Dn.bk σ' H'
  | .ct => ∀ σ', Rl K H' μ' ls' σ' → Dn.ct σ' H'
def tS (K : PySem.W.Frag) (f : AS) : TS := fun Dn σ H => ∃ ls hp μ fl ls' hp', Rl K H μ ls σ ∧ RelH K H μ hp ∧ f ls hp = some (fl, ls', hp') ∧
  ∀ H' μ', Ext μ H μ' H' → RelH K H' μ' hp' → En K Dn fl ls' H' μ'
abbrev DS (X : Cx) (e : Stmt) (f : AS) : Prop := PS X e (tS X.K f)
abbrev DSs (X : Cx) (e : List Stmt) (f : AS) : Prop := PSs X e (tS X.K f)
def sNext : AS := fun ls hp => some (.nx, ls, hp)
def sSeq (f g : AS) : AS := fun ls hp => match f ls hp with
  | some (.nx, ls1, hp1) => g ls1 hp1
  | r => r
def sBrk : AS := fun ls hp => some (.bk, ls, hp)
def sCnt : AS := fun ls hp => some (.ct, ls, hp)
def sDrop (f : AE) : AS := fun ls hp => match f ls hp with
  | some (_, hp1) => some (.nx, ls, hp1)
  | none => none
def sRet (f : AE) : AS := fun ls hp => match f ls hp with
  | some (d, hp1) => some (.rt d, ls, hp1)
  | none => none
def sRetN : AS := fun ls hp => some (.rt .non, ls, hp)
def sIf (c : AT) (f g : AS) : AS := fun ls hp => match c ls hp with
  | some (true, hp1) => f ls hp1
  | some (false, hp1) => g ls hp1
  | none => none
def sSet (i : Nat) (f : AE) : AS := fun ls hp => match f ls hp with
  | some (d, hp1) => some (.nx, ls.set i (some d), hp1)
  | none => none
inductive Tg where
  | nm (i : Nat) | tp (ts : List Tg)
mutual
def Tg.asg : Tg → D → Ls → Option Ls
  | .nm i, d, ls => some (ls.set i (some d))
  | .tp ts, .tup ds, ls => Tg.asgs ts ds ls
  | .tp ts, .wt ds, ls => Tg.asgs ts ds ls
  | .tp _, _, _ => none
def Tg.asgs : List Tg → List D → Ls → Option Ls
  | [], [], ls => some ls
  | t :: ts, d :: ds, ls => match Tg.asg t d ls with
    | some ls1 => Tg.asgs ts ds ls1
    | none => none
  | _, _, _ => none
end
mutual
def Tg.slots : Tg → List Nat
  | .nm i => [i]
  | .tp ts => Tg.slotss ts
def Tg.slotss : List Tg → List Nat
  | [] => []
  | t :: ts => Tg.slots t ++ Tg.slotss ts
end
def gD (K : PySem.W.Frag) (t : Tg) : TG := fun v σ H Q => ∃ ls μ d ls', Rl K H μ ls σ ∧ Rp K H μ d v ∧ t.asg d ls = some ls' ∧
  ∀ σ', Rl K H μ ls' σ' → (∀ vs : List Nat, (∀ i ∈ t.slots, i ∈ vs) → wipe σ' vs = wipe σ vs) → Q σ' H
def gDs (K : PySem.W.Frag) (t : List Tg) : TGs := fun v σ H Q => ∃ ls μ d ls', Rl K H μ ls σ ∧ Rps K H μ d v ∧ Tg.asgs t d ls = some ls' ∧
  ∀ σ', Rl K H μ ls' σ' → (∀ vs : List Nat, (∀ i ∈ Tg.slotss t, i ∈ vs) → wipe σ' vs = wipe σ vs) → Q σ' H
abbrev DG (X : Cx) (e : Expr) (t : Tg) : Prop := PG X e (gD X.K t)
abbrev DGs (X : Cx) (e : List Expr) (t : List Tg) : Prop := PGs X e (gDs X.K t)
theorem PG.imp {X : Cx} {e : Expr} {t t' : TG} (h : PG X e t) (i : ∀ v σ H Q, t' v σ H Q → t v σ H Q) : PG X e t' := ⟨fun pins s σ H v u Q I r q => h.run pins s σ H v u Q I r (i v σ H Q q)⟩
theorem PGs.imp {X : Cx} {e : List Expr} {t t' : TGs} (h : PGs X e t) (i : ∀ v σ H Q, t' v σ H Q → t v σ H Q) : PGs X e t' := ⟨fun pins s σ H v u Q I r q => h.run pins s σ H v u Q I r (i v σ H Q q)⟩
theorem Rl.set {K : PySem.W.Frag} {H : Hp} {μ : List Addr} {ls : Ls} {σ : St} {i : Nat} {d : D} {v : V} (h : Rl K H μ ls σ) (r : Rp K H μ d v) : Rl K H μ (ls.set i (some d)) (σ.set i (some v)) := by
  refine ⟨by rw [List.length_set, List.length_set, h.1], fun j e hj => ?_⟩
  by_cases hji : i = j
  · subst hji
    by_cases hl : i < ls.length
    · rw [List.getElem?_set_self hl] at hj
      cases hj
      exact ⟨v, List.getElem?_set_self (by rw [h.1]; exact hl), r⟩
    · rw [List.getElem?_eq_none (by simpa using hl)] at hj
      cases hj
  · rw [List.getElem?_set_ne hji] at hj
    rw [List.getElem?_set_ne hji]
    exact h.2 j e hj
theorem wipe_set {σ : St} {i : Nat} {x : Option V} : ∀ {vs : List Nat}, i ∈ vs → wipe (σ.set i x) vs = wipe σ vs
  | [], h => by cases h
  | v :: vs, h => by
    unfold wipe
    by_cases e : i ∈ vs
    · rw [wipe_set e]
    · rcases List.mem_cons.mp h with z | z
      · subst z
        have go : ∀ (ws : List Nat), i ∉ ws → wipe (σ.set i x) ws = (wipe σ ws).set i x := by
          intro ws
          induction ws with
          | nil => intro _; rfl
          | cons w ws ih =>
            intro hn
            unfold wipe
            rw [ih (fun z => hn (List.mem_cons_of_mem _ z)), List.set_comm _ _ (fun z => hn (by rw [z]; exact List.mem_cons_self))]
        rw [go vs e, List.set_set]
      · exact absurd z e
section
variable {X : Cx} {st : Stmt} {sts rest : List Stmt} {e a b : Expr} {f g : AS} {fa fb : AE} {ft : AT} {fr : AA} {pos : Pos}
theorem dss_nil : DSs X [] sNext := PSs.imp pss_nil fun Dn σ H ⟨ls, hp, μ, fl, ls', hp', rl, rh, e, q⟩ => by
  cases e
  exact q H μ Ext.refl rh σ rl
theorem dss_cons (h1 : DS X st f) (h2 : DSs X rest g) : DSs X (st :: rest) (sSeq f g) :=
  PSs.imp (pss_cons h1 h2) fun Dn σ H ⟨ls, hp, μ, fl, ls', hp', rl, rh, e, q⟩ => by
    unfold sSeq at e
    split at e
    · rename_i ls1 hp1 e1
      exact ⟨ls, hp, μ, .nx, ls1, hp1, rl, rh, e1, fun H1 μ1 x1 rh1 σ1 rl1 => ⟨ls1, hp1, μ1, fl, ls', hp', rl1, rh1, e, fun H' μ' x2 rh2 => q H' μ' (x1.trans x2) rh2⟩⟩
    · rename_i hne
      refine ⟨ls, hp, μ, fl, ls', hp', rl, rh, e, fun H1 μ1 x1 rh1 => ?_⟩
      have q' := q H1 μ1 x1 rh1
      cases fl with
      | nx => exact absurd e (hne ls' hp')
      | rt d => exact q'
      | bk => exact q'
      | ct => exact q'
theorem dss_one (h1 : DS X st f) : DSs X [st] f := PSs.imp (pss_one h1) fun _ _ _ h => h
theorem ds_expr (he : DE X e fa) (hs : swapsWith e none pos.line X.env = pure false := by rfl) : DS X (.Expr e pos) (sDrop fa) :=
  PS.imp (ps_expr he hs) fun Dn σ H ⟨ls, hp, μ, fl, ls', hp', rl, rh, e, q⟩ => by
    unfold sDrop at e
    split at e
    · rename_i d hp1 e1
      cases e
      exact ⟨ls, hp, μ, d, hp', rl, rh, e1, fun v H' μ' x1 rh1 r1 => q H' μ' x1 rh1 σ (rl.ext x1)⟩
    · cases e
theorem ds_ret (he : DE X e fa) : DS X (.Return (some e) pos) (sRet fa) :=
  PS.imp (ps_ret he) fun Dn σ H ⟨ls, hp, μ, fl, ls', hp', rl, rh, e, q⟩ => by
    unfold sRet at e
    split at e
    · rename_i d hp1 e1
      cases e
      exact ⟨ls, hp, μ, d, hp', rl, rh, e1, fun v H' μ' x1 rh1 r1 => q H' μ' x1 rh1 v r1⟩
    · cases e
theorem En.seq {K : PySem.W.Frag} {Dn : Ends} {fl : Fl} {ls' : Ls} {H H1 H' : Hp} {μ μ1 μ' : List Addr} (h : En K Dn fl ls' H' μ') : En K Dn fl ls' H' μ' := h
theorem ds_if {c : Expr} {as bs : List Stmt} (hc : DT X c ft) (ha : DSs X as f) (hb : DSs X bs g) : DS X (.If c as bs pos) (sIf ft f g) :=
  PS.imp (ps_if hc ha hb) fun Dn σ H ⟨ls, hp, μ, fl, ls', hp', rl, rh, e, q⟩ => by
    unfold sIf at e
    split at e
    · rename_i hp1 e1
      exact ⟨ls, hp, μ, true, hp1, rl, rh, e1, fun H1 μ1 x1 rh1 => iteT ⟨ls, hp1, μ1, fl, ls', hp', rl.ext x1, rh1, e, fun H' μ' x2 rh2 => q H' μ' (x1.trans x2) rh2⟩⟩
    · rename_i hp1 e1
      exact ⟨ls, hp, μ, false, hp1, rl, rh, e1, fun H1 μ1 x1 rh1 => iteF ⟨ls, hp1, μ1, fl, ls', hp', rl.ext x1, rh1, e, fun H' μ' x2 rh2 => q H' μ' (x1.trans x2) rh2⟩⟩
    · cases e
theorem ds_set {i : Nat} {x : Str} {pos' : Pos} (hN : X.N.Nodup) (hi : X.N[i]? = some x) (hx : Loc X.env.scope x) (he : DE X e fa) (hs : swapsWith e (some (.Name x pos')) pos.line X.env = pure false := by rfl)
    (hf : X.fn x = true ∨ X.env.scope.names.lookup x = some .local := by first | exact .inl rfl | exact .inr rfl | assumption) : DS X (.Assign [.Name x pos'] e pos) (sSet i fa) :=
  PS.imp (ps_set hN hi hx he hs hf) fun Dn σ H ⟨ls, hp, μ, fl, ls', hp', rl, rh, e, q⟩ => by
    unfold sSet at e
    split at e
    · rename_i d hp1 e1
      cases e
      exact ⟨ls, hp, μ, d, hp', rl, rh, e1, fun v H' μ' x1 rh1 r1 => q H' μ' x1 rh1 _ ((rl.ext x1).set r1)⟩
    · cases e
theorem dg_name {i : Nat} {x : Str} (hN : X.N.Nodup) (hi : X.N[i]? = some x) (hx : Loc X.env.scope x) (hf : X.fn x = true ∨ X.env.scope.names.lookup x = some .local := by first | exact .inl rfl | exact .inr rfl | assumption) :
    DG X (.Name x pos) (.nm i) :=
  PG.imp (pg_name hN hi hx hf) fun v σ H Q ⟨ls, μ, d, ls', rl, r, e, q⟩ => by
    simp only [Tg.asg] at e
    cases e
    exact q _ (rl.set r) fun vs hvs => wipe_set (hvs i (by simp [Tg.slots]))
theorem dgs_nil : DGs X [] [] := PGs.imp pgs_nil fun v σ H Q ⟨ls, μ, d, ls', rl, r, e, q⟩ => by
  cases d with
  | nil =>
    simp only [Tg.asgs] at e
    cases e
    rw [Rps] at r
    exact ⟨r, q σ rl fun _ _ => rfl⟩
  | cons x xs => simp [Tg.asgs] at e
theorem dgs_cons {es : List Expr} {t : Tg} {ts : List Tg} (h1 : DG X e t) (h2 : DGs X es ts) (hs : (assignEach (e :: es) X.env).map (·.2) = assign e X.env :: (assignEach es X.env).map (·.2) := by rfl) : DGs X (e :: es) (t :: ts) :=
  PGs.imp (pgs_cons h1 h2 hs) fun v σ H Q ⟨ls, μ, d, ls', rl, r, e, q⟩ => by
    cases d with
    | nil => simp [Tg.asgs] at e
    | cons x xs =>
      simp only [Tg.asgs] at e
      split at e
      · rename_i ls1 e1
        rw [Rps] at r
        obtain ⟨v1, vs, rfl, r1, r2⟩ := r
        refine ⟨v1, vs, rfl, ls, μ, x, ls1, rl, r1, e1, fun σ1 rl1 w1 => ⟨ls1, μ, xs, ls', rl1, r2, e, fun σ2 rl2 w2 => q σ2 rl2 fun vs hvs => ?_⟩⟩
        rw [w2 vs fun i hi => hvs i (by simp [Tg.slotss, hi]), w1 vs fun i hi => hvs i (by simp [Tg.slotss, hi])]
      · cases e
theorem asgs_len : ∀ {ts : List Tg} {ds : List D} {ls ls' : Ls}, Tg.asgs ts ds ls = some ls' → ds.length = ts.length
  | [], [], _, _, _ => rfl
  | [], _ :: _, _, _, h => by simp [Tg.asgs] at h
  | _ :: _, [], _, _, h => by simp [Tg.asgs] at h
  | t :: ts, d :: ds, ls, ls', h => by
    simp only [Tg.asgs] at h
    split at h
    · rw [List.length_cons, List.length_cons, asgs_len h]
    · cases h
theorem dg_tup {es : List Expr} {k : Nat} {ts : List Tg} (hc : X.calm = true) (h : DGs X es ts) (hn : (assignEach es X.env).length = ts.length := by rfl) (hst : (assignEach es X.env).findIdx? (·.1) = none := by rfl) : DG X (.Tuple es k pos) (.tp ts) :=
  PG.imp (pg_tup (n := ts.length) hc h hn hst) fun v σ H Q ⟨ls, μ, d, ls', rl, r, e, q⟩ => by
    cases d <;> try (simp [Tg.asg] at e; done)
    · rename_i ds
      simp only [Tg.asg] at e
      obtain ⟨a, vs, rfl, t, rs⟩ := r.tupE
      exact ⟨a, vs, rfl, t.sq, by rw [rs.len, asgs_len e], ls, μ, ds, ls', rl, rs, e, fun σ' rl' w => q σ' rl' fun vs hvs => w vs fun i hi => hvs i (by simp [Tg.slots, hi])⟩
    · rename_i ds
      simp only [Tg.asg] at e
      obtain ⟨a, vs, rfl, t, rs⟩ := r.wtE
      exact ⟨a, vs, rfl, t.sq, by rw [rs.len, asgs_len e], ls, μ, ds, ls', rl, rs, e, fun σ' rl' w => q σ' rl' fun vs hvs => w vs fun i hi => hvs i (by simp [Tg.slots, hi])⟩
def sAsg (t : Tg) (f : AE) : AS := fun ls hp => match f ls hp with
  | some (d, hp1) => match t.asg d ls with
    | some ls1 => some (.nx, ls1, hp1)
    | none => none
  | none => none
def sPar (i j : Nat) (f : AA) : AS := fun ls hp => match f ls hp with
  | some ([a, b], hp1) => some (.nx, (ls.set i (some a)).set j (some b), hp1)
  | _ => none
def sWhile (c : AT) (b : AS) : Nat → AS
  | 0, _, _ => none
  | n + 1, ls, hp => match c ls hp with
    | some (false, hp1) => some (.nx, ls, hp1)
    | some (true, hp1) => match b ls hp1 with
      | some (.nx, ls2, hp2) => sWhile c b n ls2 hp2
      | some (.ct, ls2, hp2) => sWhile c b n ls2 hp2
      | some (.bk, ls2, hp2) => some (.nx, ls2, hp2)
      | some (.rt d, ls2, hp2) => some (.rt d, ls2, hp2)
      | none => none
    | none => none
theorem ds_while (n : Nat) {c : Expr} {body : List Stmt} (hp : PassesOwn (model X.prog X.w) X.A X.env X.xe) (hc : DT X c ft) (hb : DSs X body f) : DS X (.While c body [] pos) (sWhile ft f n) :=
  PS.imp (ps_while hp hc hb) fun Dn σ H ⟨ls, hp, μ, fl, ls', hp', rl, rh, e, q⟩ => by
    refine ⟨fun m σ1 H1 => ∃ ls1 hp1 μ1, Ext μ H μ1 H1 ∧ Rl X.K H1 μ1 ls1 σ1 ∧ RelH X.K H1 μ1 hp1 ∧ sWhile ft f m ls1 hp1 = some (fl, ls', hp'), ⟨n, ls, hp, μ, Ext.refl, rl, rh, e⟩, ?_⟩
    rintro m σ1 H1 ⟨ls1, hp1, μ1, x1, rl1, rh1, e1⟩
    cases m with
    | zero => simp [sWhile] at e1
    | succ m =>
      simp only [sWhile] at e1
      split at e1
      · rename_i hp2 e2
        cases e1
        exact ⟨ls', hp1, μ1, false, hp', rl1, rh1, e2, fun H2 μ2 x2 rh2 => iteF (q H2 μ2 (x1.trans x2) rh2 σ1 (rl1.ext x2))⟩
      · rename_i hp2 e2
        refine ⟨ls1, hp1, μ1, true, hp2, rl1, rh1, e2, fun H2 μ2 x2 rh2 => iteT ?_⟩
        refine ⟨fun σ' H' => ∃ ls1 hp1 μ1, Ext μ H μ1 H' ∧ Rl X.K H' μ1 ls1 σ' ∧ RelH X.K H' μ1 hp1 ∧ sWhile ft f m ls1 hp1 = some (fl, ls', hp'), fun σ' H' h => ⟨m, Nat.lt_succ_self m, h⟩, ?_⟩
        split at e1
        · rename_i ls3 hp3 e3
          exact ⟨ls1, hp2, μ2, .nx, ls3, hp3, rl1.ext x2, rh2, e3, fun H3 μ3 x3 rh3 σ3 rl3 => ⟨ls3, hp3, μ3, (x1.trans x2).trans x3, rl3, rh3, e1⟩⟩
        · rename_i ls3 hp3 e3
          exact ⟨ls1, hp2, μ2, .ct, ls3, hp3, rl1.ext x2, rh2, e3, fun H3 μ3 x3 rh3 σ3 rl3 => ⟨ls3, hp3, μ3, (x1.trans x2).trans x3, rl3, rh3, e1⟩⟩
        · rename_i ls3 hp3 e3
          cases e1
          exact ⟨ls1, hp2, μ2, .bk, _, _, rl1.ext x2, rh2, e3, fun H3 μ3 x3 rh3 σ3 rl3 => q H3 μ3 ((x1.trans x2).trans x3) rh3 σ3 rl3⟩
        · rename_i d ls3 hp3 e3
          cases e1
          exact ⟨ls1, hp2, μ2, .rt d, _, _, rl1.ext x2, rh2, e3, fun H3 μ3 x3 rh3 => q H3 μ3 ((x1.trans x2).trans x3) rh3⟩
        · cases e1
      · cases e1
abbrev Gd := List (Nat × List D)
def gdOk : Gd → Hd → Bool
  | [], _ => true
  | (n, xs) :: r, hp => (match hp[n]? with
    | some (.lst ys) => D.sames ys xs
    | _ => false) && gdOk r hp
abbrev AI := Ls → Hd → Option (List D × Gd × Hd)
def Wk (K : PySem.W.Frag) (J : It) (items : List D) (gd : Gd) (μ : List Addr) (H : Hp) : Prop :=
  ∀ i H2 μ2 hp2, Ext μ H μ2 H2 → RelH K H2 μ2 hp2 → gdOk gd hp2 = true →
    (items.length ≤ i → J.stop i H2) ∧ (i < items.length → J.go i H2 ∧ ∀ x H3, J.yld i H2 x H3 → ∃ d, items[i]? = some d ∧ Ext μ2 H2 μ2 H3 ∧ RelH K H3 μ2 hp2 ∧ Rp K H3 μ2 d x)
def tI (K : PySem.W.Frag) (f : AI) : TI := fun σ H R => ∃ ls hp μ items gd hp', Rl K H μ ls σ ∧ RelH K H μ hp ∧ f ls hp = some (items, gd, hp') ∧
  ∀ J H' μ', Ext μ H μ' H' → RelH K H' μ' hp' → Wk K J items gd μ' H' → R J H'
abbrev DI (X : Cx) (tg e : Expr) (f : AI) : Prop := PI X tg e (tI X.K f)
theorem PI.imp {X : Cx} {tg e : Expr} {t t' : TI} (h : PI X tg e t) (i : ∀ σ H Q, t' σ H Q → t σ H Q) : PI X tg e t' := ⟨fun pins s σ H Q I q => h.run pins s σ H Q I (i σ H Q q)⟩
theorem PI.or {X : Cx} {tg e : Expr} {t t' : TI} (h : PI X tg e t) (h' : PI X tg e t') : PI X tg e (fun σ H Q => t σ H Q ∨ t' σ H Q) := ⟨fun pins s σ H Q I q => q.elim (h.run pins s σ H Q I) (h'.run pins s σ H Q I)⟩
def sFor (t : Tg) (gd : Gd) (b : AS) : List D → AS
  | [], ls, hp => if gdOk gd hp then some (.nx, ls, hp) else none
  | x :: xs, ls, hp => if gdOk gd hp then match t.asg x ls with
    | some ls1 => match b ls1 hp with
      | some (.nx, ls2, hp2) => sFor t gd b xs ls2 hp2
      | some (.ct, ls2, hp2) => sFor t gd b xs ls2 hp2
      | some (.bk, ls2, hp2) => some (.nx, ls2, hp2)
      | some (.rt d, ls2, hp2) => some (.rt d, ls2, hp2)
      | none => none
    | none => none else none
def sForI (fi : AI) (t : Tg) (b : AS) : AS := fun ls hp => match fi ls hp with
  | some (items, gd, hp1) => sFor t gd b items ls hp1
  | none => none
theorem ds_for {iter tg : Expr} {body : List Stmt} {fi : AI} {t : Tg} (hp : PassesOwn (model X.prog X.w) X.A X.env X.xe) (hc : X.calm = true) (hi : DI X tg iter fi) (hg : DG X tg t) (hb : DSs X body f)
    (hs : ∀ x, foldedSetIterable iter X.env x = pure x := by intro _; rfl) : DS X (.For tg iter body [] pos) (sForI fi t f) :=
  PS.imp (ps_for hp hc hi hg hb hs) fun Dn σ H ⟨ls, hp, μ, fl, ls', hp', rl, rh, e, q⟩ => by
    unfold sForI at e
    split at e
    · rename_i items gd hp1 e1
      refine ⟨ls, hp, μ, items, gd, hp1, rl, rh, e1, fun J H1 μ1 x1 rh1 wk => ?_⟩
      refine ⟨fun i m σ2 H2 => m + i = items.length ∧ ∃ ls2 hp2 μ2, Ext μ1 H1 μ2 H2 ∧ Rl X.K H2 μ2 ls2 σ2 ∧ RelH X.K H2 μ2 hp2 ∧ sFor t gd f (items.drop i) ls2 hp2 = some (fl, ls', hp'),
        ⟨items.length, by omega, ls, hp1, μ1, Ext.refl, rl.ext x1, rh1, e⟩, ?_⟩
      rintro i m σ2 H2 ⟨hm, ls2, hp2, μ2, x2, rl2, rh2, e2⟩
      by_cases hi : i < items.length
      · have hd : items.drop i = items[i] :: items.drop (i + 1) := List.drop_eq_getElem_cons hi
        rw [hd] at e2
        simp only [sFor] at e2
        split at e2
        · rename_i hgd
          obtain ⟨_, w2⟩ := wk i H2 μ2 hp2 x2 rh2 hgd
          obtain ⟨w3, w4⟩ := w2 hi
          refine .inr ⟨w3, fun σ' H' => m - 1 + (i + 1) = items.length ∧ ∃ ls2 hp2 μ2, Ext μ1 H1 μ2 H' ∧ Rl X.K H' μ2 ls2 σ' ∧ RelH X.K H' μ2 hp2 ∧ sFor t gd f (items.drop (i + 1)) ls2 hp2 = some (fl, ls', hp'),
            fun σ' H' h => ⟨m - 1, by omega, h⟩, fun x H3 hy => ?_⟩
          obtain ⟨d, ed, x3, rh3, r3⟩ := w4 x H3 hy
          rw [List.getElem?_eq_getElem hi] at ed
          cases ed
          split at e2
          · rename_i ls3 e3
            refine ⟨ls2, μ2, _, ls3, rl2.ext x3, r3, e3, fun σ3 rl3 _ => ?_⟩
            have hm' : m - 1 + (i + 1) = items.length := by omega
            split at e2
            · rename_i ls4 hp4 e4
              exact ⟨ls3, hp2, μ2, .nx, ls4, hp4, rl3, rh3, e4, fun H5 μ5 x5 rh5 σ5 rl5 => ⟨hm', ls4, hp4, μ5, (x2.trans x3).trans x5, rl5, rh5, e2⟩⟩
            · rename_i ls4 hp4 e4
              exact ⟨ls3, hp2, μ2, .ct, ls4, hp4, rl3, rh3, e4, fun H5 μ5 x5 rh5 σ5 rl5 => ⟨hm', ls4, hp4, μ5, (x2.trans x3).trans x5, rl5, rh5, e2⟩⟩
            · rename_i ls4 hp4 e4
              cases e2
              exact ⟨ls3, hp2, μ2, .bk, _, _, rl3, rh3, e4, fun H5 μ5 x5 rh5 σ5 rl5 => q H5 μ5 (x1.trans ((x2.trans x3).trans x5)) rh5 σ5 rl5⟩
            · rename_i d ls4 hp4 e4
              cases e2
              exact ⟨ls3, hp2, μ2, .rt d, _, _, rl3, rh3, e4, fun H5 μ5 x5 rh5 => q H5 μ5 (x1.trans ((x2.trans x3).trans x5)) rh5⟩
            · cases e2
          · cases e2
        · cases e2
      · rw [List.drop_eq_nil_of_le (by omega)] at e2
        simp only [sFor] at e2
        split at e2
        · rename_i hgd
          cases e2
          obtain ⟨w1, _⟩ := wk i H2 μ2 _ x2 rh2 hgd
          exact .inl ⟨w1 (by omega), q H2 μ2 (x1.trans x2) rh2 σ2 rl2⟩
        · cases e2
    · cases e
end
end Ve
namespace Ve
open PySem PySem.Spec L2 PyProof.Rows
structure RoomG (k : Nat) (A : Around) : Prop where
  r : L2.Room k A
  gd : A.guards = some []
theorem RoomG.mono {j k : Nat} {A : Around} (r : RoomG k A) (h : j ≤ k) : RoomG j A := ⟨r.r.mono h, r.gd⟩
theorem RoomG.deeper {k : Nat} {A : Around} (r : RoomG (k + 1) A) (env : Env) : RoomG k (A.deeper env) := ⟨r.r.deeper env, r.gd⟩
theorem RoomG.units {k : Nat} {A : Around} (r : RoomG k A) : A.units + 64 < cLine := r.r.units
theorem RoomG.units0 {k : Nat} {A : Around} (r : RoomG k A) : A.units < cLine := r.r.units0
theorem RoomG.units65 {k : Nat} {A : Around} (r : RoomG k A) : A.units + 65 < cLine := by
  have := r.r.un
  omega
theorem hu_ofG {A : Around} {k : Nat} (hr : RoomG k A) : A.units + 1 < cLine := by
  have := hr.r.un
  omega
structure FnG (P : Program) (w : World) (K : PySem.W.Frag) (mg : Str → Option Value) (base : Heap) (CX : CXT) (k : Nat) (f : Addr) (fd : FuncData) (ps : List Str) (sp : Sp) : Prop where
  len : ∀ vs H Q E, sp vs H Q E → vs.length = ps.length
  run : ∀ (A : Around) (outer : List Env) (s : Shared) (H : Hp) (args : Args) (us : List Value) (vs : List V) (Q : VK) (E : XK), RoomG k A → Env0 P w K mg base A outer s H → BindsTo s fd args (ps.zip us) → Vals vs us → sp vs H Q E →
    codeAny (model P w) A (.call (.ref f) args) (CR CX outer P w H s Q E) s
section
variable {P : Program} {w : World} {K : PySem.W.Frag} {mg : Str → Option Value} {base : Heap} {CX : CXT} {j k : Nat} {f : Addr} {fd : FuncData} {ps : List Str} {sp sp' : Sp}
theorem FnG.mono (F : FnG P w K mg base CX j f fd ps sp) (h : j ≤ k) : FnG P w K mg base CX k f fd ps sp := ⟨F.len, fun A outer s H args us vs Q E hr => F.run A outer s H args us vs Q E (hr.mono h)⟩
theorem FnG.imp (F : FnG P w K mg base CX k f fd ps sp) (h : ∀ vs H Q E, sp' vs H Q E → sp vs H Q E) : FnG P w K mg base CX k f fd ps sp' :=
  ⟨fun vs H Q E q => F.len vs H Q E (h _ _ _ _ q), fun A outer s H args us vs Q E hr he hb hv hs => F.run A outer s H args us vs Q E hr he hb hv (h _ _ _ _ hs)⟩
end
section
variable {X : Cx} {CX : CXT} {k : Nat} {f : Addr} {fd : FuncData} {ps : List Str} {sp : Sp} {dvs : List V} {ds : List Value} {E : XK} {x : Str} {p pos : Pos} {e : Expr} {es : List Expr} {t : TA}
theorem run_fnG {pins : List (Addr × Obj)} {σ : L2.St} {H : Hp} {s : Shared} {Q : VK} {us : List Value} {vs : List V} (F : FnG X.prog X.w X.K X.mg X.base CX k f fd ps sp) (hr : RoomG k X.A) (hb : Binds X.K fd ps ds) (hd : Vals dvs ds) (hx : Passes CX X E)
    (I : Inv X pins σ H s) (r : Vals vs us) (h : sp (vs ++ dvs) H Q E) : wpAny (model X.prog X.w) X.A (call (.ref f) us) (EP X pins σ Q) X.xe s := by
  have r2 := r.append hd
  have hl : (us ++ ds).length = ps.length := r2.length ▸ F.len _ _ _ _ h
  refine wpAny_call (codeAny_mono (F.run X.A X.stack s H ⟨us, []⟩ _ _ Q E hr I.env0 (hb s us I.kIn hl) r2 h) fun r s' hq => ?_)
  match r, hq with
  | .error e, hq => exact hx pins σ H s e s' I hq
  | .ok (.ret u), hq => exact I.after hq
theorem pe_callG (F : FnG X.prog X.w X.K X.mg X.base CX k f fd ps sp) (hr : RoomG k X.A) (hg : Gl X x) (hm : X.mg x = some (.ref f)) (hk : PySem.W.keepIn X.K (.ref f) = true) (hb : Binds X.K fd ps ds) (hd : Vals dvs ds) (hx : Passes CX X E)
    (ha : PA X (e :: es) t) (hdb : (x == ("__debug__" : Str)) = false := by decide) (he : starEach (e :: es) X.env = (false, eval e X.env) :: starEach es X.env := by rfl) (hpl : (backTo pos (starEach es X.env)).any (·.1) = false := by rfl) :
    PE X (.Call (.Name x p) (e :: es) [] pos) (tCall sp dvs E t) :=
  ⟨fun pins s σ H Q I h => wpAny_Call_Name_kw (ld_glob I hg hm (PySem.W.callWith_K (h₀ := X.base) I.ok.mod.kin hk (thn (ha.run pos pins s σ H _ I h) fun us s1 ⟨vs, H1, I1, r, q⟩ => ⟨I1.kIn, run_fnG F hr hb hd hx I1 r q⟩) he hpl) hdb)⟩
theorem pe_callG0 (F : FnG X.prog X.w X.K X.mg X.base CX k f fd ps sp) (hr : RoomG k X.A) (hg : Gl X x) (hm : X.mg x = some (.ref f)) (hk : PySem.W.keepIn X.K (.ref f) = true) (hb : Binds X.K fd ps ds) (hd : Vals dvs ds) (hx : Passes CX X E)
    (hdb : (x == ("__debug__" : Str)) = false := by decide) : PE X (.Call (.Name x p) [] [] pos) (tCall sp dvs E tNil) :=
  ⟨fun pins s σ H Q I h => wpAny_Call_Name_kw (ld_glob I hg hm (PySem.W.callWith_K0 I.kIn hk (run_fnG (us := []) F hr hb hd hx I .nil h)) hdb)⟩
end
theorem fnG_of {CX : CXT} {P : Program} {w : World} {K : PySem.W.Frag} {mg : Str → Option Value} {base : Heap} {k : Nat} {f : Addr} {name qual : Str} {params : Arguments} {body : List Stmt} {scope : Scope} {dV kV doc pm cdv ct oc : Value} {an od : Option Addr}
    {osl : Array (Option Value)} {N ps : List Str} {sp : Sp} (lk : K.lookup f = some ⟨oc, od, .func (PySem.W.fnOf name qual params body scope dV kV doc pm an cdv ct), osl⟩) (hcd : PySem.W.codeIn K cdv qual = true) (S : FnScope N ps scope)
    (len : ∀ vs H Q E, sp vs H Q E → vs.length = ps.length)
    (hbody : ∀ (A : Around) (outer : List Env) (s : Shared) (H : Hp) (vs : List V) (Q : VK) (E : XK), RoomG k (A.deeper (envOfC qual scope s.heap.objs.size f cdv)) → sp vs H Q E →
      ∃ t, PSs (cxOf CX P w K mg base N qual scope f cdv A outer s H E) body t ∧ t { nx := fun _ H' => Q .non H', rt := Q } (L2.start N vs) H) :
    FnG P w K mg base CX (k + 1) f (PySem.W.fnOf name qual params body scope dV kV doc pm an cdv ct) ps sp where
  len := len
  run A outer s H args us vs Q E hr e0 hb r hsp := by
    have hl := len _ _ _ _ hsp
    have KX : K.In s.heap := e0.mod.kin.keeps fun b o e => (e0.bs b o e).1
    have lim : s.heap.NoLimit := e0.mod.nolimit.keeps fun b o e => (e0.bs b o e).1
    have kinds : ∀ y ∈ ps.zip us, scope.names.lookup y.1 = some .local ∨ (scope.names.lookup y.1 = some .cell ∧ ((cellsFrom (s.heap.objs.size + 1) scope.names []).lookup y.1).isSome = true) := fun y hy =>
      (S.par y.1 (List.of_mem_zip hy).1).imp id fun q => ⟨q, PySem.W.cellsFrom_some _ _ _ (.inl q)⟩
    refine codeAny_call_function hr.r.depth (KX _ _ lk) rfl S.co S.gen rfl (PySem.W.codeRec_of KX hcd) (hb _ _ _ _ (wpAny_newFunctionEnv_cells S.kind kinds fun env he s1 x => ?_))
    subst he
    obtain ⟨t, ht, hq⟩ := hbody A outer s H vs Q E (hr.deeper _) hsp
    refine ⟨lim.keeps x.toInCall.keep, codeAny_func (wpAny_mono (ht.run [] s1 (L2.start N vs) H _ (inv_start S hr.r.hd e0 hl r x) hq) (fun fl s' hs => ?_) fun _ _ hs => hs)⟩
    cases fl with
    | ret u =>
      obtain ⟨v, σ', H', J, rv, q⟩ := hs
      exact ⟨v, H', J.os, J.bare, J.base, J.hok, rv, q⟩
    | next =>
      obtain ⟨σ', H', J, q⟩ := hs
      exact ⟨V.non, H', J.os, J.bare, J.base, J.hok, rfl, q⟩
    | brk =>
      obtain ⟨_, _, _, q⟩ := hs
      exact False.elim q
    | cont =>
      obtain ⟨_, _, _, q⟩ := hs
      exact False.elim q
theorem Fun.okG {P : Program} {w : World} {K : PySem.W.Frag} {mg : Str → Option Value} {base : Heap} {x qual : Str} {st : Stmt} {f : Addr} {fd : FuncData} {N ps : List Str} {k : Nat} {sp : Sp} (F : Fun K x qual st f fd) (S : FnScope N ps (defScope st)) (len : ∀ vs H Q E, sp vs H Q E → vs.length = ps.length)
    (hbody : ∀ (cdv : Value) (A : Around) (outer : List Env) (s : Shared) (H : Hp) (vs : List V) (Q : VK) (E : XK), RoomG k (A.deeper (envOfC qual (defScope st) s.heap.objs.size f cdv)) → sp vs H Q E →
      ∃ t, PSs (cxOf CX0 P w K mg base N qual (defScope st) f cdv A outer s H E).nox (defBody st) t ∧ t { nx := fun _ H' => Q .non H', rt := Q } (L2.start N vs) H) : FnG P w K mg base CX0 (k + 1) f fd ps sp := by
  obtain ⟨oc, od, kV, doc, pm, an, cdv, ct, osl, rfl, lk, hcd⟩ := F.ex
  exact fnG_of lk hcd S len fun A outer s H vs Q E hr hsp => by
    obtain ⟨t, h, q⟩ := hbody cdv A outer s H vs Q E hr hsp
    exact ⟨t, h.nox, q⟩
theorem law_callG {P : Program} {w : World} {K : PySem.W.Frag} {mg mb : Str → Option Value} {CX : CXT} {k : Nat} {fa a : Addr} {fd : FuncData} {x : Str} {sp : Sp} {s₁ : Shared} {vs : List Value} {ns : List Int}
    (KX : K.In s₁.heap) (hns : s₁.heap.Ns mainGlobals mg) (hb : s₁.heap.Ns builtinsNs mb) (hbb : ∀ x : Str, x ≠ "__name__" → mb x = bootBuiltins x) (hlim : s₁.heap.NoLimit) (hg : s₁.gens = #[])
    (ha : s₁.heap.get? a = some { cls := .type "list", data := .seq vs.toArray }) (hi : IntsAre vs ns) (hl : ns.length ≤ sizeLine) (hr : RoomG k callerA)
    (F : ∀ base : Heap, K.In base → base.Ns mainGlobals mg → FnG P w K mg base CX k fa fd [x] sp) (hbind : ∀ (s : Shared) (u : Value), BindsTo s fd ⟨[u], []⟩ [(x, u)])
    (hsp : ∀ H : Hp, Only H → SqL K H a (ns.map V.int) → sp [.ref a] H (fun v _ => v = .bl true) fun _ _ _ => False)
    (hCX : ∀ H e s', CX [] H s₁ (fun _ _ _ => False) e s' → False) :
    codeAny (model P w) callerA (.call (.ref fa) ⟨[.ref a], []⟩) (fun r s' => r = .ok (.ret (.bool true)) ∧ OldK s₁.heap s'.heap ∧ s'.os = s₁.os ∧ AllBare s'.gens) s₁ := by
  have core : ∀ H : Hp, Only H → SqL K H a (ns.map V.int) → HOk P w H s₁.heap → (∀ b, H b ≠ none → b = a) → (H a ≠ none → K.lookup a = none) →
      codeAny (model P w) callerA (.call (.ref fa) ⟨[.ref a], []⟩) (fun r s' => r = .ok (.ret (.bool true)) ∧ OldK s₁.heap s'.heap ∧ s'.os = s₁.os ∧ AllBare s'.gens) s₁ := by
    intro H hO hS hok hA hK
    have free : ∀ {b : Addr} {o : Obj}, s₁.heap.get? b = some o → (b = a → False) → H b = none := fun {b o} _ hne => Decidable.byContradiction fun z => hne (hA b z)
    have dicFree : ∀ {b : Addr} {o : Obj} {es : Array DictEntry} {ep : Nat}, s₁.heap.get? b = some o → o.data = .dict es ep → H b = none := fun {b o es ep} e d => free e fun z => by
      subst z
      rw [ha] at e
      cases e
      have d' : Data.seq vs.toArray _ = Data.dict es ep := d
      cases d'
    have ns_ : ∀ {b : Addr} {m : Str → Option Value}, s₁.heap.Ns b m → (hidT s₁.heap H).Ns b m := fun {b m} ⟨o, es, ep, e, d, r⟩ => ⟨o, es, ep, hidT_get e (dicFree e d), d, r⟩
    have hKb : K.In (hidT s₁.heap H) := fun b o e => hidT_get (KX b o e) (Decidable.byContradiction fun z => by
      have z2 := hA b z
      subst z2
      rw [hK z] at e
      cases e)
    have hM : Mod K mg (hidT s₁.heap H) := ⟨hKb, ns_ hns, ⟨mb, ns_ hb, hbb⟩, let ⟨mc, h1, h2⟩ := hlim; ⟨mc, ns_ h1, h2⟩⟩
    have e0 : Env0 P w K mg (hidT s₁.heap H) callerA [] s₁ H := ⟨rfl, hM, fun b o e => of_hidT e, Nat.le_of_eq (hidT_size _ _), trivial, fun b hb => absurd (show b ∈ ([] : List Addr) from hb) (by simp), hok, .of_eq hg⟩
    refine codeAny_mono ((F _ hKb (ns_ hns)).run callerA [] s₁ H ⟨[.ref a], []⟩ [.ref a] [.ref a] _ _ hr e0 (hbind s₁ (.ref a)) (.cons rfl .nil) (hsp H hO hS)) fun r s' h => ?_
    match r, h with
    | .error e, h => exact (hCX H e s' h).elim
    | .ok (.ret u), ⟨v, H', os, bare, un, hok', r', q⟩ =>
      have q' : v = .bl true := q
      subst q'
      obtain rfl : u = Value.bool true := r'
      refine ⟨rfl, OldK.of_keep fun b o e => ?_, os, bare⟩
      rcases Classical.em (H b = none) with q | q
      · exact un.keep b o e q (by intro z; exact absurd (show b ∈ ([] : List Addr) from z) (by simp)) (by simp)
      · rcases hO b with z | ⟨ob, xs, z⟩
        · exact absurd z q
        · obtain ⟨e1, _⟩ := hok b _ z
          obtain ⟨e2, _⟩ := hok' b _ (un.frzs b ob _ z)
          rw [e] at e1
          cases e1
          exact e2
  have rv := vals_ints hi
  cases hk : K.lookup a with
  | some o =>
    have e := KX a o hk
    rw [ha] at e
    cases e
    exact core (fun _ => none) (fun _ => .inl rfl) (.inr ⟨_, vs.toArray, _, hk, rfl, rfl, rfl, by rw [List.size_toArray, hi.length]; exact hl, by simpa using rv⟩) (fun b u z => nomatch (show (none : Option HO) = some u from z)) (fun b z => absurd rfl z) fun z => absurd rfl z
  | none =>
    have at_a : ∀ b u, (fun b => if b = a then some (HO.frz { cls := .type "list", data := .seq vs.toArray } (.lst (ns.map V.int))) else none) b = some u → b = a ∧ u = .frz { cls := .type "list", data := .seq vs.toArray } (.lst (ns.map V.int)) := fun b u z => by
      have z : (if b = a then some (HO.frz { cls := .type "list", data := .seq vs.toArray } (.lst (ns.map V.int))) else none) = some u := z
      split at z
      · rename_i h
        cases z
        exact ⟨h, rfl⟩
      · cases z
    refine core (fun b => if b = a then some (.frz { cls := .type "list", data := .seq vs.toArray } (.lst (ns.map V.int))) else none) (fun b => ?_) (.inl (.inr ⟨{ cls := .type "list", data := .seq vs.toArray }, if_pos rfl⟩)) (fun b u z => ?_) (fun b z => ?_) fun _ => hk
    · rcases Decidable.em (b = a) with q | q
      · exact .inr ⟨_, _, if_pos q⟩
      · exact .inl (if_neg q)
    · obtain ⟨rfl, rfl⟩ := at_a b u z
      exact ⟨ha, by rw [List.length_map]; exact hl, vs, _, rv, ha⟩
    · rcases Decidable.em (b = a) with q | q
      · exact q
      · exact absurd (if_neg q) z
theorem walk_ofG {l : PySem.W.OpenLaw} {n k : Nat} {q : Program} {loose : List Str} {XP : (Str → Option Value) → Heap → Prop} {YP : World → Heap → Prop} {d : DefRec} {K : Params → PySem.W.Frag} {CX : World → CXT} {sp : World → Sp} {x : Str}
    (hn : l.most = some n) (hn2 : n ≤ sizeLine) (hdf : d.params.defaults = []) (hr : RoomG k callerA)
    (hY : ∀ (w : World) (h : Heap), YP w h → (K w.params).In h)
    (F : ∀ (w : World) (mg : Str → Option Value) (fa : Addr) (h : Heap), (K w.params).In h → h.Ns mainGlobals mg → mg d.name = some (.ref fa) →
      ∃ fd : FuncData, (∀ (s : Shared) (u : Value), BindsTo s fd ⟨[u], []⟩ [(x, u)]) ∧
        ∀ base : Heap, (K w.params).In base → base.Ns mainGlobals mg → FnG l.prog w (K w.params) mg base (CX w) k fa fd [x] (sp w))
    (hsp : ∀ (w : World) (H : Hp) (a : Addr) (ns : List Int), ns.length ≤ n → Only H → SqL (K w.params) H a (ns.map V.int) → sp w [.ref a] H (fun v _ => v = .bl true) fun _ _ _ => False)
    (hCX : ∀ (w : World) (H : Hp) (s : Shared) (e : Value) (s' : Shared), CX w [] H s (fun _ _ _ => False) e s' → False) :
    PySem.W.WalkO q loose XP YP l.row.toRowW d [] (fun f vs => PySem.call f vs) := by
  refine Att.attach_call hn hdf fun w s₀ s₁ mg mb fa o pm cd doc a vs ns G Y ho hd hcd hmg hobj hints hlen hg => ?_
  have KX := hY w _ Y
  obtain ⟨fd, hb, hF⟩ := F w mg fa _ KX G.T.g hmg
  exact law_callG KX G.T.g G.T.b G.T.builtins G.T.nolimit hg hobj hints (Nat.le_trans hlen hn2) hr hF hb (fun H hO hS => hsp w H a ns hlen hO hS) fun H e s' => hCX w H s₁ e s'
end Ve
namespace Ve
open PySem PySem.Spec L2
section
variable {K : PySem.W.Frag} {H H' H2 : Hp} {μ μ' μ2 : List Addr} {hp hp' : Hd} {ls : Ls} {σ : St}
theorem Ext.back (x : Ext μ H μ' H') (r : RelH K H' μ' hp) {p : Addr} (h : H' p = none) : H p = none := by
  cases hh : H p with
  | none => rfl
  | some o =>
    exfalso
    by_cases hm : p ∈ μ
    · exact r.notIn h (by
        obtain ⟨ν, e⟩ := x.pre
        rw [e]
        exact List.mem_append_left _ hm)
    · have := x.keep p o hm hh
      rw [h] at this
      cases this
theorem Mon.loose {D : Addr} {xs : List V} {o : HO} (h : H D = some (.lst xs)) : Mon μ H μ (upd H D o) :=
  ⟨⟨[], by simp⟩, fun a ys e => by rw [upd_ne (fun z => by subst z; rw [h] at e; cases e)]; exact e, fun a ob ys _ e => by rw [upd_ne (fun z => by subst z; rw [h] at e; cases e)]; exact e⟩
theorem RelH.loose (r : RelH K H μ hp) {D : Addr} {xs : List V} {o : HO} (h : H D = some (.lst xs)) (hn : D ∉ μ) : RelH K (upd H D o) μ hp :=
  ⟨r.len, r.nd, fun n ob a e1 e2 => by
    rw [upd_ne (fun z => hn (by rw [← z]; exact List.mem_of_getElem? e2))]
    exact (r.obj n ob a e1 e2).mon (Mon.loose h), r.tabs⟩
theorem Ext.loose (x : Ext μ H μ' H') {D : Addr} {o : HO} (h : H D = none) : Ext μ H μ' (upd H' D o) :=
  ⟨x.pre, x.new, fun a u n e => by rw [upd_ne (ne_of_none e h)]; exact x.keep a u n e, fun a xs e => by rw [upd_ne (ne_of_none e h)]; exact x.tups a xs e, fun a ob xs e => by rw [upd_ne (ne_of_none e h)]; exact x.scrs a ob xs e⟩
end
def wipeL (ls : Ls) : List Nat → Ls
  | [] => ls
  | v :: vs => (wipeL ls vs).set v none
theorem wipeL_length (ls : Ls) : ∀ vs : List Nat, (wipeL ls vs).length = ls.length
  | [] => rfl
  | v :: vs => by unfold wipeL; rw [List.length_set, wipeL_length ls vs]
theorem Rl.wipe {K : PySem.W.Frag} {H : Hp} {μ : List Addr} {ls : Ls} {σ : St} (h : Rl K H μ ls σ) : ∀ vs : List Nat, Rl K H μ (wipeL ls vs) (wipe σ vs)
  | [] => h
  | v :: vs => by
    have ih := Rl.wipe h vs
    unfold wipeL L2.wipe
    refine ⟨by rw [List.length_set, List.length_set, ih.1], fun j e hj => ?_⟩
    by_cases hv : v = j
    · subst hv
      by_cases hl : v < (wipeL ls vs).length
      · rw [List.getElem?_set_self hl] at hj
        cases hj
      · rw [List.getElem?_eq_none (by simpa using hl)] at hj
        cases hj
    · rw [List.getElem?_set_ne hv] at hj
      rw [List.getElem?_set_ne hv]
      exact ih.2 j e hj
theorem wipe_none {σ : St} {v : Nat} : ∀ us : List Nat, v ∈ us → (wipe σ us).set v none = wipe σ us
  | [], h => by cases h
  | u :: us, h => by
    show ((wipe σ us).set u none).set v none = (wipe σ us).set u none
    by_cases hu : v = u
    · subst hu
      rw [List.set_set]
    · rcases List.mem_cons.mp h with z | z
      · exact absurd z hu
      · rw [List.set_comm _ _ (Ne.symm hu), wipe_none us z]
theorem wipe_key {σ : St} (vs : List Nat) : ∀ ws : List Nat, (∀ i ∈ ws, i ∈ vs) → wipe (wipe σ vs) ws = wipe σ vs
  | [], _ => rfl
  | v :: ws, hv => by
    show (wipe (wipe σ vs) ws).set v none = wipe σ vs
    rw [wipe_key vs ws fun i hi => hv i (List.mem_cons_of_mem _ hi)]
    exact wipe_none vs (hv v List.mem_cons_self)
theorem wipe_idem {σ : St} (vs : List Nat) : wipe (wipe σ vs) vs = wipe σ vs := wipe_key vs vs fun _ h => h
def tYesD : AT := fun _ hp => some (true, hp)
abbrev DTs (X : Cx) (es : List Expr) (f : AT) : Prop := PTs X es (tT X.K f)
def lcGo (t : Tg) (gd : Gd) (tt : AT) (te : AE) (ls0 : Ls) : List D → Hd → Option (List D × Hd)
  | [], hp => if gdOk gd hp then some ([], hp) else none
  | x :: xs, hp => if gdOk gd hp then match t.asg x ls0 with
    | some ls1 => match tt ls1 hp with
      | some (true, hp1) => match te ls1 hp1 with
        | some (d, hp2) => match lcGo t gd tt te ls0 xs hp2 with
          | some (r, hp3) => some (d :: r, hp3)
          | none => none
        | none => none
      | some (false, hp1) => lcGo t gd tt te ls0 xs hp1
      | none => none
    | none => none else none
def mLc (fi : AI) (t : Tg) (own : List Nat) (tt : AT) (te : AE) : AA := fun ls hp => match fi ls hp with
  | some (items, gd, hp1) => if items.length ≤ sizeLine then lcGo t gd tt te (wipeL ls own) items hp1 else none
  | none => none
theorem PTs.imp {X : Cx} {e : List Expr} {t t' : TT} (h : PTs X e t) (i : ∀ σ H Q, t' σ H Q → t σ H Q) : PTs X e t' := ⟨fun pins s σ H Q I q => h.run pins s σ H Q I (i σ H Q q)⟩
section
variable {X : Cx} {e elt tg iter : Expr} {es ifs : List Expr} {fi : AI} {t : Tg} {tt : AT} {te fa : AE} {fr : AA} {pos : Pos}
theorem dts_nil : DTs X [] tYesD := PTs.imp pts_nil fun σ H Q ⟨ls, hp, μ, b, hp', rl, rh, e, q⟩ => by
  cases e
  exact q H μ Ext.refl rh
theorem dts_one {c : Expr} (h : DT X c tt) : DTs X [c] tt := pts_one h
theorem tLc_of {K : PySem.W.Frag} {own : List Nat} {σ : St} {H : Hp} {Q : VK} (ho : ∀ i ∈ t.slots, i ∈ own) (h : tL K (mLc fi t own tt te) σ H Q) : tLc (tI K fi) (gD K t) (tT K tt) (tD K te) own σ H Q := by
  obtain ⟨ls, hp, μ, ds, hp', rl, rh, e, q⟩ := h
  unfold mLc at e
  split at e
  · rename_i items gd hp1 e1
    split at e
    · rename_i hsz
      refine ⟨ls, hp, μ, items, gd, hp1, rl, rh, e1, fun J H1 μ1 x1 rh1 wk D hD => ?_⟩
      have hD0 : H D = none := x1.back rh1 hD
      refine ⟨fun i m H2 => m + i = items.length ∧ ∃ acc accV r hp2 μ2, Ext μ1 H1 μ2 H2 ∧ D ∉ μ2 ∧ RelH K H2 μ2 hp2 ∧ H2 D = some (.lst accV) ∧ Rps K H2 μ2 acc accV ∧ acc.length ≤ i ∧
        lcGo t gd tt te (wipeL ls own) (items.drop i) hp2 = some (r, hp') ∧ acc ++ r = ds,
        ⟨items.length, by omega, [], [], ds, hp1, μ1, Ext.laid rh1 hD, rh1.notIn hD, rh1.laid hD, upd_same, Rps.nil, Nat.le_refl _, e, rfl⟩, ?_⟩
      rintro i m H2 ⟨hm, acc, accV, r, hp2, μ2, x2, nD, rh2, eD, ra, hl, e2, er⟩
      by_cases hi : i < items.length
      · have hd : items.drop i = items[i] :: items.drop (i + 1) := List.drop_eq_getElem_cons hi
        rw [hd] at e2
        simp only [lcGo] at e2
        split at e2
        · rename_i hgd
          obtain ⟨_, w2⟩ := wk i H2 μ2 hp2 x2 rh2 hgd
          obtain ⟨w3, w4⟩ := w2 hi
          refine .inr ⟨w3, fun H' => m - 1 + (i + 1) = items.length ∧ ∃ acc accV r hp2 μ2, Ext μ1 H1 μ2 H' ∧ D ∉ μ2 ∧ RelH K H' μ2 hp2 ∧ H' D = some (.lst accV) ∧ Rps K H' μ2 acc accV ∧ acc.length ≤ i + 1 ∧
            lcGo t gd tt te (wipeL ls own) (items.drop (i + 1)) hp2 = some (r, hp') ∧ acc ++ r = ds, fun H' h => ⟨m - 1, by omega, h⟩, fun x H3 hy => ?_⟩
          have hm' : m - 1 + (i + 1) = items.length := by omega
          obtain ⟨d, ed, x3, rh3, r3⟩ := w4 x H3 hy
          rw [List.getElem?_eq_getElem hi] at ed
          cases ed
          have eD3 : H3 D = some (.lst accV) := x3.keep _ _ nD eD
          split at e2
          · rename_i ls3 e3
            have rl3 := ((((rl.ext x1).ext x2).ext x3).wipe own)
            refine ⟨wipeL ls own, μ2, _, ls3, rl3, r3, e3, fun σ3 rl4 w => ⟨?_, ls3, hp2, μ2, ?_⟩⟩
            · rw [w own ho]
              exact wipe_idem own
            · split at e2
              · rename_i hp4 e4
                refine ⟨true, hp4, rl4, rh3, e4, fun H4 μ4 x4 rh4 => iteT ?_⟩
                have nD4 : D ∉ μ4 := x4.new _ _ nD eD3
                have eD4 : H4 D = some (.lst accV) := x4.keep _ _ nD eD3
                split at e2
                · rename_i d5 hp5 e5
                  split at e2
                  · rename_i r6 hp6 e6
                    cases e2
                    refine ⟨ls3, hp4, μ4, d5, hp5, rl4.ext x4, rh4, e5, fun y H5 μ5 x5 rh5 r5 => ?_⟩
                    have nD5 : D ∉ μ5 := x5.new _ _ nD4 eD4
                    have eD5 : H5 D = some (.lst accV) := x5.keep _ _ nD4 eD4
                    have x15 := (((x2.trans x3).trans x4).trans x5)
                    have ra5 := ((ra.ext x3).ext x4).ext x5
                    refine ⟨accV, eD5, ?_, hm', acc ++ [d5], accV ++ [y], r6, hp5, μ5, x15.loose hD, nD5, rh5.loose eD5 nD5, upd_same, ?_, ?_, e6, ?_⟩
                    · rw [ra.len]
                      omega
                    · have mo : Mon μ5 H5 μ5 (upd H5 D (.lst (accV ++ [y]))) := Mon.loose eD5
                      refine (ra5.append ?_).mon mo
                      rw [Rps]
                      exact ⟨y, [], rfl, r5, Rps.nil⟩
                    · rw [List.length_append]
                      simp
                      omega
                    · rw [← er, List.append_assoc]
                      rfl
                  · cases e2
                · cases e2
              · rename_i hp4 e4
                refine ⟨false, hp4, rl4, rh3, e4, fun H4 μ4 x4 rh4 => iteF ⟨hm', acc, accV, r, hp4, μ4, (x2.trans x3).trans x4, x4.new _ _ nD eD3, rh4, x4.keep _ _ nD eD3, (ra.ext x3).ext x4, by omega, e2, er⟩⟩
              · cases e2
          · cases e2
        · cases e2
      · rw [List.drop_eq_nil_of_le (by omega)] at e2
        simp only [lcGo] at e2
        split at e2
        · rename_i hgd
          cases e2
          obtain ⟨w1, _⟩ := wk i H2 μ2 _ x2 rh2 hgd
          rw [List.append_nil] at er
          subst er
          exact .inl ⟨w1 (by omega), q D accV H2 μ2 (x1.trans x2) rh2 hD0 nD eD ra⟩
        · cases e2
    · cases e
  · cases e
theorem le_lc {ifs : List Expr} {scope : Scope} {own : List (Str × Nat)} (hc : X.calm = true) (hN : X.N.Nodup) (hi : DI X tg iter fi) (ok : BlkOk X.N X.env.scope scope own)
    (hg : ∀ (s : Shared) (H : Hp) (C : Addr) (cl : List (Str × Addr)) (fp : List Addr), DG (X.blk s H scope (compEnvC scope cl C X.env) fp) tg t) (ht : ∀ (s : Shared) (H : Hp) (C : Addr) (cl : List (Str × Addr)) (fp : List Addr), DTs (X.blk s H scope (compEnvC scope cl C X.env) fp) ifs tt)
    (he : ∀ (s : Shared) (H : Hp) (C : Addr) (cl : List (Str × Addr)) (fp : List Addr), DE (X.blk s H scope (compEnvC scope cl C X.env) fp) elt te) (ho : ∀ i ∈ t.slots, i ∈ own.map (·.2) := by decide) (hs : ∀ x, foldedSetIterable iter X.env x = pure x := by intro _; rfl) :
    LE X (.ListComp elt [⟨tg, iter, ifs, 0⟩] scope pos) (mLc fi t (own.map (·.2)) tt te) :=
  PE.imp (pe_lc hc hN hi ok hg ht he hs) fun _ _ _ h => tLc_of ho h
theorem ds_setLc {i : Nat} {y : Str} {py spos : Pos} {scope : Scope} {own : List (Str × Nat)} (hc : X.calm = true) (hN : X.N.Nodup) (hy : X.N[i]? = some y) (hyl : X.env.scope.names.lookup y = some .local)
    (hsw : swapsWith (.ListComp elt [⟨tg, iter, ifs, 0⟩] scope pos) (some (.Name y py)) spos.line X.env = pure true) (hi : DI X tg iter fi) (ok : BlkOk X.N X.env.scope scope own)
    (hg : ∀ (s : Shared) (H : Hp) (C : Addr) (cl : List (Str × Addr)) (fp : List Addr), DG (X.blk s H scope (compEnvC scope cl C X.env) fp) tg t) (ht : ∀ (s : Shared) (H : Hp) (C : Addr) (cl : List (Str × Addr)) (fp : List Addr), DTs (X.blk s H scope (compEnvC scope cl C X.env) fp) ifs tt)
    (he : ∀ (s : Shared) (H : Hp) (C : Addr) (cl : List (Str × Addr)) (fp : List Addr), DE (X.blk s H scope (compEnvC scope cl C X.env) fp) elt te) (ho : ∀ i ∈ t.slots, i ∈ own.map (·.2) := by decide) (hs : ∀ x, foldedSetIterable iter X.env x = pure x := by intro _; rfl) :
    DS X (.Assign [.Name y py] (.ListComp elt [⟨tg, iter, ifs, 0⟩] scope pos) spos) (sSet i (mNew (mLc fi t (own.map (·.2)) tt te))) :=
  PS.imp (ps_setLc (g := gD X.K t) (tt := tT X.K tt) (te := tD X.K te) hc hN hy hyl hsw hi ok hg ht he hs) fun Dn σ H ⟨ls, hp, μ, fl, ls', hp', rl, rh, e, q⟩ => by
    refine tLc_of (K := X.K) (tt := tt) (te := te) ho ?_
    unfold sSet mNew at e
    cases e1 : mLc fi t (own.map (·.2)) tt te ls hp with
    | none => rw [e1] at e; cases e
    | some p1 =>
      obtain ⟨ds, hp1⟩ := p1
      rw [e1] at e
      cases e
      refine ⟨ls, hp, μ, ds, hp1, rl, rh, e1, fun a vs H1 μ1 x1 rh1 h0 hn hl r1 => ?_⟩
      refine q H1 (μ1 ++ [a]) (x1.place h0) (rh1.place hn ⟨vs, hl, r1.mon Mon.grow⟩) _ ((rl.ext (x1.place h0)).set ?_)
      rw [Rp]
      refine ⟨a, ?_, rfl⟩
      rw [List.getElem?_append_right (by rw [rh1.len]; exact Nat.le_refl _), rh1.len]
      simp
def spD (K : PySem.W.Frag) (n : Nat) (g : List D → Hd → Option (D × Hd)) : Sp := fun vs H Q _ => ∃ hp μ ds d hp', ds.length = n ∧ RelH K H μ hp ∧ Rps K H μ ds vs ∧ g ds hp = some (d, hp') ∧
  ∀ v H' μ', Ext μ H μ' H' → RelH K H' μ' hp' → Rp K H' μ' d v → Q v H'
def ar (n : Nat) (g : List D → Hd → Option (D × Hd)) : List D → Hd → Option (D × Hd) := fun ds hp => if ds.length = n then g ds hp else none
theorem de_call {k : Nat} {f : Addr} {fd : FuncData} {ps : List Str} {n : Nat} {g : List D → Hd → Option (D × Hd)} {x : Str} {p : Pos} (F : FnG X.prog X.w X.K X.mg X.base CX0 k f fd ps (spD X.K n g)) (hr : RoomG k X.A) (hg : Gl X x) (hm : X.mg x = some (.ref f)) (hk : PySem.W.keepIn X.K (.ref f) = true)
    (hb : Binds X.K fd ps []) (ha : DA X (e :: es) fr) (hdb : (x == ("__debug__" : Str)) = false := by decide) (he : starEach (e :: es) X.env = (false, eval e X.env) :: starEach es X.env := by rfl) (hpl : (backTo pos (starEach es X.env)).any (·.1) = false := by rfl) :
    DE X (.Call (.Name x p) (e :: es) [] pos) (mAs fr (ar n g)) :=
  PE.imp (pe_callG F hr hg hm hk hb .nil pass0 ha hdb he hpl) fun σ H Q h => by
    obtain ⟨ls, hp, μ, d, hp', rl, rh, e, q⟩ := h
    unfold mAs at e
    cases e1 : fr ls hp with
    | none => rw [e1] at e; cases e
    | some p1 =>
      obtain ⟨ds, hp1⟩ := p1
      rw [e1] at e
      simp only [ar] at e
      split at e
      · rename_i hn
        refine ⟨ls, hp, μ, ds, hp1, rl, rh, e1, fun vs H1 μ1 x1 rh1 r1 => ?_⟩
        show spD X.K n g (vs ++ []) H1 Q E0
        rw [List.append_nil]
        exact ⟨hp1, μ1, ds, d, hp', hn, rh1, r1, e, fun v H' μ' x2 rh2 r2 => q v H' μ' (x1.trans x2) rh2 r2⟩
      · cases e
theorem de_call0 {k : Nat} {f : Addr} {fd : FuncData} {ps : List Str} {n : Nat} {g : List D → Hd → Option (D × Hd)} {x : Str} {p : Pos} (F : FnG X.prog X.w X.K X.mg X.base CX0 k f fd ps (spD X.K n g)) (hr : RoomG k X.A) (hg : Gl X x) (hm : X.mg x = some (.ref f)) (hk : PySem.W.keepIn X.K (.ref f) = true)
    (hb : Binds X.K fd ps []) (hdb : (x == ("__debug__" : Str)) = false := by decide) :
    DE X (.Call (.Name x p) [] [] pos) (mAs mNil (ar n g)) :=
  PE.imp (pe_callG0 F hr hg hm hk hb .nil pass0 hdb) fun σ H Q h => by
    obtain ⟨ls, hp, μ, d, hp', rl, rh, e, q⟩ := h
    simp only [mAs, mNil, ar] at e
    split at e
    · rename_i hn
      exact ⟨hp, μ, [], d, hp', hn, rh, Rps.nil, e, fun v H' μ' x2 rh2 r2 => q v H' μ' x2 rh2 r2⟩
    · cases e
def stD (n : Nat) (ds : List D) : Ls := ds.map some ++ List.replicate (n - ds.length) none
def mDef (n : Nat) (f : AS) : List D → Hd → Option (D × Hd) := fun ds hp => match f (stD n ds) hp with
  | some (.rt d, _, hp') => some (d, hp')
  | some (.nx, _, hp') => some (.non, hp')
  | _ => none
theorem Rps.get {K : PySem.W.Frag} {H : Hp} {μ : List Addr} : ∀ {ds : List D} {vs : List V} {i : Nat} {d : D}, Rps K H μ ds vs → ds[i]? = some d → ∃ v, vs[i]? = some v ∧ Rp K H μ d v
  | [], _, _, _, _, e => by simp at e
  | x :: xs, vs, i, d, h, e => by
    rw [Rps] at h
    obtain ⟨v, r, rfl, h1, h2⟩ := h
    cases i with
    | zero =>
      simp at e
      subst e
      exact ⟨v, rfl, h1⟩
    | succ i =>
      obtain ⟨w, e1, e2⟩ := Rps.get h2 (by simpa using e)
      exact ⟨w, by simpa using e1, e2⟩
theorem Rl.start {K : PySem.W.Frag} {H : Hp} {μ : List Addr} {N : List Str} {ds : List D} {vs : List V} (r : Rps K H μ ds vs) : Rl K H μ (stD N.length ds) (L2.start N vs) := by
  refine ⟨by simp [stD, L2.start, r.len], fun i d hd => ?_⟩
  unfold stD at hd
  by_cases hi : i < ds.length
  · rw [List.getElem?_append_left (by simpa using hi), List.getElem?_map] at hd
    cases hx : ds[i]? with
    | none => rw [hx] at hd; cases hd
    | some d' =>
      rw [hx] at hd
      cases hd
      obtain ⟨v, e1, r1⟩ := r.get hx
      refine ⟨v, ?_, r1⟩
      unfold L2.start
      rw [List.getElem?_append_left (by simpa [r.len] using hi), List.getElem?_map, e1]
      rfl
  · rw [List.getElem?_append_right (by simpa using hi)] at hd
    rw [List.getElem?_replicate] at hd
    split at hd <;> cases hd
theorem fn_def {P : Program} {w : World} {K : PySem.W.Frag} {mg : Str → Option Value} {base : Heap} {x qual : Str} {st : Stmt} {f : Addr} {fd : FuncData} {N ps : List Str} {k : Nat} {fb : AS} (F : Fun K x qual st f fd) (S : FnScope N ps (defScope st))
    (body : ∀ (cdv : Value) (A : Around) (outer : List Env) (s : Shared) (H : Hp) (E : XK), RoomG k (A.deeper (PyProof.Rows.envOfC qual (defScope st) s.heap.objs.size f cdv)) →
      DSs (cxOf CX0 P w K mg base N qual (defScope st) f cdv A outer s H E).nox (defBody st) fb) : FnG P w K mg base CX0 (k + 1) f fd ps (spD K ps.length (mDef N.length fb)) := by
  refine Fun.okG F S (fun vs H Q E h => ?_) (fun cdv A outer s H vs Q E hr h => ⟨_, body cdv A outer s H E hr, ?_⟩)
  · obtain ⟨hp, μ, ds, d, hp', hn, rh, r, e, q⟩ := h
    rw [r.len, hn]
  · obtain ⟨hp, μ, ds, d, hp', hn, rh, r, e, q⟩ := h
    show tS K fb _ _ _
    unfold mDef at e
    split at e
    · rename_i d' ls' hp1 e1
      cases e
      exact ⟨stD N.length ds, hp, μ, .rt d, ls', hp', Rl.start r, rh, e1, fun H' μ' x1 rh1 v rv => q v H' μ' x1 rh1 rv⟩
    · rename_i ls' hp1 e1
      cases e
      exact ⟨stD N.length ds, hp, μ, .nx, ls', hp', Rl.start r, rh, e1, fun H' μ' x1 rh1 σ' rl' => q .non H' μ' x1 rh1 Rp.non⟩
    · cases e
theorem Wk.range {K : PySem.W.Frag} {lo : Int} {n : Nat} {μ : List Addr} {H : Hp} : Wk K (Itr lo n) ((List.range n).map fun i => D.int (lo + (i : Nat))) [] μ H := by
  intro i H2 μ2 hp2 x2 rh2 _
  refine ⟨fun hi => ?_, fun hi => ⟨?_, fun x H3 hy => ?_⟩⟩
  · show n ≤ i
    simpa using hi
  · show i < n
    simpa using hi
  · obtain ⟨rfl, rfl⟩ := hy
    refine ⟨.int (lo + (i : Nat)), ?_, Ext.refl, rh2, Rp.int⟩
    have : i < n := by simpa using hi
    rw [List.getElem?_map, List.getElem?_range this]
    rfl
def mR1 (fr : AA) : AI := fun ls hp => match fr ls hp with
  | some ([.int j], hp1) => if -(2 ^ 62) ≤ j ∧ j < 2 ^ 62 then some ((List.range j.toNat).map fun i => D.int (i : Nat), [], hp1) else none
  | _ => none
theorem di_range1 {a : Expr} {p : Pos} (hg : Gl X "range") (hm : X.mg "range" = none) (ha : DA X [a] fr) (hs : starEach [a] X.env = [(false, eval a X.env)] := by rfl) : DI X tg (.Call (.Name "range" p) [a] [] pos) (mR1 fr) :=
  PI.imp (pi_range1 hg hm ha hs) fun σ H R ⟨ls, hp, μ, items, gd, hp', rl, rh, e, q⟩ => by
    unfold mR1 at e
    split at e
    · rename_i j hp1 e1
      split at e
      · rename_i hj
        cases e
        refine ⟨ls, hp, μ, [.int j], hp', rl, rh, e1, fun vs H' μ' x1 rh1 r1 => ?_⟩
        rw [Rps] at r1
        obtain ⟨v, r, rfl, r1, r2⟩ := r1
        rw [Rps] at r2
        subst r2
        refine ⟨j, by rw [r1.intE], hj.1, hj.2, q _ H' μ' x1 rh1 ?_⟩
        have := Wk.range (K := X.K) (lo := 0) (n := j.toNat) (μ := μ') (H := H')
        simpa using this
      · cases e
    · cases e
def mIL (f : AA) : AI := fun ls hp => match f ls hp with
  | some (ds, hp1) => some (ds, [], hp1)
  | none => none
def itOf : D → Hd → Option (List D × Gd)
  | .tup ds, _ => some (ds, [])
  | .wt ds, _ => some (ds, [])
  | .scr ns, _ => some (ns.map .int, [])
  | .str x, _ => some (x.cps.toList.map fun c => .str ⟨#[c]⟩, [])
  | .ref n, hp => match hp[n]? with
    | some (.lst xs) => some (xs, [(n, xs)])
    | _ => none
  | _, _ => none
def mIS (f : AE) : AI := fun ls hp => match f ls hp with
  | some (d, hp1) => match itOf d hp1 with
    | some (items, gd) => some (items, gd, hp1)
    | none => none
  | none => none
theorem RelH.lst {K : PySem.W.Frag} {H : Hp} {μ : List Addr} {hp : Hd} (r : RelH K H μ hp) {n : Nat} {a : Addr} {xs : List D} (h : μ[n]? = some a) (e : hp[n]? = some (.lst xs)) : ∃ vs, H a = some (.lst vs) ∧ Rps K H μ xs vs := by
  obtain ⟨a2, e2, vs, q1, q2⟩ := r.at_ e
  rw [h] at e2
  cases e2
  exact ⟨vs, q1, q2⟩
theorem gdOk_one {n : Nat} {xs : List D} {hp : Hd} (h : gdOk [(n, xs)] hp = true) : hp[n]? = some (.lst xs) := by
  simp only [gdOk, Bool.and_true] at h
  split at h
  · rename_i ys e
    rw [e, D.sames_eq _ _ h]
  · cases h
theorem di_seq {l : Expr} (h : DE X l fa) : DI X tg l (mIS fa) :=
  PI.imp (PI.or (PI.or (pi_list h) (pi_tup h)) (pi_str h)) fun σ H R ⟨ls, hp, μ, items, gd, hp', rl, rh, e, q⟩ => by
    unfold mIS at e
    split at e
    · rename_i d hp1 e1
      split at e
      · rename_i items' gd' e2
        cases e
        cases d <;> simp only [itOf] at e2 <;> try (cases e2; done)
        · rename_i x
          cases e2
          refine .inr ⟨ls, hp, μ, _, hp', rl, rh, e1, fun v H1 μ1 x1 rh1 r1 => ⟨x, r1.strE, q _ H1 μ1 x1 rh1 ?_⟩⟩
          intro i H2 μ2 hp2 x2 rh2 _
          refine ⟨fun hi => ?_, fun hi => ⟨?_, fun y H3 hy => ?_⟩⟩
          · show x.cps.size ≤ i
            simpa using hi
          · show i < x.cps.size
            simpa using hi
          · obtain ⟨rfl, c, ec, rfl⟩ := hy
            refine ⟨.str ⟨#[c]⟩, ?_, Ext.refl, rh2, Rp.str⟩
            rw [List.getElem?_map]
            simp [ec]
        · rename_i ds
          cases e2
          refine .inl (.inr ⟨ls, hp, μ, _, hp', rl, rh, e1, fun v H1 μ1 x1 rh1 r1 => ?_⟩)
          obtain ⟨a, vs, rfl, ta, ra⟩ := r1.tupE
          refine ⟨a, rfl, ⟨vs, ta.sq⟩, q _ H1 μ1 x1 rh1 ?_⟩
          intro i H2 μ2 hp2 x2 rh2 _
          have h2 : SqT X.K H2 a vs := (ta.ext x2).sq
          have hlen := ra.len
          refine ⟨fun hi => ⟨vs, h2, by omega⟩, fun hi => ?_⟩
          obtain ⟨v, ev, rv⟩ := ra.get (List.getElem?_eq_getElem hi)
          refine ⟨⟨vs, v, h2, ev⟩, fun x H3 hy => ?_⟩
          obtain ⟨rfl, hx⟩ := hy
          have := hx vs h2
          rw [ev] at this
          cases this
          exact ⟨_, List.getElem?_eq_getElem hi, Ext.refl, rh2, rv.ext x2⟩
        · rename_i n
          split at e2
          · rename_i xs e3
            cases e2
            refine .inl (.inl ⟨ls, hp, μ, _, hp', rl, rh, e1, fun v H1 μ1 x1 rh1 r1 => ?_⟩)
            obtain ⟨a, ea, rfl⟩ := r1.refE
            obtain ⟨vs, ev, _⟩ := rh1.lst ea e3
            refine ⟨a, rfl, ⟨vs, .inl (.inl ev)⟩, q _ H1 μ1 x1 rh1 ?_⟩
            intro i H2 μ2 hp2 x2 rh2 hg
            obtain ⟨vs2, ev2, ra⟩ := rh2.lst (x2.m.at_ ea) (gdOk_one hg)
            have hlen := ra.len
            refine ⟨fun hi => ⟨vs2, .inl (.inl ev2), by omega⟩, fun hi => ?_⟩
            obtain ⟨v, ev, rv⟩ := ra.get (List.getElem?_eq_getElem hi)
            refine ⟨⟨vs2, v, .inl (.inl ev2), ev⟩, fun x H3 hy => ?_⟩
            obtain ⟨rfl, hx⟩ := hy
            have := hx vs2 (.inl (.inl ev2))
            rw [ev] at this
            cases this
            exact ⟨_, List.getElem?_eq_getElem hi, Ext.refl, rh2, rv⟩
          · cases e2
        · rename_i ns
          cases e2
          refine .inl (.inl ⟨ls, hp, μ, _, hp', rl, rh, e1, fun v H1 μ1 x1 rh1 r1 => ?_⟩)
          obtain ⟨a, rfl, sa⟩ := r1.scrE
          refine ⟨a, rfl, ⟨_, sa.sq⟩, q _ H1 μ1 x1 rh1 ?_⟩
          intro i H2 μ2 hp2 x2 rh2 hg
          have h2 : SqL X.K H2 a (ns.map V.int) := (sa.mon x2.m).sq
          refine ⟨fun hi => ⟨_, h2, by simpa using hi⟩, fun hi => ?_⟩
          have hi' : i < ns.length := by simpa using hi
          refine ⟨⟨_, .int ns[i], h2, by simp [hi']⟩, fun x H3 hy => ?_⟩
          obtain ⟨rfl, hx⟩ := hy
          have := hx _ h2
          refine ⟨.int ns[i], by simp [hi'], Ext.refl, rh2, ?_⟩
          simp [hi'] at this
          subst this
          exact Rp.int
        · rename_i ds
          cases e2
          refine .inl (.inr ⟨ls, hp, μ, _, hp', rl, rh, e1, fun v H1 μ1 x1 rh1 r1 => ?_⟩)
          obtain ⟨a, vs, rfl, ta, ra⟩ := r1.wtE
          refine ⟨a, rfl, ⟨vs, ta.sq⟩, q _ H1 μ1 x1 rh1 ?_⟩
          intro i H2 μ2 hp2 x2 rh2 _
          have h2 : SqT X.K H2 a vs := (ta.mon x2.m).sq
          have hlen := ra.len
          refine ⟨fun hi => ⟨vs, h2, by omega⟩, fun hi => ?_⟩
          obtain ⟨v, ev, rv⟩ := ra.get (List.getElem?_eq_getElem hi)
          refine ⟨⟨vs, v, h2, ev⟩, fun x H3 hy => ?_⟩
          obtain ⟨rfl, hx⟩ := hy
          have := hx vs h2
          rw [ev] at this
          cases this
          exact ⟨_, List.getElem?_eq_getElem hi, Ext.refl, rh2, rv.ext x2⟩
      · cases e
    · cases e
end
end Ve
namespace Ve
open PySem PySem.Spec L2
theorem toKey_inj : ∀ {a b : D} {k : Key}, toKey a = some k → toKey b = some k → a = b := by
  intro a b k h1 h2
  cases a <;> simp only [toKey] at h1 <;> try (cases h1; done)
  · cases h1
    cases b <;> simp only [toKey] at h2 <;> try (cases h2; done)
    cases h2
    rfl
  · cases h1
    cases b <;> simp only [toKey] at h2 <;> try (cases h2; done)
    cases h2
    rfl
theorem toKeys_inj : ∀ {a b : List D} {k : List Key}, toKeys a = some k → toKeys b = some k → a = b
  | [], b, k, h1, h2 => by
    simp only [toKeys] at h1
    cases h1
    cases b with
    | nil => rfl
    | cons x xs =>
      simp only [toKeys] at h2
      split at h2 <;> cases h2
  | x :: xs, b, k, h1, h2 => by
    simp only [toKeys] at h1
    split at h1
    · rename_i k1 ks e1 e2
      cases h1
      cases b with
      | nil => simp [toKeys] at h2
      | cons y ys =>
        simp only [toKeys] at h2
        split at h2
        · rename_i k2 ks2 e3 e4
          cases h2
          rw [toKey_inj e1 e3, toKeys_inj e2 e4]
        · cases h2
    · cases h1
def look : List (D × D) → D → Option D
  | [], _ => none
  | (a, v) :: r, k => if D.same a k = true then some v else look r k
def putD : List (D × D) → D → D → List (D × D)
  | [], k, v => [(k, v)]
  | (a, x) :: r, k, v => if D.same a k = true then (a, v) :: r else (a, x) :: putD r k v
theorem same_iff {a b : D} : D.same a b = true ↔ a = b := ⟨D.same_eq a b, fun e => by rw [e]; exact D.same_self b⟩
section
variable {K : PySem.W.Frag} {H H' : Hp} {μ μ' : List Addr}
def RpO (K : PySem.W.Frag) (H : Hp) (μ : List Addr) : Option D → Option V → Prop
  | some d, some v => Rp K H μ d v
  | none, none => True
  | _, _ => False
theorem RpK.look {k : D} {k' : Key} (hk : toKey k = some k') : ∀ {kvs : List (D × D)} {vs : List (Key × V)}, RpK K H μ kvs vs → RpO K H μ (look kvs k) (valV vs k')
  | [], _, h => by
    rw [RpK] at h
    subst h
    exact True.intro
  | (a, v) :: r, _, h => by
    rw [RpK] at h
    obtain ⟨ka, w, rs, rfl, h1, h2, h3⟩ := h
    unfold Ve.look
    by_cases e : a = k
    · subst e
      rw [hk] at h1
      cases h1
      rw [if_pos (D.same_self a), valV_pos (p := (k', w)) rfl]
      exact h2
    · have e2 : ¬ ka = k' := fun z => e (toKey_inj h1 (by rw [hk, z]))
      rw [if_neg (fun z => e (same_iff.mp z)), valV_neg (p := (ka, w)) e2]
      exact RpK.look hk h3
theorem RpT.look {k : List D} {k' : List Key} (hk : toKeys k = some k') : ∀ {kvs : List (D × D)} {vs : List (List Key × V)}, RpT K H μ kvs vs → RpO K H μ (look kvs (.tup k)) (valV vs k')
  | [], _, h => by
    rw [RpT] at h
    subst h
    exact True.intro
  | (a, v) :: r, _, h => by
    rw [RpT] at h
    obtain ⟨ds, ka, w, rs, e0, rfl, h1, h2, h3⟩ := h
    have e0 : a = .tup ds := e0
    subst e0
    unfold Ve.look
    by_cases e : ds = k
    · subst e
      rw [hk] at h1
      cases h1
      rw [if_pos (D.same_self _), valV_pos (p := (k', w)) rfl]
      exact h2
    · have e2 : ¬ ka = k' := fun z => e (toKeys_inj h1 (by rw [hk, z]))
      rw [if_neg (fun z => e (D.tup.inj (same_iff.mp z))), valV_neg (p := (ka, w)) e2]
      exact RpT.look hk h3
theorem putK_cons {κ : Type} [DecidableEq κ] {a k : κ} {x v : V} {r : List (κ × V)} : putK ((a, x) :: r) k v = if a = k then (a, v) :: r.map (fun kv => if kv.1 = k then (kv.1, v) else kv) else (a, x) :: putK r k v := by
  unfold putK
  by_cases e : a = k
  · simp [e]
  · simp only [List.any_cons, e, decide_false, Bool.false_or, List.map_cons, if_neg, not_false_eq_true, ite_false]
    split <;> simp
theorem map_none {κ : Type} [DecidableEq κ] {k : κ} {v : V} : ∀ {r : List (κ × V)}, (∀ p ∈ r, p.1 ≠ k) → r.map (fun kv => if kv.1 = k then (kv.1, v) else kv) = r
  | [], _ => rfl
  | p :: r, h => by
    rw [List.map_cons, if_neg (h p List.mem_cons_self), map_none fun q hq => h q (List.mem_cons_of_mem _ hq)]
theorem RpK.keys : ∀ {kvs : List (D × D)} {vs : List (Key × V)}, RpK K H μ kvs vs → ∀ p ∈ vs, ∃ q ∈ kvs, toKey q.1 = some p.1
  | [], _, h, p, hp => by
    rw [RpK] at h
    subst h
    cases hp
  | x :: xs, _, h, p, hp => by
    rw [RpK] at h
    obtain ⟨ka, w, rs, rfl, h1, h2, h3⟩ := h
    rcases List.mem_cons.mp hp with e | e
    · subst e
      exact ⟨x, List.mem_cons_self, h1⟩
    · obtain ⟨q, hq, e2⟩ := RpK.keys h3 p e
      exact ⟨q, List.mem_cons_of_mem _ hq, e2⟩
theorem RpT.keys : ∀ {kvs : List (D × D)} {vs : List (List Key × V)}, RpT K H μ kvs vs → ∀ p ∈ vs, ∃ q ∈ kvs, ∃ ds, q.1 = .tup ds ∧ toKeys ds = some p.1
  | [], _, h, p, hp => by
    rw [RpT] at h
    subst h
    cases hp
  | x :: xs, _, h, p, hp => by
    rw [RpT] at h
    obtain ⟨ds, ka, w, rs, e0, rfl, h1, h2, h3⟩ := h
    rcases List.mem_cons.mp hp with e | e
    · subst e
      exact ⟨x, List.mem_cons_self, ds, e0, h1⟩
    · obtain ⟨q, hq, e2⟩ := RpT.keys h3 p e
      exact ⟨q, List.mem_cons_of_mem _ hq, e2⟩
theorem RpK.put {k d : D} {k' : Key} {v : V} (hk : toKey k = some k') (rv : Rp K H μ d v) : ∀ {kvs : List (D × D)} {vs : List (Key × V)}, KNd kvs → RpK K H μ kvs vs → RpK K H μ (putD kvs k d) (putK vs k' v)
  | [], _, _, h => by
    rw [RpK] at h
    subst h
    unfold putD
    rw [RpK]
    exact ⟨k', v, [], rfl, hk, rv, by rw [RpK]⟩
  | (a, x) :: r, _, nd, h => by
    rw [RpK] at h
    obtain ⟨ka, w, rs, rfl, h1, h2, h3⟩ := h
    have h1 : toKey a = some ka := h1
    unfold putD
    rw [putK_cons]
    by_cases e : a = k
    · subst e
      rw [hk] at h1
      cases h1
      rw [if_pos (D.same_self a), if_pos rfl, RpK, map_none]
      · exact ⟨k', v, rs, rfl, hk, rv, h3⟩
      · intro p hp z
        obtain ⟨q, hq, e2⟩ := RpK.keys h3 p hp
        rw [z] at e2
        exact nd.1 q hq (toKey_inj e2 hk)
    · rw [if_neg (fun z => e (same_iff.mp z)), if_neg (fun z => e (toKey_inj h1 (by rw [hk, z]))), RpK]
      exact ⟨ka, w, _, rfl, h1, h2, RpK.put hk rv nd.2 h3⟩
theorem RpT.put {k : List D} {d : D} {k' : List Key} {v : V} (hk : toKeys k = some k') (rv : Rp K H μ d v) : ∀ {kvs : List (D × D)} {vs : List (List Key × V)}, KNd kvs → RpT K H μ kvs vs → RpT K H μ (putD kvs (.tup k) d) (putK vs k' v)
  | [], _, _, h => by
    rw [RpT] at h
    subst h
    unfold putD
    rw [RpT]
    exact ⟨k, k', v, [], rfl, rfl, hk, rv, by rw [RpT]⟩
  | (a, x) :: r, _, nd, h => by
    rw [RpT] at h
    obtain ⟨ds, ka, w, rs, e0, rfl, h1, h2, h3⟩ := h
    have e0 : a = .tup ds := e0
    subst e0
    unfold putD
    rw [putK_cons]
    by_cases e : ds = k
    · subst e
      rw [hk] at h1
      cases h1
      rw [if_pos (D.same_self _), if_pos rfl, RpT, map_none]
      · exact ⟨ds, k', v, rs, rfl, rfl, hk, rv, h3⟩
      · intro p hp z
        obtain ⟨q, hq, ds2, e3, e2⟩ := RpT.keys h3 p hp
        rw [z] at e2
        exact nd.1 q hq (by rw [e3, toKeys_inj e2 hk])
    · rw [if_neg (fun z => e (D.tup.inj (same_iff.mp z))), if_neg (fun z => e (toKeys_inj h1 (by rw [hk, z]))), RpT]
      exact ⟨ds, ka, w, _, rfl, rfl, h1, h2, RpT.put hk rv nd.2 h3⟩
theorem putD_mem {k v : D} : ∀ {kvs : List (D × D)} {p : D × D}, p ∈ putD kvs k v → p = (k, v) ∨ p ∈ kvs ∨ (p.1 = k ∧ ∃ q ∈ kvs, q.1 = k)
  | [], p, h => by
    simp [putD] at h
    exact .inl h
  | (a, x) :: r, p, h => by
    unfold putD at h
    split at h
    · rename_i e
      have e := same_iff.mp e
      subst e
      rcases List.mem_cons.mp h with z | z
      · exact .inl z
      · exact .inr (.inl (List.mem_cons_of_mem _ z))
    · rcases List.mem_cons.mp h with z | z
      · exact .inr (.inl (by rw [z]; exact List.mem_cons_self))
      · rcases putD_mem z with z | z | ⟨z1, q, hq, z2⟩
        · exact .inl z
        · exact .inr (.inl (List.mem_cons_of_mem _ z))
        · exact .inr (.inr ⟨z1, q, List.mem_cons_of_mem _ hq, z2⟩)
theorem putD_key {k v : D} : ∀ {kvs : List (D × D)} {p : D × D}, p ∈ putD kvs k v → p.1 = k ∨ ∃ q ∈ kvs, q.1 = p.1 := fun h => by
  rcases putD_mem h with z | z | ⟨z1, _⟩
  · exact .inl (by rw [z])
  · exact .inr ⟨_, z, rfl⟩
  · exact .inl z1
theorem KNd.put {k v : D} : ∀ {kvs : List (D × D)}, KNd kvs → KNd (putD kvs k v)
  | [], _ => by
    unfold putD
    exact ⟨(fun q h => nomatch h), True.intro⟩
  | (a, x) :: r, nd => by
    unfold putD
    split
    · exact nd
    · rename_i e
      refine ⟨fun q hq z => ?_, KNd.put nd.2⟩
      rcases putD_key hq with w | ⟨q2, h2, w⟩
      · exact e (same_iff.mpr (by rw [← w, z]))
      · exact nd.1 q2 h2 (by rw [w, z])
theorem RpK.len : ∀ {kvs : List (D × D)} {vs : List (Key × V)}, RpK K H μ kvs vs → vs.length = kvs.length
  | [], _, h => by
    rw [RpK] at h
    subst h
    rfl
  | _ :: _, _, h => by
    rw [RpK] at h
    obtain ⟨ka, w, rs, rfl, h1, h2, h3⟩ := h
    rw [List.length_cons, List.length_cons, RpK.len h3]
theorem RpT.len : ∀ {kvs : List (D × D)} {vs : List (List Key × V)}, RpT K H μ kvs vs → vs.length = kvs.length
  | [], _, h => by
    rw [RpT] at h
    subst h
    rfl
  | _ :: _, _, h => by
    rw [RpT] at h
    obtain ⟨ds, ka, w, rs, e0, rfl, h1, h2, h3⟩ := h
    rw [List.length_cons, List.length_cons, RpT.len h3]
theorem Rp.keyV {k : D} {k' : Key} {v : V} (hk : toKey k = some k') (r : Rp K H μ k v) : v = kV k' := by
  cases k <;> simp only [toKey] at hk <;> try (cases hk; done)
  · cases hk
    exact r.intE
  · cases hk
    exact r.strE
theorem Rps.keysV : ∀ {ks : List D} {k' : List Key} {vs : List V}, toKeys ks = some k' → Rps K H μ ks vs → vs = k'.map kV
  | [], k', vs, hk, r => by
    simp only [toKeys] at hk
    cases hk
    rw [Rps] at r
    exact r
  | d :: ds, k', vs, hk, r => by
    simp only [toKeys] at hk
    split at hk
    · rename_i k ks e1 e2
      cases hk
      rw [Rps] at r
      obtain ⟨v, w, rfl, r1, r2⟩ := r
      rw [List.map_cons, r1.keyV e1, Rps.keysV e2 r2]
    · cases hk
end
section
variable {X : Cx} {pins : List (Addr × Obj)} {σ : St} {H : Hp} {s : Shared} {a : Addr}
theorem inv_dT (I : Inv X pins σ H s) (e : H a = some (.dK [])) : Inv X pins σ (upd H a (.dT [])) s := by
  obtain ⟨z, hd, vs, rel, o, es, ep, h1, h2, h3, h4, h5, h6⟩ := dk_of I.hok e
  have hv : vs = [] := by
    cases rel
    rfl
  subst hv
  have he : es.toList = [] := by
    generalize es.toList = l at h5
    cases h5
    rfl
  exact d_write (t' := s.toks) (h' := s.heap) I (by rw [e]; exact True.intro) ⟨rfl, fun _ _ => rfl⟩ ⟨o, h1⟩ ⟨Nat.zero_le _, hd, [], .nil, o, es, ep, h1, h2, h3, by rw [he]; rfl, by simp⟩
end
end Ve
namespace Ve
open PySem PySem.Spec L2
def dKind (kvs : List (D × D)) : D → Bool
  | .tup ks => (toKeys ks).isSome && (match kvs with
    | [] => true
    | (.tup _, _) :: _ => true
    | _ => false)
  | k => (toKey k).isSome && (match kvs with
    | [] => true
    | (.tup _, _) :: _ => false
    | _ => true)
section
variable {X : Cx} {pins : List (Addr × Obj)} {σ : St} {H : Hp} {s : Shared} {a : Addr} {μ : List Addr} {hp : Hd} {n : Nat}
theorem inv_dK (I : Inv X pins σ H s) (e : H a = some (.dT [])) : Inv X pins σ (upd H a (.dK [])) s := by
  obtain ⟨z, hd, xs, rel, o, es, ep, h1, h2, h3, h4, h5, h6⟩ := dt_of I.hok e
  have hv : xs = [] := by
    cases rel
    rfl
  subst hv
  have he : es.toList = [] := by
    first
      | exact h4
      | exact h5
  exact d_write (t' := s.toks) (h' := s.heap) I (by rw [e]; exact True.intro) ⟨rfl, fun _ _ => rfl⟩ ⟨o, h1⟩ ⟨Nat.zero_le _, hd, [], .nil, o, es, ep, h1, h2, h3, by
    have : es = #[] := by
      cases es
      simp at he
      subst he
      rfl
    subst this
    exact ⟨fun i hi => by simp at hi, by exact .nil, by simp⟩⟩
theorem RelH.dic (r : RelH X.K H μ hp) {kvs : List (D × D)} (h : μ[n]? = some a) (e : hp[n]? = some (.dic kvs)) : KNd kvs ∧ ((∃ vs, H a = some (.dK vs) ∧ RpK X.K H μ kvs vs) ∨ ∃ vs, H a = some (.dT vs) ∧ RpT X.K H μ kvs vs) := by
  obtain ⟨a2, e2, q⟩ := r.at_ e
  rw [h] at e2
  cases e2
  exact q
theorem RelH.dicL (r : RelH X.K H μ hp) {kvs : List (D × D)} (h : μ[n]? = some a) (e : hp[n]? = some (.dicL kvs)) : KNd kvs ∧ ((∃ o vs, H a = some (.frz o (.dK vs)) ∧ RpK X.K H μ kvs vs) ∨ ∃ o vs, H a = some (.frz o (.dT vs)) ∧ RpT X.K H μ kvs vs) := by
  obtain ⟨a2, e2, q⟩ := r.at_ e
  rw [h] at e2
  cases e2
  exact q
theorem set_same {α : Type} {l : List α} {n : Nat} {x : α} (h : l[n]? = some x) : l.set n x = l := by
  obtain ⟨hl, e⟩ := List.getElem?_eq_some_iff.mp h
  rw [← e]
  exact List.set_getElem_self hl
theorem dKind_leaf {kvs : List (D × D)} {k : D} (h : dKind kvs k = true) (nt : ∀ ks, k ≠ .tup ks) : ∃ k', toKey k = some k' := by
  cases k <;> simp only [dKind] at h <;> try (simp [toKey] at h; done)
  · exact ⟨_, rfl⟩
  · exact ⟨_, rfl⟩
  · exact absurd rfl (nt _)
theorem dKind_leaf2 {p : D × D} {r : List (D × D)} {k : D} (h : dKind (p :: r) k = true) (nt : ∀ ks, k ≠ .tup ks) : ∀ ks, p.1 ≠ .tup ks := by
  obtain ⟨a, b⟩ := p
  cases k <;> cases a <;> simp [dKind] at h ⊢ <;> exact absurd rfl (nt _)
theorem dKind_tup {kvs : List (D × D)} {ks : List D} (h : dKind kvs (.tup ks) = true) : (∃ k', toKeys ks = some k') ∧ ∀ p r, kvs = p :: r → ∃ ds, p.1 = .tup ds := by
  simp only [dKind, Bool.and_eq_true] at h
  refine ⟨Option.isSome_iff_exists.mp h.1, fun p r e => ?_⟩
  subst e
  obtain ⟨a, b⟩ := p
  cases a <;> simp at h ⊢
theorem RpK.tupNot {kvs : List (D × D)} {vs : List (Key × V)} {p : D × D} {r : List (D × D)} {ds : List D} (h : RpK X.K H μ kvs vs) (e : kvs = p :: r) (e2 : p.1 = .tup ds) : False := by
  subst e
  rw [RpK] at h
  obtain ⟨ka, w, rs, rfl, h1, h2, h3⟩ := h
  rw [e2] at h1
  simp [toKey] at h1
theorem RpT.leafNot {kvs : List (D × D)} {vs : List (List Key × V)} {p : D × D} {r : List (D × D)} (h : RpT X.K H μ kvs vs) (e : kvs = p :: r) (e2 : ∀ ks, p.1 ≠ .tup ks) : False := by
  subst e
  rw [RpT] at h
  obtain ⟨ds, ka, w, rs, e0, rfl, h1, h2, h3⟩ := h
  exact e2 _ e0
theorem dic_kind (I : Inv X pins σ H s) (rh : RelH X.K H μ hp) {kvs : List (D × D)} {k : D} (ha : μ[n]? = some a) (eh : hp[n]? = some (.dic kvs)) (hk : dKind kvs k = true) :
    ∃ H', Inv X pins σ H' s ∧ Ext μ H μ H' ∧ RelH X.K H' μ hp ∧ KNd kvs ∧ (((∀ ks, k ≠ .tup ks) ∧ ∃ vs, H' a = some (.dK vs) ∧ RpK X.K H' μ kvs vs) ∨ ((∃ ks, k = .tup ks) ∧ ∃ vs, H' a = some (.dT vs) ∧ RpT X.K H' μ kvs vs)) := by
  obtain ⟨nd, q⟩ := rh.dic ha eh
  by_cases hkt : ∃ ks, k = .tup ks
  · obtain ⟨ks, rfl⟩ := hkt
    obtain ⟨_, h2⟩ := dKind_tup hk
    rcases q with ⟨vs, e, r⟩ | ⟨vs, e, r⟩
    · cases kvs with
      | nil =>
        rw [RpK] at r
        subst r
        obtain ⟨r1, x1⟩ := rh.put (o := .dic []) (u := .dT []) ha ⟨True.intro, .inr ⟨[], rfl, by rw [RpT]⟩⟩
        rw [set_same eh] at r1
        exact ⟨_, inv_dT I e, x1, r1, nd, .inr ⟨⟨ks, rfl⟩, [], upd_same, by rw [RpT]⟩⟩
      | cons p kr =>
        obtain ⟨ds, e3⟩ := h2 p kr rfl
        exact (r.tupNot rfl e3).elim
    · exact ⟨H, I, Ext.refl, rh, nd, .inr ⟨⟨ks, rfl⟩, vs, e, r⟩⟩
  · have nt : ∀ ks, k ≠ .tup ks := fun ks e => hkt ⟨ks, e⟩
    rcases q with ⟨vs, e, r⟩ | ⟨vs, e, r⟩
    · exact ⟨H, I, Ext.refl, rh, nd, .inl ⟨nt, vs, e, r⟩⟩
    · cases kvs with
      | nil =>
        rw [RpT] at r
        subst r
        obtain ⟨r1, x1⟩ := rh.put (o := .dic []) (u := .dK []) ha ⟨True.intro, .inl ⟨[], rfl, by rw [RpK]⟩⟩
        rw [set_same eh] at r1
        exact ⟨_, inv_dK I e, x1, r1, nd, .inl ⟨nt, [], upd_same, by rw [RpK]⟩⟩
      | cons p kr => exact (r.leafNot rfl (dKind_leaf2 hk nt)).elim
def dicOf : O → Option (List (D × D))
  | .dic kvs => some kvs
  | .dicL kvs => if kvs.isEmpty then none else some kvs
  | _ => none
theorem dic_get (I : Inv X pins σ H s) (rh : RelH X.K H μ hp) {o : O} {kvs : List (D × D)} {k : D} {y : V} (ha : μ[n]? = some a) (eh : hp[n]? = some o) (eo : dicOf o = some kvs) (hk : dKind kvs k = true) (ry : Rp X.K H μ k y) :
    ∃ H' r, Inv X pins σ H' s ∧ Ext μ H μ H' ∧ RelH X.K H' μ hp ∧ DGet H' a y r ∧ RpO X.K H' μ (look kvs k) r := by
  cases o with
  | lst xs => simp [dicOf] at eo
  | dicN ks => simp [dicOf] at eo
  | dicM ks => simp [dicOf] at eo
  | ins c kvs => simp [dicOf] at eo
  | exc c => simp [dicOf] at eo
  | tab c => simp [dicOf] at eo
  | dic kvs' =>
    simp only [dicOf] at eo
    cases eo
    obtain ⟨H', I', x, rh', nd, q⟩ := dic_kind I rh ha eh hk
    rcases q with ⟨nt, vs, e, r⟩ | ⟨⟨ks, rfl⟩, vs, e, r⟩
    · obtain ⟨k', e1⟩ := dKind_leaf hk nt
      exact ⟨H', _, I', x, rh', .inl ⟨vs, k', .inl e, ry.keyV e1, rfl⟩, r.look e1⟩
    · obtain ⟨⟨k', e1⟩, _⟩ := dKind_tup hk
      obtain ⟨b, ws, rfl, hb, rs⟩ := (ry.ext x).tupE
      have := rs.keysV e1
      subst this
      exact ⟨H', _, I', x, rh', .inr ⟨vs, k', b, .inl e, rfl, hb, rfl⟩, r.look e1⟩
  | dicL kvs' =>
    simp only [dicOf] at eo
    split at eo
    · cases eo
    · rename_i ne
      cases eo
      obtain ⟨nd, q⟩ := rh.dicL ha eh
      cases kvs with
      | nil => exact absurd rfl ne
      | cons p kr =>
        by_cases hkt : ∃ ks, k = .tup ks
        · obtain ⟨ks, rfl⟩ := hkt
          obtain ⟨⟨k', e1⟩, h2⟩ := dKind_tup hk
          rcases q with ⟨o, vs, e, r⟩ | ⟨o, vs, e, r⟩
          · obtain ⟨ds, e3⟩ := h2 p kr rfl
            exact (r.tupNot rfl e3).elim
          · obtain ⟨b, ws, rfl, hb, rs⟩ := ry.tupE
            have := rs.keysV e1
            subst this
            exact ⟨H, _, I, Ext.refl, rh, .inr ⟨vs, k', b, .inr ⟨o, e⟩, rfl, hb, rfl⟩, r.look e1⟩
        · have nt : ∀ ks, k ≠ .tup ks := fun ks e => hkt ⟨ks, e⟩
          obtain ⟨k', e1⟩ := dKind_leaf hk nt
          rcases q with ⟨o, vs, e, r⟩ | ⟨o, vs, e, r⟩
          · exact ⟨H, _, I, Ext.refl, rh, .inl ⟨vs, k', .inr ⟨o, e⟩, ry.keyV e1, rfl⟩, r.look e1⟩
          · exact (r.leafNot rfl (dKind_leaf2 hk nt)).elim
end
def inL (hp : Hd) (x : D) (ys : List D) : Option Bool := match pyF hp 16 x, mapO (pyF hp 15) ys with
  | some d, some ds => if (SeqAt.shaped d && SeqAt.shaped (.list ds)) = true then some (ds.any fun z => PyData.eqv z d) else none
  | _, _ => none
def flatD : D → Bool
  | .non => true
  | .bl _ => true
  | .int _ => true
  | .str _ => true
  | _ => false
def eqF : D → D → Bool
  | .non, .non => true
  | .bl a, .bl b => a == b
  | .bl a, .int b => (if a then 1 else 0) == b
  | .int a, .bl b => a == (if b then 1 else 0)
  | .int a, .int b => a == b
  | .str a, .str b => a == b
  | _, _ => false
def inB (x y : D) (hp : Hd) : Option Bool := match y with
  | .ref n => match hp[n]? with
    | some (.lst ys) => inL hp x ys
    | some o => match dicOf o with
      | some kvs => if dKind kvs x = true then some (look kvs x).isSome else none
      | none => none
    | none => none
  | .tup ys => if (flatD x && ys.all flatD) = true then some (ys.any fun z => eqF z x) else inL hp x ys
  | .wt ys => inL hp x ys
  | .str z => match x with
    | .str c => some (!(Builtin.Str.occurrences z c 0 z.length 1).isEmpty)
    | _ => none
  | _ => none
def gIn (x y : D) (hp : Hd) : Option (D × Hd) := match inB x y hp with
  | some b => some (.bl b, hp)
  | none => none
def gNotIn (x y : D) (hp : Hd) : Option (D × Hd) := match inB x y hp with
  | some b => some (.bl (!b), hp)
  | none => none
section
variable {X : Cx}
theorem Rp.flat {K : PySem.W.Frag} {H : Hp} {μ : List Addr} {d : D} {v : V} (f : flatD d = true) (r : Rp K H μ d v) : flatV v = true ∧ ∀ e w, flatD e = true → Rp K H μ e w → eqV v w = eqF d e := by
  cases d <;> simp only [flatD] at f <;> try (cases f; done)
  · cases r.nonE
    refine ⟨rfl, fun e w fe re => ?_⟩
    cases e <;> simp only [flatD] at fe <;> try (cases fe; done)
    · cases re.nonE; rfl
    · cases re.blE; rfl
    · cases re.intE; rfl
    · cases re.strE; rfl
  · cases r.blE
    refine ⟨rfl, fun e w fe re => ?_⟩
    cases e <;> simp only [flatD] at fe <;> try (cases fe; done)
    · cases re.nonE; rfl
    · cases re.blE; rfl
    · cases re.intE; rfl
    · cases re.strE; rfl
  · cases r.intE
    refine ⟨rfl, fun e w fe re => ?_⟩
    cases e <;> simp only [flatD] at fe <;> try (cases fe; done)
    · cases re.nonE; rfl
    · cases re.blE; rfl
    · cases re.intE; rfl
    · cases re.strE; rfl
  · cases r.strE
    refine ⟨rfl, fun e w fe re => ?_⟩
    cases e <;> simp only [flatD] at fe <;> try (cases fe; done)
    · cases re.nonE; rfl
    · cases re.blE; rfl
    · cases re.intE; rfl
    · cases re.strE; rfl
theorem Rps.flats {K : PySem.W.Frag} {H : Hp} {μ : List Addr} {e : D} {w : V} (fe : flatD e = true) (re : Rp K H μ e w) : ∀ {ds : List D} {vs : List V}, ds.all flatD = true → Rps K H μ ds vs → vs.all flatV = true ∧ (vs.any fun y => eqV y w) = ds.any fun z => eqF z e
  | [], vs, _, r => by
    rw [Rps] at r
    subst r
    exact ⟨rfl, rfl⟩
  | d :: ds, vs, f, r => by
    rw [Rps] at r
    obtain ⟨v, x, rfl, r1, r2⟩ := r
    rw [List.all_cons, Bool.and_eq_true] at f
    obtain ⟨h1, h2⟩ := r1.flat f.1
    obtain ⟨h3, h4⟩ := Rps.flats fe re f.2 r2
    exact ⟨by rw [List.all_cons, h1, h3]; rfl, by rw [List.any_cons, List.any_cons, h4, h2 e w fe re]⟩
theorem dpAll_of {K : PySem.W.Frag} {H : Hp} {μ : List Addr} {hp : Hd} (rh : RelH K H μ hp) {n : Nat} : ∀ (ds : List D) (ps : List PyData) (vs : List V), mapO (pyF hp n) ds = some ps → Rps K H μ ds vs → DpAll K H vs ps
  | [], ps, vs, h, r => by
    rw [Rps] at r
    simp only [mapO] at h
    cases h
    subst r
    exact .nil
  | d :: ds, ps, vs, h, r => by
    rw [Rps] at r
    obtain ⟨v, w, e, r1, r2⟩ := r
    subst e
    simp only [mapO] at h
    split at h
    · rename_i y ys e1 e2
      cases h
      exact .cons (pyF_dp rh n d y v e1 r1) (dpAll_of rh _ _ _ e2 r2)
    · cases h
theorem inL_some {hp : Hd} {x : D} {ys : List D} {b : Bool} (h : inL hp x ys = some b) : ∃ d ds, pyF hp 16 x = some d ∧ mapO (pyF hp 15) ys = some ds ∧ SeqAt.shaped d = true ∧ SeqAt.shaped (.list ds) = true ∧ b = ds.any fun z => PyData.eqv z d := by
  unfold inL at h
  split at h
  · rename_i d ds e1 e2
    split at h
    · rename_i hs
      rw [Bool.and_eq_true] at hs
      cases h
      exact ⟨d, ds, e1, e2, hs.1, hs.2, rfl⟩
    · cases h
  · cases h
theorem o_in (hu : X.A.units + 65 < cLine) : OpR X (compareOp .In) (RD X.K gIn) := fun pins s σ H x y v u Q I rx ry ⟨hp, μ, d1, d2, d, hp', rh, r1, r2, e, q⟩ => by
  unfold gIn at e
  split at e
  · rename_i b eb
    cases e
    unfold inB at eb
    split at eb
    · rename_i n
      obtain ⟨a, ea, rfl⟩ := r2.refE
      split at eb
      · rename_i ys e2
        obtain ⟨d, ds, e3, e4, s1, s2, rfl⟩ := inL_some eb
        obtain ⟨vs, ev, rv⟩ := rh.lst ea e2
        exact op_inD hu pins s σ H x _ v u Q I rx ry ⟨d, ds, pyF_dp rh _ _ _ _ e3 r1, .lst (.inl (.inl ev)) (dpAll_of rh _ _ _ e4 rv), s1, s2, q _ H μ Ext.refl rh Rp.bl⟩
      · rename_i o e2
        split at eb
        · rename_i kvs eo
          split at eb
          · rename_i hk
            cases eb
            obtain ⟨H', r, I', x', rh', g, ro⟩ := dic_get I rh ea e2 eo hk r1
            obtain rfl : u = Value.ref a := ry
            refine d_in (by omega) I' g rx fun s' I2 => ?_
            have hr : r.isSome = (look kvs d1).isSome := by
              cases h1 : look kvs d1 <;> cases h2 : r <;> rw [h1, h2] at ro <;> first | rfl | exact ro.elim
            rw [hr]
            exact ⟨.bl _, H', I2, rfl, q _ H' μ x' rh' Rp.bl⟩
          · cases eb
        · cases eb
      · cases eb
    · rename_i ys
      split at eb
      · rename_i hf
        rw [Bool.and_eq_true] at hf
        cases eb
        obtain ⟨a, vs, rfl, ta, ra⟩ := r2.tupE
        obtain ⟨f1, _⟩ := r1.flat hf.1
        obtain ⟨f2, f3⟩ := Rps.flats hf.1 r1 hf.2 ra
        refine op_in_seq pins s σ H x _ v u Q I rx ry ⟨a, vs, rfl, .inr ta.sq, f1, f2, ?_⟩
        rw [if_neg (by decide)]
        unfold inV
        rw [f3]
        exact q _ H μ Ext.refl rh Rp.bl
      · obtain ⟨d, ds, e3, e4, s1, s2, rfl⟩ := inL_some eb
        obtain ⟨a, vs, rfl, ta, ra⟩ := r2.tupE
        have dp2 : Dp X.K H (.ref a) (.tuple ds) := .tup ta.sq (dpAll_of rh _ _ _ e4 ra)
        obtain ⟨as, q1⟩ := Dp.reads I d x v (pyF_dp rh _ _ _ _ e3 r1) rx
        obtain ⟨bs, q2⟩ := Dp.reads I (.tuple ds) _ u dp2 ry
        exact SeqAt.in_tuple_reads q2 q1 (SeqAt.canLay_of_shaped s2) (SeqAt.canLay_of_shaped s1) (PyProof.Rows.room_in_shaped s1 hu) ⟨.bl _, H, I, rfl, q _ H μ Ext.refl rh Rp.bl⟩
    · rename_i ys
      obtain ⟨d, ds, e3, e4, s1, s2, rfl⟩ := inL_some eb
      obtain ⟨a, vs, rfl, ta, ra⟩ := r2.wtE
      have dp2 : Dp X.K H (.ref a) (.tuple ds) := .tup ta.sq (dpAll_of rh _ _ _ e4 ra)
      obtain ⟨as, q1⟩ := Dp.reads I d x v (pyF_dp rh _ _ _ _ e3 r1) rx
      obtain ⟨bs, q2⟩ := Dp.reads I (.tuple ds) _ u dp2 ry
      exact SeqAt.in_tuple_reads q2 q1 (SeqAt.canLay_of_shaped s2) (SeqAt.canLay_of_shaped s1) (PyProof.Rows.room_in_shaped s1 hu) ⟨.bl _, H, I, rfl, q _ H μ Ext.refl rh Rp.bl⟩
    · rename_i z
      split at eb
      · rename_i c
        cases eb
        exact op_in_str pins s σ H x y v u Q I rx ry ⟨_, _, r1.strE, r2.strE, q _ H μ Ext.refl rh Rp.bl⟩
      · cases eb
    · cases eb
  · cases e
theorem o_notIn (hu : X.A.units + 65 < cLine) : OpR X (compareOp .NotIn) (RD X.K gNotIn) := fun pins s σ H x y v u Q I rx ry ⟨hp, μ, d1, d2, d, hp', rh, r1, r2, e, q⟩ => by
  unfold gNotIn at e
  split at e
  · rename_i b eb
    cases e
    unfold inB at eb
    split at eb
    · rename_i n
      obtain ⟨a, ea, rfl⟩ := r2.refE
      split at eb
      · rename_i ys e2
        obtain ⟨d, ds, e3, e4, s1, s2, rfl⟩ := inL_some eb
        obtain ⟨vs, ev, rv⟩ := rh.lst ea e2
        exact op_notInD hu pins s σ H x _ v u Q I rx ry ⟨d, ds, pyF_dp rh _ _ _ _ e3 r1, .lst (.inl (.inl ev)) (dpAll_of rh _ _ _ e4 rv), s1, s2, q _ H μ Ext.refl rh Rp.bl⟩
      · rename_i o e2
        split at eb
        · rename_i kvs eo
          split at eb
          · rename_i hk
            cases eb
            obtain ⟨H', r, I', x', rh', g, ro⟩ := dic_get I rh ea e2 eo hk r1
            obtain rfl : u = Value.ref a := ry
            refine d_notIn (by omega) I' g rx fun s' I2 => ?_
            have hr : r.isSome = (look kvs d1).isSome := by
              cases h1 : look kvs d1 <;> cases h2 : r <;> rw [h1, h2] at ro <;> first | rfl | exact ro.elim
            rw [hr]
            exact ⟨.bl _, H', I2, rfl, q _ H' μ x' rh' Rp.bl⟩
          · cases eb
        · cases eb
      · cases eb
    · rename_i ys
      split at eb
      · rename_i hf
        rw [Bool.and_eq_true] at hf
        cases eb
        obtain ⟨a, vs, rfl, ta, ra⟩ := r2.tupE
        obtain ⟨f1, _⟩ := r1.flat hf.1
        obtain ⟨f2, f3⟩ := Rps.flats hf.1 r1 hf.2 ra
        refine op_notIn_seq pins s σ H x _ v u Q I rx ry ⟨a, vs, rfl, .inr ta.sq, f1, f2, ?_⟩
        rw [if_pos rfl]
        unfold inV
        rw [f3]
        exact q _ H μ Ext.refl rh Rp.bl
      · obtain ⟨d, ds, e3, e4, s1, s2, rfl⟩ := inL_some eb
        obtain ⟨a, vs, rfl, ta, ra⟩ := r2.tupE
        have dp2 : Dp X.K H (.ref a) (.tuple ds) := .tup ta.sq (dpAll_of rh _ _ _ e4 ra)
        obtain ⟨as, q1⟩ := Dp.reads I d x v (pyF_dp rh _ _ _ _ e3 r1) rx
        obtain ⟨bs, q2⟩ := Dp.reads I (.tuple ds) _ u dp2 ry
        exact SeqAt.notIn_tuple_reads q2 q1 (SeqAt.canLay_of_shaped s2) (SeqAt.canLay_of_shaped s1) (PyProof.Rows.room_in_shaped s1 hu) ⟨.bl _, H, I, rfl, q _ H μ Ext.refl rh Rp.bl⟩
    · rename_i ys
      obtain ⟨d, ds, e3, e4, s1, s2, rfl⟩ := inL_some eb
      obtain ⟨a, vs, rfl, ta, ra⟩ := r2.wtE
      have dp2 : Dp X.K H (.ref a) (.tuple ds) := .tup ta.sq (dpAll_of rh _ _ _ e4 ra)
      obtain ⟨as, q1⟩ := Dp.reads I d x v (pyF_dp rh _ _ _ _ e3 r1) rx
      obtain ⟨bs, q2⟩ := Dp.reads I (.tuple ds) _ u dp2 ry
      exact SeqAt.notIn_tuple_reads q2 q1 (SeqAt.canLay_of_shaped s2) (SeqAt.canLay_of_shaped s1) (PyProof.Rows.room_in_shaped s1 hu) ⟨.bl _, H, I, rfl, q _ H μ Ext.refl rh Rp.bl⟩
    · rename_i z
      split at eb
      · rename_i c
        cases eb
        exact op_notin_str pins s σ H x y v u Q I rx ry ⟨_, _, r1.strE, r2.strE, q _ H μ Ext.refl rh Rp.bl⟩
      · cases eb
    · cases eb
  · cases e
end
end Ve
namespace Ve
open PySem PySem.Spec L2
theorem PE.or {X : Cx} {e : Expr} {t t' : TE} (h : PE X e t) (h' : PE X e t') : PE X e (fun σ H Q => t σ H Q ∨ t' σ H Q) := ⟨fun pins s σ H Q I q => q.elim (h.run pins s σ H Q I) (h'.run pins s σ H Q I)⟩
def gIx (x y : D) (hp : Hd) : Option (D × Hd) := match x with
  | .tup ds => match y with
    | .int i => match atI ds i with
      | some d => some (d, hp)
      | none => none
    | _ => none
  | .wt ds => match y with
    | .int i => match atI ds i with
      | some d => some (d, hp)
      | none => none
    | _ => none
  | .scr ns => match y with
    | .int i => match atI ns i with
      | some d => some (.int d, hp)
      | none => none
    | _ => none
  | .str z => match y with
    | .int i => if z.length ≤ sizeLine then match atI z.cps.toList i with
      | some c => some (.str ⟨#[c]⟩, hp)
      | none => none else none
    | _ => none
  | .ref n => match hp[n]? with
    | some (.lst ds) => match y with
      | .int i => match atI ds i with
        | some d => some (d, hp)
        | none => none
      | _ => none
    | some o => match dicOf o with
      | some kvs => if dKind kvs y = true then match look kvs y with
        | some d => some (d, hp)
        | none => none else none
      | none => none
    | none => none
  | _ => none
theorem atI_rps {K : PySem.W.Frag} {H : Hp} {μ : List Addr} {ds : List D} {vs : List V} {i : Int} {d : D} (r : Rps K H μ ds vs) (h : atI ds i = some d) : ∃ v, atI vs i = some v ∧ Rp K H μ d v := by
  unfold atI at h ⊢
  rw [r.len]
  cases e : ixN ds.length i with
  | none => rw [e] at h; cases h
  | some j =>
    rw [e] at h
    obtain ⟨v, e2, r2⟩ := r.get h
    exact ⟨v, e2, r2⟩
theorem atI_map {α β : Type} (f : α → β) {xs : List α} {i : Int} {x : α} (h : atI xs i = some x) : atI (xs.map f) i = some (f x) := by
  unfold atI at h ⊢
  rw [List.length_map]
  cases e : ixN xs.length i with
  | none => rw [e] at h; cases h
  | some j =>
    rw [e] at h
    show (xs.map f)[j]? = _
    rw [List.getElem?_map, show xs[j]? = some x from h]
    rfl
section
variable {X : Cx} {e a b : Expr} {es : List Expr} {fa fb : AE} {fl : AA} {ft : AT} {fr : AA} {pos : Pos}
theorem m2_some {g : D → D → Hd → Option (D × Hd)} {ls : Ls} {hp hp' : Hd} {d : D} (h : m2 fa fb g ls hp = some (d, hp')) : ∃ d1 hp1 d2 hp2, fa ls hp = some (d1, hp1) ∧ fb ls hp1 = some (d2, hp2) ∧ g d1 d2 hp2 = some (d, hp') := by
  unfold m2 at h
  cases e1 : fa ls hp with
  | none => rw [e1] at h; cases h
  | some p1 =>
    obtain ⟨d1, hp1⟩ := p1
    rw [e1] at h
    dsimp only at h
    cases e2 : fb ls hp1 with
    | none => rw [e2] at h; cases h
    | some p2 =>
      obtain ⟨d2, hp2⟩ := p2
      rw [e2] at h
      exact ⟨d1, hp1, d2, hp2, rfl, e2, h⟩
theorem de_ix (hu : X.A.units + 1 < cLine) (ha : DE X a fa) (hb : DE X b fb) (hs : PlainIx b := by intro _ _; rfl) : DE X (.Subscript a b pos) (m2 fa fb gIx) :=
  PE.imp (PE.or (pe_ix ix_seq ha hb hs) (pe_dget hu ha hb hs)) fun σ H Q ⟨ls, hp, μ, d, hp', rl, rh, e, q⟩ => by
    obtain ⟨d1, hp1, d2, hp2, e1, e2, e3⟩ := m2_some e
    unfold gIx at e3
    cases d1 <;> try (cases e3; done)
    · rename_i z
      dsimp only at e3
      cases d2 <;> try (cases e3; done)
      rename_i i
      dsimp only at e3
      split at e3
      · rename_i hz
        split at e3
        · rename_i c ec
          cases e3
          refine .inl ⟨ls, hp, μ, _, hp1, rl, rh, e1, fun v1 H1 μ1 x1 rh1 r1 => ⟨ls, hp1, μ1, _, _, rl.ext x1, rh1, e2, fun v2 H2 μ2 x2 rh2 r2 => .inr (.inr ⟨z, i, c, r1.strE, r2.intE, hz, ec, q _ H2 μ2 (x1.trans x2) rh2 Rp.str⟩)⟩⟩
        · cases e3
      · cases e3
    · rename_i ds
      dsimp only at e3
      cases d2 <;> try (cases e3; done)
      rename_i i
      dsimp only at e3
      split at e3
      · rename_i d' ed
        cases e3
        refine .inl ⟨ls, hp, μ, _, hp1, rl, rh, e1, fun v1 H1 μ1 x1 rh1 r1 => ⟨ls, hp1, μ1, _, _, rl.ext x1, rh1, e2, fun v2 H2 μ2 x2 rh2 r2 => ?_⟩⟩
        obtain ⟨p, vs, rfl, t, rs⟩ := (r1.ext x2).tupE
        obtain ⟨v, ev, rv⟩ := atI_rps rs ed
        exact .inr (.inl ⟨p, vs, i, v, rfl, r2.intE, t.sq, ev, q _ H2 μ2 (x1.trans x2) rh2 rv⟩)
      · cases e3
    · rename_i n
      dsimp only at e3
      split at e3
      · rename_i ds eh
        cases d2 <;> try (cases e3; done)
        rename_i i
        dsimp only at e3
        split at e3
        · rename_i d' ed
          cases e3
          refine .inl ⟨ls, hp, μ, _, hp1, rl, rh, e1, fun v1 H1 μ1 x1 rh1 r1 => ⟨ls, hp1, μ1, _, _, rl.ext x1, rh1, e2, fun v2 H2 μ2 x2 rh2 r2 => ?_⟩⟩
          obtain ⟨p, ep, rfl⟩ := (r1.ext x2).refE
          obtain ⟨vs, evs, rs⟩ := rh2.lst ep eh
          obtain ⟨v, ev, rv⟩ := atI_rps rs ed
          exact .inl ⟨p, vs, i, v, rfl, r2.intE, .inl (.inl evs), ev, q _ H2 μ2 (x1.trans x2) rh2 rv⟩
        · cases e3
      · rename_i o _ eh
        split at e3
        · rename_i kvs eo
          split at e3
          · rename_i hk
            split at e3
            · rename_i d' ed
              cases e3
              refine .inr ⟨ls, hp, μ, _, hp1, rl, rh, e1, fun v1 H1 μ1 x1 rh1 r1 => ⟨ls, hp1, μ1, _, _, rl.ext x1, rh1, e2, fun v2 H2 μ2 x2 rh2 r2 => ?_⟩⟩
              obtain ⟨p, ep, rfl⟩ := (r1.ext x2).refE
              have ne : kvs ≠ [] := fun z => by
                subst z
                simp [look] at ed
              have key : ∃ v, DGet H2 p v2 (some v) ∧ Rp X.K H2 μ2 d v := by
                cases o with
                | lst xs => simp [dicOf] at eo
                | dicN ks => simp [dicOf] at eo
                | dicM ks => simp [dicOf] at eo
                | ins c kvs => simp [dicOf] at eo
                | exc c => simp [dicOf] at eo
                | tab c => simp [dicOf] at eo
                | dic kvs' =>
                  simp only [dicOf] at eo
                  cases eo
                  obtain ⟨nd, qd⟩ := rh2.dic ep eh
                  cases kvs with
                  | nil => exact absurd rfl ne
                  | cons pr kr =>
                    by_cases hkt : ∃ ks, d2 = .tup ks
                    · obtain ⟨ks, rfl⟩ := hkt
                      obtain ⟨⟨k', ek⟩, h2⟩ := dKind_tup hk
                      rcases qd with ⟨vs, ev, r⟩ | ⟨vs, ev, r⟩
                      · obtain ⟨ds, e5⟩ := h2 pr kr rfl
                        exact (r.tupNot rfl e5).elim
                      · obtain ⟨b, ws, rfl, hb, rs⟩ := r2.tupE
                        have := rs.keysV ek
                        subst this
                        have ro := r.look ek
                        rw [ed] at ro
                        cases h : valV vs k' with
                        | none => rw [h] at ro; exact ro.elim
                        | some v =>
                          rw [h] at ro
                          exact ⟨v, .inr ⟨vs, k', b, .inl ev, rfl, hb, h.symm⟩, ro⟩
                    · have nt : ∀ ks, d2 ≠ .tup ks := fun ks z => hkt ⟨ks, z⟩
                      obtain ⟨k', ek⟩ := dKind_leaf hk nt
                      rcases qd with ⟨vs, ev, r⟩ | ⟨vs, ev, r⟩
                      · have ro := r.look ek
                        rw [ed] at ro
                        cases h : valV vs k' with
                        | none => rw [h] at ro; exact ro.elim
                        | some v =>
                          rw [h] at ro
                          exact ⟨v, .inl ⟨vs, k', .inl ev, r2.keyV ek, h.symm⟩, ro⟩
                      · exact (r.leafNot rfl (dKind_leaf2 hk nt)).elim
                | dicL kvs' =>
                  simp only [dicOf] at eo
                  split at eo
                  · cases eo
                  · cases eo
                    obtain ⟨nd, qd⟩ := rh2.dicL ep eh
                    cases kvs with
                    | nil => exact absurd rfl ne
                    | cons pr kr =>
                      by_cases hkt : ∃ ks, d2 = .tup ks
                      · obtain ⟨ks, rfl⟩ := hkt
                        obtain ⟨⟨k', ek⟩, h2⟩ := dKind_tup hk
                        rcases qd with ⟨ob, vs, ev, r⟩ | ⟨ob, vs, ev, r⟩
                        · obtain ⟨ds, e5⟩ := h2 pr kr rfl
                          exact (r.tupNot rfl e5).elim
                        · obtain ⟨b, ws, rfl, hb, rs⟩ := r2.tupE
                          have := rs.keysV ek
                          subst this
                          have ro := r.look ek
                          rw [ed] at ro
                          cases h : valV vs k' with
                          | none => rw [h] at ro; exact ro.elim
                          | some v =>
                            rw [h] at ro
                            exact ⟨v, .inr ⟨vs, k', b, .inr ⟨ob, ev⟩, rfl, hb, h.symm⟩, ro⟩
                      · have nt : ∀ ks, d2 ≠ .tup ks := fun ks z => hkt ⟨ks, z⟩
                        obtain ⟨k', ek⟩ := dKind_leaf hk nt
                        rcases qd with ⟨ob, vs, ev, r⟩ | ⟨ob, vs, ev, r⟩
                        · have ro := r.look ek
                          rw [ed] at ro
                          cases h : valV vs k' with
                          | none => rw [h] at ro; exact ro.elim
                          | some v =>
                            rw [h] at ro
                            exact ⟨v, .inl ⟨vs, k', .inr ⟨ob, ev⟩, r2.keyV ek, h.symm⟩, ro⟩
                        · exact (r.leafNot rfl (dKind_leaf2 hk nt)).elim
              obtain ⟨v, g, rv⟩ := key
              exact ⟨p, v, rfl, g, q v H2 μ2 (x1.trans x2) rh2 rv⟩
            · cases e3
          · cases e3
        · cases e3
      · cases e3
    · rename_i ns
      dsimp only at e3
      cases d2 <;> try (cases e3; done)
      rename_i i
      dsimp only at e3
      split at e3
      · rename_i d' ed
        cases e3
        refine .inl ⟨ls, hp, μ, _, hp1, rl, rh, e1, fun v1 H1 μ1 x1 rh1 r1 => ⟨ls, hp1, μ1, _, _, rl.ext x1, rh1, e2, fun v2 H2 μ2 x2 rh2 r2 => ?_⟩⟩
        obtain ⟨p, rfl, sc⟩ := (r1.ext x2).scrE
        exact .inl ⟨p, _, i, .int d', rfl, r2.intE, sc.sq, atI_map V.int ed, q _ H2 μ2 (x1.trans x2) rh2 Rp.int⟩
      · cases e3
    · rename_i ds
      dsimp only at e3
      cases d2 <;> try (cases e3; done)
      rename_i i
      dsimp only at e3
      split at e3
      · rename_i d' ed
        cases e3
        refine .inl ⟨ls, hp, μ, _, hp1, rl, rh, e1, fun v1 H1 μ1 x1 rh1 r1 => ⟨ls, hp1, μ1, _, _, rl.ext x1, rh1, e2, fun v2 H2 μ2 x2 rh2 r2 => ?_⟩⟩
        obtain ⟨p, vs, rfl, t, rs⟩ := (r1.ext x2).wtE
        obtain ⟨v, ev, rv⟩ := atI_rps rs ed
        exact .inr (.inl ⟨p, vs, i, v, rfl, r2.intE, t.sq, ev, q _ H2 μ2 (x1.trans x2) rh2 rv⟩)
      · cases e3
def gSet (x y v : D) (hp : Hd) : Option Hd := match x with
  | .ref n => match hp[n]? with
    | some (.lst ds) => match y with
      | .int i => match ixN ds.length i with
        | some j => some (hp.set n (.lst (ds.set j v)))
        | none => none
      | _ => none
    | some (.dic kvs) => if (dKind kvs y && decide (kvs.length < sizeLine)) = true then some (hp.set n (.dic (putD kvs y v))) else none
    | _ => none
  | _ => none
def rSetD (K : PySem.W.Frag) : TSet := fun x y v H Q => ∃ hp μ dx dy dv hp', RelH K H μ hp ∧ Rp K H μ dx x ∧ Rp K H μ dy y ∧ Rp K H μ dv v ∧ gSet dx dy dv hp = some hp' ∧
  ∀ H', Ext μ H μ H' → RelH K H' μ hp' → Q H'
theorem Rps.set {K : PySem.W.Frag} {H : Hp} {μ : List Addr} {d : D} {v : V} (rv : Rp K H μ d v) : ∀ {ds : List D} {vs : List V} (j : Nat), Rps K H μ ds vs → Rps K H μ (ds.set j d) (vs.set j v)
  | [], vs, j, h => by
    rw [Rps] at h
    subst h
    exact Rps.nil
  | x :: xs, vs, j, h => by
    rw [Rps] at h
    obtain ⟨w, r, rfl, h1, h2⟩ := h
    cases j with
    | zero =>
      rw [List.set_cons_zero, List.set_cons_zero, Rps]
      exact ⟨v, r, rfl, rv, h2⟩
    | succ j =>
      rw [List.set_cons_succ, List.set_cons_succ, Rps]
      exact ⟨w, _, rfl, h1, Rps.set rv j h2⟩
theorem set_any (hu : X.A.units + 1 < cLine) : PSet X (rSetD X.K) := by
  intro pins s σ H o i v ov iv u Q I ro ri rv h
  obtain ⟨hp, μ, dx, dy, dv, hp', rh, rx, ry, rw', e, q⟩ := h
  unfold gSet at e
  cases dx <;> try (cases e; done)
  rename_i n
  dsimp only at e
  obtain ⟨a, ea, rfl⟩ := rx.refE
  split at e
  · rename_i ds eh
    cases dy <;> try (cases e; done)
    rename_i k
    dsimp only at e
    split at e
    · rename_i j ej
      cases e
      obtain ⟨vs, ev, rs⟩ := rh.lst ea eh
      have x0 : Mon μ H μ (upd H a (.lst (vs.set j v))) := Mon.loose ev
      obtain ⟨r1, x1⟩ := rh.put (o := .lst (ds.set j dv)) (u := .lst (vs.set j v)) ea ⟨_, rfl, (rs.set rw' j).mon x0⟩
      exact set_list pins s σ H _ i v ov iv u Q I ro ri rv ⟨a, vs, k, j, rfl, ry.intE, ev, by rw [rs.len]; exact ej, q _ x1 r1⟩
    · cases e
  · rename_i kvs eh
    split at e
    · rename_i hk
      rw [Bool.and_eq_true] at hk
      have hl := of_decide_eq_true hk.2
      cases e
      obtain ⟨H1, I1, x1, rh1, nd, c⟩ := dic_kind I rh ea eh hk.1
      obtain rfl : ov = Value.ref a := ro
      rcases c with ⟨nt, vs, ev, r⟩ | ⟨⟨ks, rfl⟩, vs, ev, r⟩
      · obtain ⟨k', ek⟩ := dKind_leaf hk.1 nt
        have hv := ry.keyV ek
        subst hv
        have x0 : Mon μ H1 μ (upd H1 a (.dK (putK vs k' v))) := ⟨⟨[], by simp⟩, fun b xs e => by rw [upd_ne (fun z => by subst z; rw [ev] at e; cases e)]; exact e, fun b ob xs _ e => by rw [upd_ne (fun z => by subst z; rw [ev] at e; cases e)]; exact e⟩
        obtain ⟨r2, x2⟩ := rh1.put (o := .dic (putD kvs dy dv)) (u := .dK (putK vs k' v)) ea ⟨nd.put, .inl ⟨_, rfl, (r.put ek (rw'.ext x1) nd).mon x0⟩⟩
        exact d_setItem hu I1 (DPut.k ev (by rw [r.len]; exact hl)) ri rv fun s' I2 => ⟨_, I2, q _ (x1.trans x2) r2⟩
      · obtain ⟨⟨k', ek⟩, _⟩ := dKind_tup hk.1
        obtain ⟨b, ws, rfl, hb, rs⟩ := (ry.ext x1).tupE
        have := rs.keysV ek
        subst this
        have x0 : Mon μ H1 μ (upd H1 a (.dT (putK vs k' v))) := ⟨⟨[], by simp⟩, fun b xs e => by rw [upd_ne (fun z => by subst z; rw [ev] at e; cases e)]; exact e, fun b ob xs _ e => by rw [upd_ne (fun z => by subst z; rw [ev] at e; cases e)]; exact e⟩
        obtain ⟨r2, x2⟩ := rh1.put (o := .dic (putD kvs (.tup ks) dv)) (u := .dT (putK vs k' v)) ea ⟨nd.put, .inr ⟨_, rfl, (r.put ek (rw'.ext x1) nd).mon x0⟩⟩
        exact d_setItem hu I1 (DPut.t ev hb (by rw [r.len]; exact hl)) ri rv fun s' I2 => ⟨_, I2, q _ (x1.trans x2) r2⟩
    · cases e
  · cases e
def sStore (fe fo fi : AE) : AS := fun ls hp => match fe ls hp with
  | some (v, hp1) => match fo ls hp1 with
    | some (x, hp2) => match fi ls hp2 with
      | some (y, hp3) => match gSet x y v hp3 with
        | some hp4 => some (.nx, ls, hp4)
        | none => none
      | none => none
    | none => none
  | none => none
theorem ds_store {o i : Expr} {fe fo fi : AE} {pos' : Pos} (hu : X.A.units + 1 < cLine) (he : DE X e fe) (ho : DE X o fo) (hi : DE X i fi) (hs : swapsWithSole [.Subscript o i pos'] e pos.line X.env = pure false := by rfl)
    (hsw : swappedStores [.Subscript o i pos'] e X.env = pure none := by rfl) (h1 : (assignEach [.Subscript o i pos'] X.env).map (·.2) = [assign (.Subscript o i pos') X.env] := by rfl)
    (ha : ∀ v, assign (.Subscript o i pos') X.env v = (do
      let ov ← holding [v] (eval o X.env)
      let iv ← holding [v, ov] (eval i X.env)
      standAt pos'
      holding [v, ov, iv] (setItem ov iv v)
      release [v, ov, iv] []) := by intro _; rfl) : DS X (.Assign [.Subscript o i pos'] e pos) (sStore fe fo fi) :=
  PS.imp (ps_asg he (pg_sub ho hi (set_any hu) ha) hs hsw h1) fun Dn σ H ⟨ls, hp, μ, fl, ls', hp', rl, rh, e, q⟩ => by
    unfold sStore at e
    split at e
    · rename_i v hp1 e1
      split at e
      · rename_i x hp2 e2
        split at e
        · rename_i y hp3 e3
          split at e
          · rename_i hp4 e4
            cases e
            exact ⟨ls, hp, μ, v, hp1, rl, rh, e1, fun v1 H1 μ1 x1 rh1 r1 => ⟨ls, hp1, μ1, x, hp2, rl.ext x1, rh1, e2, fun v2 H2 μ2 x2 rh2 r2 => ⟨ls, hp2, μ2, y, hp3, (rl.ext x1).ext x2, rh2, e3, fun v3 H3 μ3 x3 rh3 r3 =>
              ⟨hp3, μ3, x, y, v, hp', rh3, r2.ext x3, r3, (r1.ext x2).ext x3, e4, fun H4 x4 rh4 => q H4 μ3 (((x1.trans x2).trans x3).trans x4) rh4 σ ((((rl.ext x1).ext x2).ext x3).ext x4)⟩⟩⟩⟩
          · cases e
        · cases e
      · cases e
    · cases e
def sAug (i : Nat) (fe : AE) (g : D → D → Hd → Option (D × Hd)) : AS := fun ls hp => match ls[i]? with
  | some (some x) => match fe ls hp with
    | some (y, hp1) => match g x y hp1 with
      | some (z, hp2) => some (.nx, ls.set i (some z), hp2)
      | none => none
    | none => none
  | _ => none
end
end Ve
namespace Ve
open PySem PySem.Spec L2
def mAnd (f g : AT) : AT := fun ls hp => match f ls hp with
  | some (true, hp1) => g ls hp1
  | r => r
def mOr (f g : AT) : AT := fun ls hp => match f ls hp with
  | some (false, hp1) => g ls hp1
  | r => r
def mNot (f : AT) : AT := fun ls hp => match f ls hp with
  | some (b, hp1) => some (!b, hp1)
  | none => none
def mAndV (f g : AE) : AE := fun ls hp => match f ls hp with
  | some (.bl true, hp1) => g ls hp1
  | some (.bl false, hp1) => some (.bl false, hp1)
  | _ => none
def mOrV (f g : AE) : AE := fun ls hp => match f ls hp with
  | some (.bl true, hp1) => some (.bl true, hp1)
  | some (.bl false, hp1) => g ls hp1
  | _ => none
def mNotV (f : AE) : AE := fun ls hp => match f ls hp with
  | some (.bl b, hp1) => some (.bl (!b), hp1)
  | _ => none
def mIfE (c : AT) (f g : AE) : AE := fun ls hp => match c ls hp with
  | some (true, hp1) => f ls hp1
  | some (false, hp1) => g ls hp1
  | none => none
section
variable {X : Cx} {e a b c : Expr} {es rest : List Expr} {fa fb fc : AE} {fl fm : AA} {ft fu : AT} {fr : AA} {pos : Pos}
theorem dt_val (h : DE X e fa) (he : ∀ whole, isTrue e X.env whole = (do let v ← whole; standAt e.pos; holding [v] (truthy v)) := by intro _; rfl) : DT X e (mT fa) :=
  PT.imp (pt_val h he) fun σ H Q ⟨ls, hp, μ, b, hp', rl, rh, e, q⟩ => by
    unfold mT at e
    split at e
    · rename_i b' hp1 e1
      cases e
      exact ⟨ls, hp, μ, .bl b, hp', rl, rh, e1, fun v H' μ' x1 rh1 r1 => ⟨b, r1.blE, q H' μ' x1 rh1⟩⟩
    · cases e
theorem dw_and1 (ha : DT X a ft) : DW X (.BoolOp .And [a] pos) ft := pw_and1 ha
theorem dw_or1 (ha : DT X a ft) : DW X (.BoolOp .Or [a] pos) ft := pw_or1 ha
theorem dw_and (ha : DT X a ft) (hb : DW X (.BoolOp .And (b :: rest) pos) fu) : DW X (.BoolOp .And (a :: b :: rest) pos) (mAnd ft fu) :=
  PW.imp (pw_and ha hb) fun σ H Q ⟨ls, hp, μ, r, hp', rl, rh, e, q⟩ => by
    unfold mAnd at e
    cases e1 : ft ls hp with
    | none => rw [e1] at e; cases e
    | some p =>
      obtain ⟨k, hp1⟩ := p
      rw [e1] at e
      refine ⟨ls, hp, μ, k, hp1, rl, rh, e1, fun H1 μ1 x1 rh1 => ?_⟩
      cases k with
      | true => exact iteT ⟨ls, hp1, μ1, r, hp', rl.ext x1, rh1, e, fun H2 μ2 x2 rh2 => q H2 μ2 (x1.trans x2) rh2⟩
      | false =>
        cases e
        exact iteF (q H1 μ1 x1 rh1)
theorem dw_or (ha : DT X a ft) (hb : DW X (.BoolOp .Or (b :: rest) pos) fu) : DW X (.BoolOp .Or (a :: b :: rest) pos) (mOr ft fu) :=
  PW.imp (pw_or ha hb) fun σ H Q ⟨ls, hp, μ, r, hp', rl, rh, e, q⟩ => by
    unfold mOr at e
    cases e1 : ft ls hp with
    | none => rw [e1] at e; cases e
    | some p =>
      obtain ⟨k, hp1⟩ := p
      rw [e1] at e
      refine ⟨ls, hp, μ, k, hp1, rl, rh, e1, fun H1 μ1 x1 rh1 => ?_⟩
      cases k with
      | false => exact iteF ⟨ls, hp1, μ1, r, hp', rl.ext x1, rh1, e, fun H2 μ2 x2 rh2 => q H2 μ2 (x1.trans x2) rh2⟩
      | true =>
        cases e
        exact iteT (q H1 μ1 x1 rh1)
theorem dt_w (h : DW X e ft) : DT X e ft := h.pt
theorem dt_not (ha : DT X a ft) : DT X (.UnaryOp .Not a pos) (mNot ft) :=
  PT.imp (pt_not ha) fun σ H Q ⟨ls, hp, μ, r, hp', rl, rh, e, q⟩ => by
    unfold mNot at e
    split at e
    · rename_i b hp1 e1
      cases e
      exact ⟨ls, hp, μ, b, hp', rl, rh, e1, fun H1 μ1 x1 rh1 => q H1 μ1 x1 rh1⟩
    · cases e
theorem de_one {op} (h : DE X a fa) : DE X (.BoolOp op [a] pos) fa := pe_one h
theorem de_and (ha : DE X a fa) (hb : DE X (.BoolOp .And (b :: rest) pos) fb) : DE X (.BoolOp .And (a :: b :: rest) pos) (mAndV fa fb) :=
  PE.imp (pe_and ha hb) fun σ H Q ⟨ls, hp, μ, r, hp', rl, rh, e, q⟩ => by
    unfold mAndV at e
    split at e
    · rename_i hp1 e1
      exact ⟨ls, hp, μ, _, hp1, rl, rh, e1, fun v H1 μ1 x1 rh1 r1 => ⟨true, r1.blE, iteT ⟨ls, hp1, μ1, r, hp', rl.ext x1, rh1, e, fun v H2 μ2 x2 rh2 r2 => q v H2 μ2 (x1.trans x2) rh2 r2⟩⟩⟩
    · rename_i hp1 e1
      cases e
      exact ⟨ls, hp, μ, _, hp', rl, rh, e1, fun v H1 μ1 x1 rh1 r1 => ⟨false, r1.blE, iteF (q _ H1 μ1 x1 rh1 Rp.bl)⟩⟩
    · cases e
theorem de_not (ha : DE X a fa) : DE X (.UnaryOp .Not a pos) (mNotV fa) :=
  PE.imp (pe_not ha) fun σ H Q ⟨ls, hp, μ, r, hp', rl, rh, e, q⟩ => by
    unfold mNotV at e
    split at e
    · rename_i b hp1 e1
      cases e
      exact ⟨ls, hp, μ, _, hp', rl, rh, e1, fun v H1 μ1 x1 rh1 r1 => ⟨b, r1.blE, q _ H1 μ1 x1 rh1 Rp.bl⟩⟩
    · cases e
def mChain (fa fb fc : AE) (g g' : D → D → Hd → Option (D × Hd)) : AE := fun ls hp => match fa ls hp with
  | some (x, hp1) => match fb ls hp1 with
    | some (y, hp2) => match g x y hp2 with
      | some (.bl true, hp3) => match fc ls hp3 with
        | some (z, hp4) => g' y z hp4
        | none => none
      | some (.bl false, hp3) => some (.bl false, hp3)
      | _ => none
    | none => none
  | none => none
theorem tChain_of {K : PySem.W.Frag} {g g' : D → D → Hd → Option (D × Hd)} {σ : St} {H : Hp} {Q : VK} (h : tD K (mChain fa fb fc g g') σ H Q) : tChain (RD K g) (RD K g') (tD K fa) (tD K fb) (tD K fc) σ H Q := by
  obtain ⟨ls, hp, μ, d, hp', rl, rh, e, q⟩ := h
  unfold mChain at e
  split at e
  · rename_i x hp1 e1
    split at e
    · rename_i y hp2 e2
      split at e
      · rename_i hp3 e3
        split at e
        · rename_i z hp4 e4
          exact ⟨ls, hp, μ, x, hp1, rl, rh, e1, fun v1 H1 μ1 x1 rh1 r1 => ⟨ls, hp1, μ1, y, hp2, rl.ext x1, rh1, e2, fun v2 H2 μ2 x2 rh2 r2 => ⟨hp2, μ2, x, y, _, hp3, rh2, r1.ext x2, r2, e3, fun v3 H3 μ3 x3 rh3 r3 =>
            ⟨true, r3.blE, iteT ⟨ls, hp3, μ3, z, hp4, ((rl.ext x1).ext x2).ext x3, rh3, e4, fun v4 H4 μ4 x4 rh4 r4 => ⟨hp4, μ4, y, z, d, hp', rh4, (r2.ext x3).ext x4, r4, e, fun v H5 μ5 x5 rh5 r5 => q v H5 μ5 ((((x1.trans x2).trans x3).trans x4).trans x5) rh5 r5⟩⟩⟩⟩⟩⟩
        · cases e
      · rename_i hp3 e3
        cases e
        exact ⟨ls, hp, μ, x, hp1, rl, rh, e1, fun v1 H1 μ1 x1 rh1 r1 => ⟨ls, hp1, μ1, y, hp2, rl.ext x1, rh1, e2, fun v2 H2 μ2 x2 rh2 r2 => ⟨hp2, μ2, x, y, _, hp', rh2, r1.ext x2, r2, e3, fun v3 H3 μ3 x3 rh3 r3 =>
            ⟨false, r3.blE, iteF (q _ H3 μ3 ((x1.trans x2).trans x3) rh3 Rp.bl)⟩⟩⟩⟩
      · cases e
    · cases e
  · cases e
theorem de_chain {op op' : CmpOp} {g g' : D → D → Hd → Option (D × Hd)} (ho : OpR X (compareOp op) (RD X.K g)) (ho' : OpR X (compareOp op') (RD X.K g')) (ha : DE X a fa) (hb : DE X b fb) (hc : DE X c fc)
    (hm : lastMarks [op, op'] [b, c] = false := by with_unfolding_all rfl) : DE X (.Compare a [op, op'] [b, c] pos) (mChain fa fb fc g g') :=
  PE.imp (pe_chain ho ho' ha hb hc hm) fun _ _ _ h => tChain_of h
def m2L (fa : AE) (fl : AA) (g : D → List D → Hd → Option (D × Hd)) : AE := fun ls hp => match fa ls hp with
  | some (a, hp1) => match fl ls hp1 with
    | some (ds, hp2) => g a ds hp2
    | none => none
  | none => none
theorem de_glob {x : Str} {v : V} {u : Value} {d : D} (hg : Gl X x) (hm : X.mg x = some u) (r : RelV v u) (hr : ∀ H μ, Rp X.K H μ d v) (hd : (x == ("__debug__" : Str)) = false := by decide) : DE X (.Name x pos) (mC d) := de_c (pe_glob hg hm r hd) hr
theorem de_callB {x : Str} {p : Pos} {id : String} {g : List D → Hd → Option (D × Hd)} (hc : CallR X (.builtin id) (RDs X.K g)) (hg : Gl X x) (hm : X.mg x = none) (hv : bootBuiltins x = some (.builtin id)) (ha : DA X (e :: es) fr) (hn : x ≠ "__name__" := by decide)
    (hdb : (x == ("__debug__" : Str)) = false := by decide) (he : starEach (e :: es) X.env = (false, eval e X.env) :: starEach es X.env := by rfl) (hpl : (backTo pos (starEach es X.env)).any (·.1) = false := by rfl) : DE X (.Call (.Name x p) (e :: es) [] pos) (mAs fr g) :=
  PE.imp (pe_callB hc hg hm hv ha hn hdb he hpl) fun _ _ _ h => tCB_of h
theorem de_callTy {x : Str} {p : Pos} {T : String} {g : List D → Hd → Option (D × Hd)} (hc : CallR X (.type T) (RDs X.K g)) (hg : Gl X x) (hm : X.mg x = none) (hv : bootBuiltins x = some (.type T)) (ha : DA X (e :: es) fr) (hn : x ≠ "__name__" := by decide)
    (hdb : (x == ("__debug__" : Str)) = false := by decide) (he : starEach (e :: es) X.env = (false, eval e X.env) :: starEach es X.env := by rfl) (hpl : (backTo pos (starEach es X.env)).any (·.1) = false := by rfl) : DE X (.Call (.Name x p) (e :: es) [] pos) (mAs fr g) :=
  PE.imp (pe_callTy hc hg hm hv ha hn hdb he hpl) fun _ _ _ h => tCB_of h
def gLen : List D → Hd → Option (D × Hd)
  | [.tup ds], hp => some (.int ds.length, hp)
  | [.wt ds], hp => some (.int ds.length, hp)
  | [.scr ns], hp => some (.int ns.length, hp)
  | [.str z], hp => if z.length ≤ sizeLine then some (.int z.length, hp) else none
  | [.ref n], hp => match hp[n]? with
    | some (.lst ds) => some (.int ds.length, hp)
    | some (.dic ds) => some (.int ds.length, hp)
    | _ => none
  | _, _ => none
theorem Rps.one {K : PySem.W.Frag} {H : Hp} {μ : List Addr} {d : D} {xs : List V} (h : Rps K H μ [d] xs) : ∃ v, xs = [v] ∧ Rp K H μ d v := by
  rw [Rps] at h
  obtain ⟨v, r, rfl, h1, h2⟩ := h
  rw [Rps] at h2
  subst h2
  exact ⟨v, rfl, h1⟩
theorem Rps.two {K : PySem.W.Frag} {H : Hp} {μ : List Addr} {d e : D} {xs : List V} (h : Rps K H μ [d, e] xs) : ∃ v w, xs = [v, w] ∧ Rp K H μ d v ∧ Rp K H μ e w := by
  rw [Rps] at h
  obtain ⟨v, r, rfl, h1, h2⟩ := h
  obtain ⟨w, rfl, h3⟩ := h2.one
  exact ⟨v, w, rfl, h1, h3⟩
theorem c_len : CallR X (.builtin "len") (RDs X.K gLen) := fun pins s σ H xs us Q I r ⟨hp, μ, ds, d, hp', rh, rs, e, q⟩ => by
  unfold gLen at e
  split at e
  · cases e
    obtain ⟨v, rfl, r1⟩ := rs.one
    obtain ⟨a, vs, rfl, t, r2⟩ := r1.tupE
    rw [← r2.len] at q
    exact call_len_seq pins s σ H _ us Q I r ⟨a, vs, rfl, .inr t.sq, q _ H μ Ext.refl rh Rp.int⟩
  · cases e
    obtain ⟨v, rfl, r1⟩ := rs.one
    obtain ⟨a, vs, rfl, t, r2⟩ := r1.wtE
    rw [← r2.len] at q
    exact call_len_seq pins s σ H _ us Q I r ⟨a, vs, rfl, .inr t.sq, q _ H μ Ext.refl rh Rp.int⟩
  · rename_i ns
    cases e
    obtain ⟨v, rfl, r1⟩ := rs.one
    obtain ⟨a, rfl, t⟩ := r1.scrE
    have hl : ((ns.length : Nat) : Int) = ((ns.map V.int).length : Nat) := by rw [List.length_map]
    rw [hl] at q
    exact call_len_seq pins s σ H _ us Q I r ⟨a, _, rfl, .inl t.sq, q _ H μ Ext.refl rh Rp.int⟩
  · split at e
    · rename_i hz
      cases e
      obtain ⟨v, rfl, r1⟩ := rs.one
      cases r1.strE
      exact call_len_str pins s σ H _ us Q I r ⟨_, rfl, hz, q _ H μ Ext.refl rh Rp.int⟩
    · cases e
  · rename_i n
    obtain ⟨v, rfl, r1⟩ := rs.one
    obtain ⟨a, ea, rfl⟩ := r1.refE
    split at e
    · rename_i ds eh
      cases e
      obtain ⟨vs, ev, r2⟩ := rh.lst ea eh
      rw [← r2.len] at q
      exact call_len_seq pins s σ H _ us Q I r ⟨a, vs, rfl, .inl (.inl (.inl ev)), q _ H μ Ext.refl rh Rp.int⟩
    · rename_i kvs eh
      cases e
      obtain ⟨nd, ⟨vs, ev, r2⟩ | ⟨vs, ev, r2⟩⟩ := rh.dic ea eh
      · rw [← r2.len] at q
        obtain ⟨u, rfl, rx⟩ := vals1 r
        obtain rfl : u = .ref a := rx
        exact d_len I (.inl ev) fun t s' I2 => ⟨.int vs.length, H, I2, ⟨_, rfl⟩, q _ H μ Ext.refl rh Rp.int⟩
      · rw [← r2.len] at q
        exact call_len_dT pins s σ H _ us Q I r ⟨a, vs, rfl, ev, q _ H μ Ext.refl rh Rp.int⟩
    · cases e
  · cases e
def gInt : List D → Hd → Option (D × Hd)
  | [.int i], hp => some (.int i, hp)
  | [.bl b], hp => some (.int (if b then 1 else 0), hp)
  | _, _ => none
theorem c_int : CallR X (.type "int") (RDs X.K gInt) := fun pins s σ H xs us Q I r ⟨hp, μ, ds, d, hp', rh, rs, e, q⟩ => by
  unfold gInt at e
  split at e
  · cases e
    obtain ⟨v, rfl, r1⟩ := rs.one
    cases r1.intE
    exact call_int1 pins s σ H _ us Q I r (.inl ⟨_, rfl, q _ H μ Ext.refl rh Rp.int⟩)
  · cases e
    obtain ⟨v, rfl, r1⟩ := rs.one
    cases r1.blE
    exact call_int1 pins s σ H _ us Q I r (.inr ⟨_, rfl, q _ H μ Ext.refl rh Rp.int⟩)
  · cases e
def gMax2 : List D → Hd → Option (D × Hd)
  | [.int i, .int j], hp => some (.int (if j > i then j else i), hp)
  | _, _ => none
def gMin2 : List D → Hd → Option (D × Hd)
  | [.int i, .int j], hp => some (.int (if j < i then j else i), hp)
  | _, _ => none
theorem c_max2 (hc : X.calm = true) : CallR X (.builtin "max") (RDs X.K gMax2) := fun pins s σ H xs us Q I r ⟨hp, μ, ds, d, hp', rh, rs, e, q⟩ => by
  unfold gMax2 at e
  split at e
  · cases e
    obtain ⟨v, w, rfl, r1, r2⟩ := rs.two
    cases r1.intE
    cases r2.intE
    exact call_max2 hc pins s σ H _ us Q I r ⟨_, _, rfl, q _ H μ Ext.refl rh Rp.int⟩
  · cases e
theorem c_min2 (hc : X.calm = true) : CallR X (.builtin "min") (RDs X.K gMin2) := fun pins s σ H xs us Q I r ⟨hp, μ, ds, d, hp', rh, rs, e, q⟩ => by
  unfold gMin2 at e
  split at e
  · cases e
    obtain ⟨v, w, rfl, r1, r2⟩ := rs.two
    cases r1.intE
    cases r2.intE
    exact call_min2 hc pins s σ H _ us Q I r ⟨_, _, rfl, q _ H μ Ext.refl rh Rp.int⟩
  · cases e
def mL (fl : AA) (g : List D → Hd → Option (D × Hd)) : AE := fun ls hp => match fl ls hp with
  | some (ds, hp1) => g ds hp1
  | none => none
def RN (K : PySem.W.Frag) (g : List D → Hd → Option (D × Hd)) : List V → Hp → VK → Prop := fun xs H Q => ∃ hp μ ds vs p d hp', RelH K H μ hp ∧ xs = [.ref p] ∧ p ∉ μ ∧ H p = some (.lst vs) ∧ Rps K H μ ds vs ∧ g ds hp = some (d, hp') ∧
  ∀ v H' μ', Ext μ H μ' H' → RelH K H' μ' hp' → Rp K H' μ' d v → Q v H'
theorem tN_of {K : PySem.W.Frag} {g : List D → Hd → Option (D × Hd)} {σ : St} {H : Hp} {Q : VK} (h : tD K (mL fl g) σ H Q) : tCB (RN K g) (tCons (tL K fl) tNil) σ H Q := by
  obtain ⟨ls, hp, μ, d, hp', rl, rh, e, q⟩ := h
  unfold mL at e
  split at e
  · rename_i ds hp1 e1
    exact ⟨ls, hp, μ, ds, hp1, rl, rh, e1, fun p vs H1 μ1 x1 rh1 h0 hn hl r1 => ⟨hp1, μ1, ds, vs, p, d, hp', rh1, rfl, hn, hl, r1, e, fun v H2 μ2 x2 rh2 r2 => q v H2 μ2 (x1.trans x2) rh2 r2⟩⟩
  · cases e
theorem de_callBL {x : Str} {p : Pos} {id : String} {g : List D → Hd → Option (D × Hd)} (hc : CallR X (.builtin id) (RN X.K g)) (hg : Gl X x) (hm : X.mg x = none) (hv : bootBuiltins x = some (.builtin id)) (ha : LE X e fl) (hn : x ≠ "__name__" := by decide)
    (hdb : (x == ("__debug__" : Str)) = false := by decide) (he : starEach [e] X.env = (false, eval e X.env) :: starEach [] X.env := by rfl) : DE X (.Call (.Name x p) [e] [] pos) (mL fl g) :=
  PE.imp (pe_callB hc hg hm hv (pa_cons ha pa_nil he) hn hdb he rfl) fun _ _ _ h => tN_of h
theorem de_callTyL {x : Str} {p : Pos} {T : String} {g : List D → Hd → Option (D × Hd)} (hc : CallR X (.type T) (RN X.K g)) (hg : Gl X x) (hm : X.mg x = none) (hv : bootBuiltins x = some (.type T)) (ha : LE X e fl) (hn : x ≠ "__name__" := by decide)
    (hdb : (x == ("__debug__" : Str)) = false := by decide) (he : starEach [e] X.env = (false, eval e X.env) :: starEach [] X.env := by rfl) : DE X (.Call (.Name x p) [e] [] pos) (mL fl g) :=
  PE.imp (pe_callTy hc hg hm hv (pa_cons ha pa_nil he) hn hdb he rfl) fun _ _ _ h => tN_of h
def bls? : List D → Option (List Bool)
  | [] => some []
  | .bl b :: r => (bls? r).map (b :: ·)
  | _ :: _ => none
theorem Rps.bls {K : PySem.W.Frag} {H : Hp} {μ : List Addr} : ∀ {ds : List D} {bs : List Bool} {vs : List V}, bls? ds = some bs → Rps K H μ ds vs → vs = bs.map V.bl
  | [], bs, vs, e, h => by
    simp only [bls?] at e
    cases e
    rw [Rps] at h
    rw [h]
    rfl
  | d :: ds, bs, vs, e, h => by
    rw [Rps] at h
    obtain ⟨v, r, rfl, h1, h2⟩ := h
    cases d <;> simp only [bls?] at e <;> try (cases e; done)
    cases e2 : bls? ds with
    | none => rw [e2] at e; cases e
    | some b2 =>
      rw [e2] at e
      cases e
      rw [h1.blE, Rps.bls e2 h2]
      rfl
def gAll (ds : List D) (hp : Hd) : Option (D × Hd) := match bls? ds with
  | some bs => some (.bl (bs.all id), hp)
  | none => none
theorem n_all (hc : X.calm = true) : CallR X (.builtin "all") (RN X.K gAll) := fun pins s σ H xs us Q I r ⟨hp, μ, ds, vs, p, d, hp', rh, ex, hn, hl, rs, e, q⟩ => by
  unfold gAll at e
  split at e
  · rename_i bs eb
    cases e
    subst ex
    have := Rps.bls eb rs
    subst this
    exact cr_all hc pins s σ H _ us Q I r ⟨p, bs, rfl, .inl (.inl hl), q _ H μ Ext.refl rh Rp.bl⟩
  · cases e
def gTup (ds : List D) (hp : Hd) : Option (D × Hd) := some (.tup ds, hp)
theorem n_tuple : CallR X (.type "tuple") (RN X.K gTup) := fun pins s σ H xs us Q I r ⟨hp, μ, ds, vs, p, d, hp', rh, ex, hn, hl, rs, e, q⟩ => by
  unfold gTup at e
  cases e
  subst ex
  refine call_tuple_of pins s σ H _ us Q I r ⟨p, vs, rfl, .inl ⟨.inl (.inl hl), fun l h0 => ?_⟩⟩
  have x2 := Ext.laid rh (o := .tup vs) h0
  exact q _ _ μ x2 (rh.laid h0) (Rp.tup upd_same (rs.ext x2))
def tyN : D → Hd → Option String
  | .non, _ => some "NoneType"
  | .bl _, _ => some "bool"
  | .int _, _ => some "int"
  | .str _, _ => some "str"
  | .tup _, _ => some "tuple"
  | .wt _, _ => some "tuple"
  | .scr _, _ => none
  | .ref n, hp => match hp[n]? with
    | some (.lst _) => some "list"
    | some (.dic _) => some "dict"
    | _ => none
def gIsi (T : String) : List D → Hd → Option (D × Hd)
  | [x], hp => match tyN x hp with
    | some t => match kitB t T with
      | some b => some (.bl b, hp)
      | none => none
    | none => none
  | _, _ => none
def mIsi (T : String) (fa : AE) : AE := fun ls hp => match fa ls hp with
  | some (x, hp1) => gIsi T [x] hp1
  | none => none
theorem de_isi {T : String} {x t : Str} {p p2 : Pos} (hg : Gl X x) (hm : X.mg x = none) (hv : bootBuiltins x = some (.builtin "isinstance")) (ha : DE X e fa) (hgt : Gl X t) (hmt : X.mg t = none) (hvt : bootBuiltins t = some (.type T))
    (hn : x ≠ "__name__" := by decide) (hdb : (x == ("__debug__" : Str)) = false := by decide) (hnt : t ≠ "__name__" := by decide) (hdt : (t == ("__debug__" : Str)) = false := by decide)
    (he : starEach [e, .Name t p2] X.env = (false, eval e X.env) :: starEach [.Name t p2] X.env := by rfl) (he2 : starEach [.Name t p2] X.env = (false, eval (.Name t p2) X.env) :: starEach [] X.env := by rfl)
    (hpl : (backTo pos (starEach [.Name t p2] X.env)).any (·.1) = false := by rfl) : DE X (.Call (.Name x p) [e, .Name t p2] [] pos) (mIsi T fa) :=
  PE.imp (pe_callB call_isi hg hm hv (pa_cons ha (pa_cons (pe_bltn (v := .ty T) hgt hmt hvt rfl hnt hdt) pa_nil he2) he) hn hdb he hpl) fun σ H Q ⟨ls, hp, μ, d, hp', rl, rh, e, q⟩ => by
    unfold mIsi at e
    split at e
    · rename_i x hp1 e1
      unfold gIsi at e
      dsimp only at e
      split at e
      · rename_i t et
        split at e
        · rename_i b eb
          cases e
          refine ⟨ls, hp, μ, x, hp', rl, rh, e1, fun v H1 μ1 x1 rh1 r1 => ?_⟩
          have ty : TyX X.K H1 v (.type t) := by
            cases x <;> simp only [tyN] at et <;> try (cases et; done)
            · cases et; cases r1.nonE; exact .base .non
            · cases et; cases r1.blE; exact .base (.bl _)
            · cases et; cases r1.intE; exact .base (.int _)
            · cases et; cases r1.strE; exact .base (.str _)
            · cases et
              obtain ⟨a, vs, rfl, t, _⟩ := r1.tupE
              exact .base (.tup t)
            · obtain ⟨a, ea, rfl⟩ := r1.refE
              split at et
              · rename_i xs eh
                cases et
                obtain ⟨vs, ev, _⟩ := rh1.lst ea eh
                exact .base (.lst ev)
              · rename_i xs eh
                cases et
                obtain ⟨nd, ⟨vs, ev, r2⟩ | ⟨vs, ev, r2⟩⟩ := rh1.dic ea eh
                · exact .base (.dK ev)
                · exact .base (.dT ev)
              · cases et
            · cases et
              obtain ⟨a, vs, rfl, ⟨o, _, h1⟩ | ⟨o, its, n, h1, h2, _⟩, _⟩ := r1.wtE
              · exact .fTuple h1
              · exact .kTuple h1 h2
          exact ⟨v, .ty T, .type t, .type T, b, rfl, .ty T, ty, kit_ty eb, q _ H1 μ1 x1 rh1 Rp.bl⟩
        · cases e
      · cases e
    · cases e
def isL : D → Hd → Bool
  | .ref n, hp => match hp[n]? with
    | some (.lst _) => true
    | _ => false
  | _, _ => false
theorem isL_some {d : D} {hp : Hd} (h : isL d hp = true) : ∃ n xs, d = .ref n ∧ hp[n]? = some (.lst xs) := by
  unfold isL at h
  split at h
  · rename_i n
    split at h
    · rename_i xs e
      exact ⟨n, _, rfl, e⟩
    · cases h
  · cases h
def mMet (ck : D → Hd → Bool) (fo : AE) (fr : AA) (g : D → List D → Hd → Option (D × Hd)) : AE := fun ls hp => match fo ls hp with
  | some (x, hp1) => if ck x hp1 = true then match fr ls hp1 with
    | some (ds, hp2) => g x ds hp2
    | none => none else none
  | none => none
def RM (K : PySem.W.Frag) (g : D → List D → Hd → Option (D × Hd)) : V → List V → Hp → VK → Prop := fun x xs H Q => ∃ hp μ dx ds d hp', RelH K H μ hp ∧ Rp K H μ dx x ∧ Rps K H μ ds xs ∧ g dx ds hp = some (d, hp') ∧
  ∀ v H' μ', Ext μ H μ' H' → RelH K H' μ' hp' → Rp K H' μ' d v → Q v H'
theorem isL_ty {K : PySem.W.Frag} {H : Hp} {μ : List Addr} {hp : Hd} {d : D} {v : V} (rh : RelH K H μ hp) (r : Rp K H μ d v) (h : isL d hp = true) : tyV K "list" v H := by
  obtain ⟨n, xs, rfl, e⟩ := isL_some h
  obtain ⟨a, ea, rfl⟩ := r.refE
  obtain ⟨vs, ev, _⟩ := rh.lst ea e
  exact .inl ⟨rfl, vs, .inl (.inl ev)⟩
theorem de_lm {name : Str} {id : String} {o : Expr} {fo : AE} {apos cpos : Pos} {g : D → List D → Hd → Option (D × Hd)} (slot : Slot "list" name id) (hty : typeOf (.builtin id) = pure (.type "method_descriptor")) (hm : MtR X id (RM X.K g)) (ho : DE X o fo) (ha : DA X (e :: es) fr)
    (hbase : attributeBase o name X.env (eval o X.env) = eval o X.env := by rfl)
    (hfew : ((backTo cpos (starEach (e :: es) X.env)).all (fun x => !x.1) && (backToKw cpos (keywordEach [] X.env)).all (fun x => x.1.isSome)
      && decide ((e :: es).length + ([] : List Keyword).length + (if ([] : List Keyword).isEmpty then 0 else 1) < 30)) = true := by rfl)
    (hline : (apos.endLine == cpos.line) = true := by rfl) (hs : starEach (e :: es) X.env = (false, eval e X.env) :: starEach es X.env := by rfl) (hplain : (backTo cpos (starEach es X.env)).any (·.1) = false := by rfl) :
    DE X (.Call (.Attribute o name apos) (e :: es) [] cpos) (mMet isL fo fr g) :=
  PE.imp (pe_bm PySem.F.plainAttrs_list slot hty hm ho ha hbase hfew hline hs hplain) fun σ H Q ⟨ls, hp, μ, d, hp', rl, rh, e, q⟩ => by
    unfold mMet at e
    split at e
    · rename_i x hp1 e1
      split at e
      · rename_i hck
        split at e
        · rename_i ds hp2 e2
          exact ⟨ls, hp, μ, x, hp1, rl, rh, e1, fun v1 H1 μ1 x1 rh1 r1 => ⟨isL_ty rh1 r1 hck, ls, hp1, μ1, ds, hp2, rl.ext x1, rh1, e2, fun vs H2 μ2 x2 rh2 r2 =>
            ⟨hp2, μ2, x, ds, d, hp', rh2, r1.ext x2, r2, e, fun v H3 μ3 x3 rh3 r3 => q v H3 μ3 ((x1.trans x2).trans x3) rh3 r3⟩⟩⟩
        · cases e
      · cases e
    · cases e
theorem de_lm0 {name : Str} {id : String} {o : Expr} {fo : AE} {apos cpos : Pos} {g : D → List D → Hd → Option (D × Hd)} (slot : Slot "list" name id) (hty : typeOf (.builtin id) = pure (.type "method_descriptor")) (hm : MtR X id (RM X.K g)) (ho : DE X o fo)
    (hbase : attributeBase o name X.env (eval o X.env) = eval o X.env := by rfl) (hline : (apos.endLine == cpos.line) = true := by rfl) : DE X (.Call (.Attribute o name apos) [] [] cpos) (mMet isL fo mNil g) :=
  PE.imp (pe_bm0 PySem.F.plainAttrs_list slot hty hm ho hbase hline) fun σ H Q ⟨ls, hp, μ, d, hp', rl, rh, e, q⟩ => by
    simp only [mMet, mNil] at e
    split at e
    · rename_i x hp1 e1
      split at e
      · rename_i hck
        exact ⟨ls, hp, μ, x, hp1, rl, rh, e1, fun v1 H1 μ1 x1 rh1 r1 => ⟨isL_ty rh1 r1 hck, ⟨hp1, μ1, x, [], d, hp', rh1, r1, Rps.nil, e, fun v H3 μ3 x3 rh3 r3 => q v H3 μ3 (x1.trans x3) rh3 r3⟩⟩⟩
      · cases e
    · cases e
def onL (x : D) (hp : Hd) (g : List D → Option (D × List D)) : Option (D × Hd) := match x with
  | .ref n => match hp[n]? with
    | some (.lst xs) => match g xs with
      | some (d, ys) => some (d, hp.set n (.lst ys))
      | none => none
    | _ => none
  | _ => none
theorem onL_some {x : D} {hp hp' : Hd} {g : List D → Option (D × List D)} {d : D} (h : onL x hp g = some (d, hp')) : ∃ n xs ys, x = .ref n ∧ hp[n]? = some (.lst xs) ∧ g xs = some (d, ys) ∧ hp' = hp.set n (.lst ys) := by
  unfold onL at h
  split at h
  · rename_i n
    split at h
    · rename_i xs e1
      split at h
      · rename_i d' ys e2
        cases h
        exact ⟨n, xs, ys, rfl, e1, e2, rfl⟩
      · cases h
    · cases h
  · cases h
def gAppend (x : D) (ds : List D) (hp : Hd) : Option (D × Hd) := match ds with
  | [d] => onL x hp fun xs => if xs.length < sizeLine then some (.non, xs ++ [d]) else none
  | _ => none
theorem t_append : MtR X "list.append" (RM X.K gAppend) := fun pins s σ H x xs v us Q I rx rxs ⟨hp, μ, dx, ds, d, hp', rh, r1, rs, e, q⟩ => by
  unfold gAppend at e
  split at e
  · rename_i y
    obtain ⟨n, ws, ys, rfl, e1, e2, rfl⟩ := onL_some e
    split at e2
    · rename_i hl
      cases e2
      obtain ⟨w, rfl, r2⟩ := rs.one
      obtain ⟨a, ea, rfl⟩ := r1.refE
      obtain ⟨vs, ev, r3⟩ := rh.lst ea e1
      have x0 : Mon μ H μ (upd H a (.lst (vs ++ [w]))) := Mon.loose ev
      obtain ⟨r4, x1⟩ := rh.put (o := .lst (ws ++ [y])) (u := .lst (vs ++ [w])) ea ⟨_, rfl, (r3.append (by rw [Rps]; exact ⟨w, [], rfl, r2, Rps.nil⟩)).mon x0⟩
      exact mt_append pins s σ H _ _ v us Q I rx rxs ⟨a, vs, w, rfl, rfl, ev, by rw [r3.len]; exact hl, q _ _ μ x1 r4 Rp.non⟩
    · cases e2
  · cases e
def gPop (x : D) (ds : List D) (hp : Hd) : Option (D × Hd) := match ds with
  | [] => onL x hp fun xs => match xs[xs.length - 1]? with
    | some y => some (y, xs.dropLast)
    | none => none
  | _ => none
theorem Rps.take {K : PySem.W.Frag} {H : Hp} {μ : List Addr} : ∀ {ds : List D} {vs : List V} (n : Nat), Rps K H μ ds vs → Rps K H μ (ds.take n) (vs.take n)
  | _, _, 0, _ => by simp [Rps.nil]
  | [], _, n + 1, h => by
    rw [Rps] at h
    subst h
    exact Rps.nil
  | d :: ds, _, n + 1, h => by
    rw [Rps] at h
    obtain ⟨v, r, rfl, h1, h2⟩ := h
    rw [List.take_succ_cons, List.take_succ_cons, Rps]
    exact ⟨v, _, rfl, h1, Rps.take n h2⟩
theorem Rps.drop {K : PySem.W.Frag} {H : Hp} {μ : List Addr} : ∀ {ds : List D} {vs : List V} (n : Nat), Rps K H μ ds vs → Rps K H μ (ds.drop n) (vs.drop n)
  | _, _, 0, h => by simpa using h
  | [], _, n + 1, h => by
    rw [Rps] at h
    subst h
    exact Rps.nil
  | d :: ds, _, n + 1, h => by
    rw [Rps] at h
    obtain ⟨v, r, rfl, h1, h2⟩ := h
    exact Rps.drop n h2
theorem Rps.dropLast {K : PySem.W.Frag} {H : Hp} {μ : List Addr} {ds : List D} {vs : List V} (h : Rps K H μ ds vs) : Rps K H μ ds.dropLast vs.dropLast := by
  rw [List.dropLast_eq_take, List.dropLast_eq_take, h.len]
  exact h.take _
theorem t_pop : MtR X "list.pop" (RM X.K gPop) := fun pins s σ H x xs v us Q I rx rxs ⟨hp, μ, dx, ds, d, hp', rh, r1, rs, e, q⟩ => by
  unfold gPop at e
  split at e
  · obtain ⟨n, ws, ys, rfl, e1, e2, rfl⟩ := onL_some e
    split at e2
    · rename_i y ey
      cases e2
      rw [Rps] at rs
      subst rs
      obtain ⟨a, ea, rfl⟩ := r1.refE
      obtain ⟨vs, ev, r3⟩ := rh.lst ea e1
      obtain ⟨w, ew, rw'⟩ := r3.get ey
      have x0 : Mon μ H μ (upd H a (.lst vs.dropLast)) := Mon.loose ev
      obtain ⟨r4, x1⟩ := rh.put (o := .lst ws.dropLast) (u := .lst vs.dropLast) ea ⟨_, rfl, r3.dropLast.mon x0⟩
      exact mt_pop pins s σ H _ _ v us Q I rx rxs ⟨a, vs, w, rfl, rfl, ev, by rw [r3.len]; exact ew, q _ _ μ x1 r4 (rw'.mon x0)⟩
    · cases e2
  · cases e
def mExt (fo : AE) (fl : AA) : AE := fun ls hp => match fo ls hp with
  | some (x, hp1) => if isL x hp1 = true then match fl ls hp1 with
    | some (ds, hp2) => onL x hp2 fun xs => if xs.length + ds.length ≤ sizeLine then some (.non, xs ++ ds) else none
    | none => none else none
  | none => none
theorem de_extend {o : Expr} {fo : AE} {apos cpos : Pos} (ho : DE X o fo) (ha : LE X e fl)
    (hbase : attributeBase o "extend" X.env (eval o X.env) = eval o X.env := by rfl)
    (hfew : ((backTo cpos (starEach [e] X.env)).all (fun x => !x.1) && (backToKw cpos (keywordEach [] X.env)).all (fun x => x.1.isSome)
      && decide (([e] : List Expr).length + ([] : List Keyword).length + (if ([] : List Keyword).isEmpty then 0 else 1) < 30)) = true := by rfl)
    (hline : (apos.endLine == cpos.line) = true := by rfl) (hs : starEach [e] X.env = (false, eval e X.env) :: starEach [] X.env := by rfl) :
    DE X (.Call (.Attribute o "extend" apos) [e] [] cpos) (mExt fo fl) :=
  PE.imp (pe_bm PySem.F.plainAttrs_list PySem.F.slot_list_extend PySem.F.type_list_extend mt_extend ho (pa_cons ha pa_nil hs) hbase hfew hline hs rfl) fun σ H Q ⟨ls, hp, μ, d, hp', rl, rh, e, q⟩ => by
    unfold mExt at e
    split at e
    · rename_i x hp1 e1
      split at e
      · rename_i hck
        split at e
        · rename_i ds hp2 e2
          obtain ⟨n, ws, ys, rfl, e3, e4, rfl⟩ := onL_some e
          split at e4
          · rename_i hl
            cases e4
            refine ⟨ls, hp, μ, _, hp1, rl, rh, e1, fun v1 H1 μ1 x1 rh1 r1 => ⟨isL_ty rh1 r1 hck, ls, hp1, μ1, ds, hp2, rl.ext x1, rh1, e2, fun p vs H2 μ2 x2 rh2 h0 hn hl2 r2 => ?_⟩⟩
            obtain ⟨a, ea, rfl⟩ := (r1.ext x2).refE
            obtain ⟨vs2, ev, r3⟩ := rh2.lst ea e3
            have x0 : Mon μ2 H2 μ2 (upd H2 a (.lst (vs2 ++ vs))) := Mon.loose ev
            obtain ⟨r4, x4⟩ := rh2.put (o := .lst (ws ++ ds)) (u := .lst (vs2 ++ vs)) ea ⟨_, rfl, (r3.append r2).mon x0⟩
            exact ⟨a, p, vs2, vs, rfl, rfl, ev, hl2, by rw [r3.len, r2.len]; exact hl, q _ _ μ2 ((x1.trans x2).trans x4) r4 Rp.non⟩
          · cases e4
        · cases e
      · cases e
    · cases e
end
end Ve
namespace Ve
open PySem PySem.Spec L2
mutual
def D.lt (n : Nat) : D → Bool
  | .ref k => decide (k < n)
  | .tup ds => D.lts n ds
  | .wt ds => D.lts n ds
  | _ => true
def D.lts (n : Nat) : List D → Bool
  | [] => true
  | d :: ds => D.lt n d && D.lts n ds
end
mutual
def D.ren (ρ : List Nat) : D → D
  | .ref k => .ref (ρ.getD k 0)
  | .tup ds => .tup (D.rens ρ ds)
  | .wt ds => .wt (D.rens ρ ds)
  | .non => .non
  | .bl b => .bl b
  | .int i => .int i
  | .str x => .str x
  | .scr ns => .scr ns
def D.rens (ρ : List Nat) : List D → List D
  | [] => []
  | d :: ds => D.ren ρ d :: D.rens ρ ds
end
def kvLt (n : Nat) : List (D × D) → Bool
  | [] => true
  | p :: r => D.lt n p.1 && D.lt n p.2 && kvLt n r
def kvRen (ρ : List Nat) : List (D × D) → List (D × D)
  | [] => []
  | p :: r => (p.1, D.ren ρ p.2) :: kvRen ρ r
def O.lt (n : Nat) : O → Bool
  | .lst xs => D.lts n xs
  | .dic kvs => kvLt n kvs
  | .dicL kvs => kvLt n kvs
  | .dicN ks => D.lts n ks
  | .dicM ks => D.lts n ks
  | .ins _ kvs => kvLt n kvs
  | .exc _ => true
  | .tab _ => true
def O.ren (ρ : List Nat) : O → O
  | .lst xs => .lst (D.rens ρ xs)
  | .dic kvs => .dic (kvRen ρ kvs)
  | .dicL kvs => .dicL (kvRen ρ kvs)
  | .dicN ks => .dicN ks
  | .dicM ks => .dicM ks
  | .ins c kvs => .ins c (kvRen ρ kvs)
  | .exc c => .exc c
  | .tab c => .tab c
def Sub (n : Nat) (d : D) (hp' : Hd) (r : Option (D × Hd)) : Prop :=
  ∃ d2 hp2, r = some (d2, hp2) ∧ ∃ ρ : List Nat, ρ.length = hp'.length ∧ ρ.Nodup ∧ n ≤ hp'.length ∧ (∀ i, i < n → ρ[i]? = some i) ∧ D.lt hp'.length d = true ∧ d2 = D.ren ρ d ∧
    ∀ (i : Nat) (o : O), hp'[i]? = some o → O.lt hp'.length o = true ∧ ∃ j : Nat, ρ[i]? = some j ∧ hp2[j]? = some (O.ren ρ o)
def Con (c m : List D → Hd → Option (D × Hd)) : Prop := ∀ ds hp d hp', (∀ (i : Nat) (o : O), hp[i]? = some o → O.lt hp.length o = true) → D.lts hp.length ds = true → c ds hp = some (d, hp') → Sub hp.length d hp' (m ds hp)
section
variable {K : PySem.W.Frag} {H : Hp} {μ μ2 : List Addr} {hp hp2 : Hd}
mutual
theorem Rp.below {n : Nat} (hn : μ.length = n) : ∀ {d : D} {v : V}, Rp K H μ d v → D.lt n d = true
  | .non, _, _ => rfl
  | .bl _, _, _ => rfl
  | .int _, _, _ => rfl
  | .str _, _, _ => rfl
  | .scr _, _, _ => rfl
  | .ref k, _, h => by
    obtain ⟨a, e, _⟩ := h.refE
    have := (List.getElem?_eq_some_iff.mp e).1
    simp only [D.lt, decide_eq_true_eq]
    omega
  | .tup ds, _, h => by
    obtain ⟨a, vs, _, _, r⟩ := h.tupE
    rw [D.lt]
    exact Rps.below hn r
  | .wt ds, _, h => by
    obtain ⟨a, vs, _, _, r⟩ := h.wtE
    rw [D.lt]
    exact Rps.below hn r
theorem Rps.below {n : Nat} (hn : μ.length = n) : ∀ {ds : List D} {vs : List V}, Rps K H μ ds vs → D.lts n ds = true
  | [], _, _ => by rw [D.lts]
  | d :: ds, _, h => by
    rw [Rps] at h
    obtain ⟨v, r, _, h1, h2⟩ := h
    rw [D.lts, Rp.below hn h1, Rps.below hn h2]
    rfl
end
theorem toKey_lt {n : Nat} {d : D} {k : Key} (h : toKey d = some k) : D.lt n d = true := by
  cases d <;> simp [toKey] at h <;> rfl
theorem toKeys_lt {n : Nat} : ∀ {ds : List D} {k : List Key}, toKeys ds = some k → D.lts n ds = true
  | [], _, _ => by rw [D.lts]
  | d :: ds, k, h => by
    simp only [toKeys] at h
    split at h
    · rename_i k1 ks e1 e2
      rw [D.lts, toKey_lt e1, toKeys_lt e2]
      rfl
    · cases h
theorem RpK.below {n : Nat} (hn : μ.length = n) : ∀ {kvs : List (D × D)} {vs : List (Key × V)}, RpK K H μ kvs vs → kvLt n kvs = true
  | [], _, _ => rfl
  | p :: r, _, h => by
    rw [RpK] at h
    obtain ⟨k, v, rs, _, h1, h2, h3⟩ := h
    simp only [kvLt, toKey_lt h1, Rp.below hn h2, RpK.below hn h3, Bool.and_self]
theorem RpT.below {n : Nat} (hn : μ.length = n) : ∀ {kvs : List (D × D)} {vs : List (List Key × V)}, RpT K H μ kvs vs → kvLt n kvs = true
  | [], _, _ => rfl
  | p :: r, _, h => by
    rw [RpT] at h
    obtain ⟨ds, k, v, rs, e0, _, h1, h2, h3⟩ := h
    simp only [kvLt, e0, D.lt, toKeys_lt h1, Rp.below hn h2, RpT.below hn h3, Bool.and_self]
mutual
theorem toNK_lt {n : Nat} : ∀ {d : D} {k : NestedKey}, toNK d = some k → D.lt n d = true
  | .int _, _, _ => rfl
  | .tup ds, k, h => by
    rw [toNK] at h
    cases e : toNKs ds with
    | none => rw [e] at h; cases h
    | some ks =>
      rw [D.lt]
      exact toNKs_lt e
  | .non, _, h => by simp [toNK] at h
  | .bl _, _, h => by simp [toNK] at h
  | .str _, _, h => by simp [toNK] at h
  | .ref _, _, h => by simp [toNK] at h
  | .scr _, _, h => by simp [toNK] at h
  | .wt _, _, h => by simp [toNK] at h
theorem toNKs_lt {n : Nat} : ∀ {ds : List D} {ks : List NestedKey}, toNKs ds = some ks → D.lts n ds = true
  | [], _, _ => rfl
  | d :: ds, k, h => by
    rw [toNKs] at h
    cases e : toNK d with
    | none => rw [e] at h; cases h
    | some k1 =>
      cases e2 : toNKs ds with
      | none => rw [e, e2] at h; cases h
      | some ks =>
        rw [D.lts, toNK_lt e, toNKs_lt e2]
        rfl
end
theorem RpN.below {n : Nat} : ∀ {ds : List D} {as : List (NestedKey × Addr)}, RpN K H μ ds as → D.lts n ds = true
  | [], _, _ => rfl
  | d :: ds, _, h => by
    rw [RpN] at h
    obtain ⟨k, a, r, e, h1, h2, h3, h4⟩ := h
    rw [D.lts, toNK_lt h1, RpN.below h4]
    rfl
theorem RelH.below (r : RelH K H μ hp) (i : Nat) (o : O) (h : hp[i]? = some o) : O.lt hp.length o = true := by
  obtain ⟨a, ea, q⟩ := r.at_ h
  cases o with
  | lst xs => obtain ⟨vs, _, q⟩ := q; exact q.below r.len
  | dic kvs =>
    obtain ⟨_, ⟨vs, _, q⟩ | ⟨vs, _, q⟩⟩ := q
    · exact q.below r.len
    · exact q.below r.len
  | dicL kvs =>
    obtain ⟨_, ⟨_, vs, _, q⟩ | ⟨_, vs, _, q⟩⟩ := q
    · exact q.below r.len
    · exact q.below r.len
  | dicN ks => obtain ⟨a, kas, _, q⟩ := q; exact q.below
  | dicM ks => obtain ⟨a, kas, _, _, q⟩ := q; exact q.below
  | ins c kvs => obtain ⟨C, dx, vs, _, _, q⟩ := q; exact q.below r.len
  | exc c => rfl
  | tab c => rfl
def pick (μ2 : List Addr) (ρ : List Nat) : List Addr := ρ.map fun j => μ2.getD j 0
mutual
theorem Rp.pick {ρ : List Nat} (hρ : ∀ j ∈ ρ, j < μ2.length) : ∀ {d : D} {v : V}, D.lt ρ.length d = true → Rp K H μ2 (D.ren ρ d) v → Rp K H (Ve.pick μ2 ρ) d v
  | .non, _, _, h => by rw [D.ren] at h; exact h.nonE ▸ Rp.non
  | .bl _, _, _, h => by rw [D.ren] at h; exact h.blE ▸ Rp.bl
  | .int _, _, _, h => by rw [D.ren] at h; exact h.intE ▸ Rp.int
  | .str _, _, _, h => by rw [D.ren] at h; exact h.strE ▸ Rp.str
  | .scr ns, _, _, h => by
    rw [D.ren] at h
    obtain ⟨a, rfl, s⟩ := h.scrE
    rw [Rp]
    exact ⟨a, rfl, s⟩
  | .ref k, v, hl, h => by
    rw [D.ren] at h
    obtain ⟨a, e, rfl⟩ := h.refE
    have hk : k < ρ.length := by simpa [D.lt] using hl
    rw [Rp]
    refine ⟨a, ?_, rfl⟩
    unfold Ve.pick
    rw [List.getElem?_map, List.getElem?_eq_getElem hk]
    have e2 : ρ.getD k 0 = ρ[k] := by simp [List.getD, hk]
    rw [e2] at e
    show some (μ2.getD ρ[k] 0) = some a
    rw [List.getD, e]
    rfl
  | .tup ds, _, hl, h => by
    rw [D.ren] at h
    obtain ⟨a, vs, rfl, t, r⟩ := h.tupE
    rw [D.lt] at hl
    rw [Rp]
    exact ⟨a, vs, rfl, t, Rps.pick hρ hl r⟩
  | .wt ds, _, hl, h => by
    rw [D.ren] at h
    obtain ⟨a, vs, rfl, t, r⟩ := h.wtE
    rw [D.lt] at hl
    rw [Rp]
    exact ⟨a, vs, rfl, t, Rps.pick hρ hl r⟩
theorem Rps.pick {ρ : List Nat} (hρ : ∀ j ∈ ρ, j < μ2.length) : ∀ {ds : List D} {vs : List V}, D.lts ρ.length ds = true → Rps K H μ2 (D.rens ρ ds) vs → Rps K H (Ve.pick μ2 ρ) ds vs
  | [], _, _, h => by
    rw [D.rens, Rps] at h
    rw [Rps]
    exact h
  | d :: ds, _, hl, h => by
    rw [D.lts, Bool.and_eq_true] at hl
    rw [D.rens, Rps] at h
    obtain ⟨v, r, rfl, h1, h2⟩ := h
    rw [Rps]
    exact ⟨v, r, rfl, Rp.pick hρ hl.1 h1, Rps.pick hρ hl.2 h2⟩
end
theorem RpK.pick {ρ : List Nat} (hρ : ∀ j ∈ ρ, j < μ2.length) : ∀ {ds : List (D × D)} {vs : List (Key × V)}, kvLt ρ.length ds = true → RpK K H μ2 (kvRen ρ ds) vs → RpK K H (Ve.pick μ2 ρ) ds vs
  | [], _, _, h => by
    rw [kvRen, RpK] at h
    rw [RpK]
    exact h
  | d :: ds, _, hl, h => by
    rw [kvLt, Bool.and_eq_true, Bool.and_eq_true] at hl
    rw [kvRen, RpK] at h
    obtain ⟨k, v, r, rfl, h0, h1, h2⟩ := h
    rw [RpK]
    exact ⟨k, v, r, rfl, h0, Rp.pick hρ hl.1.2 h1, RpK.pick hρ hl.2 h2⟩
theorem RpT.pick {ρ : List Nat} (hρ : ∀ j ∈ ρ, j < μ2.length) : ∀ {ds : List (D × D)} {vs : List (List Key × V)}, kvLt ρ.length ds = true → RpT K H μ2 (kvRen ρ ds) vs → RpT K H (Ve.pick μ2 ρ) ds vs
  | [], _, _, h => by
    rw [kvRen, RpT] at h
    rw [RpT]
    exact h
  | d :: ds, _, hl, h => by
    rw [kvLt, Bool.and_eq_true, Bool.and_eq_true] at hl
    rw [kvRen, RpT] at h
    obtain ⟨ks, k, v, r, e0, rfl, h0, h1, h2⟩ := h
    rw [RpT]
    exact ⟨ks, k, v, r, e0, rfl, h0, Rp.pick hρ hl.1.2 h1, RpT.pick hρ hl.2 h2⟩
theorem KNd.ren {ρ : List Nat} : ∀ {kvs : List (D × D)}, KNd (kvRen ρ kvs) → KNd kvs
  | [], _ => True.intro
  | p :: r, h => by
    refine ⟨fun q hq => ?_, KNd.ren h.2⟩
    have hm : ∀ {l : List (D × D)}, q ∈ l → (q.1, D.ren ρ q.2) ∈ kvRen ρ l := by
      intro l
      induction l with
      | nil => intro h; cases h
      | cons x xs ih =>
        intro h
        rcases List.mem_cons.mp h with z | z
        · rw [z]; exact List.mem_cons_self
        · exact List.mem_cons_of_mem _ (ih z)
    exact h.1 (q.1, D.ren ρ q.2) (hm hq)
mutual
theorem Rp.keyAny {μ3 : List Addr} : ∀ {d : D} {k : NestedKey} {v : V}, toNK d = some k → Rp K H μ2 d v → Rp K H μ3 d v
  | .int _, _, _, _, h => h.intE ▸ Rp.int
  | .tup ds, k, v, e, h => by
    rw [toNK] at e
    cases e2 : toNKs ds with
    | none => rw [e2] at e; cases e
    | some ks =>
      rw [Rp] at *
      obtain ⟨a, vs, h1, h2, h3⟩ := h
      exact ⟨a, vs, h1, h2, Rps.keyAny e2 h3⟩
  | .non, _, _, h, _ => by simp [toNK] at h
  | .bl _, _, _, h, _ => by simp [toNK] at h
  | .str _, _, _, h, _ => by simp [toNK] at h
  | .ref _, _, _, h, _ => by simp [toNK] at h
  | .scr _, _, _, h, _ => by simp [toNK] at h
  | .wt _, _, _, h, _ => by simp [toNK] at h
theorem Rps.keyAny {μ3 : List Addr} : ∀ {ds : List D} {ks : List NestedKey} {vs : List V}, toNKs ds = some ks → Rps K H μ2 ds vs → Rps K H μ3 ds vs
  | [], _, _, _, h => by rw [Rps] at *; exact h
  | d :: ds, k, vs, e, h => by
    rw [toNKs] at e
    cases e1 : toNK d with
    | none => rw [e1] at e; cases e
    | some k1 =>
      cases e2 : toNKs ds with
      | none => rw [e1, e2] at e; cases e
      | some ks =>
        rw [Rps] at *
        obtain ⟨v, r, h1, h2, h3⟩ := h
        exact ⟨v, r, h1, Rp.keyAny e1 h2, Rps.keyAny e2 h3⟩
end
theorem RpN.any {μ3 : List Addr} : ∀ {ds : List D} {as : List (NestedKey × Addr)}, RpN K H μ2 ds as → RpN K H μ3 ds as
  | [], _, h => by rw [RpN] at *; exact h
  | d :: ds, _, h => by
    rw [RpN] at *
    obtain ⟨k, a, r, e, h1, h2, h3, h4⟩ := h
    exact ⟨k, a, r, e, h1, h2, h3.keyAny h1, RpN.any h4⟩
theorem Ro.pick {ρ : List Nat} (hρ : ∀ j ∈ ρ, j < μ2.length) {o : O} {h : Option HO} (hl : O.lt ρ.length o = true) (r : Ro K H μ2 (O.ren ρ o) h) : Ro K H (Ve.pick μ2 ρ) o h := by
  cases o with
  | lst xs => obtain ⟨vs, e, q⟩ := r; exact ⟨vs, e, q.pick hρ hl⟩
  | dic kvs =>
    obtain ⟨nd, ⟨vs, e, q⟩ | ⟨vs, e, q⟩⟩ := r
    · exact ⟨KNd.ren nd, .inl ⟨vs, e, q.pick hρ hl⟩⟩
    · exact ⟨KNd.ren nd, .inr ⟨vs, e, q.pick hρ hl⟩⟩
  | dicL kvs =>
    obtain ⟨nd, ⟨o, vs, e, q⟩ | ⟨o, vs, e, q⟩⟩ := r
    · exact ⟨KNd.ren nd, .inl ⟨o, vs, e, q.pick hρ hl⟩⟩
    · exact ⟨KNd.ren nd, .inr ⟨o, vs, e, q.pick hρ hl⟩⟩
  | dicN ks => obtain ⟨a, kas, e, q⟩ := r; exact ⟨a, kas, e, q.any⟩
  | dicM ks => obtain ⟨a, kas, od, e, q⟩ := r; exact ⟨a, kas, od, e, q.any⟩
  | ins c kvs => obtain ⟨C, dx, vs, e, hc, q⟩ := r; exact ⟨C, dx, vs, e, hc, q.pick hρ hl⟩
  | exc c => exact r
  | tab c => exact r
theorem sub_sound {H' : Hp} {d : D} {hp' : Hd} {r : Option (D × Hd)} (rh : RelH K H μ hp) (s : Sub hp.length d hp' r) : ∃ d2 hp2, r = some (d2, hp2) ∧ ∀ v H' μ2, Ext μ H μ2 H' → RelH K H' μ2 hp2 → Rp K H' μ2 d2 v →
    ∃ μ', Ext μ H μ' H' ∧ RelH K H' μ' hp' ∧ Rp K H' μ' d v := by
  obtain ⟨d2, hp2, rfl, ρ, hl, nd, hn, hid, hd, rfl, ho⟩ := s
  refine ⟨_, hp2, rfl, fun v H' μ2 x rh2 rv => ?_⟩
  have hρ : ∀ j ∈ ρ, j < μ2.length := fun j hj => by
    obtain ⟨i, hi, e⟩ := List.mem_iff_getElem.mp hj
    have hi' : i < hp'.length := by rw [← hl]; exact hi
    obtain ⟨_, j2, e2, e3⟩ := ho i hp'[i] (List.getElem?_eq_getElem hi')
    rw [List.getElem?_eq_getElem hi, e] at e2
    cases e2
    rw [rh2.len]
    exact (List.getElem?_eq_some_iff.mp e3).1
  have hpk : ∀ (i : Nat) j, ρ[i]? = some j → (pick μ2 ρ)[i]? = μ2[j]? := fun i j e => by
    unfold pick
    rw [List.getElem?_map, e]
    have hj : j < μ2.length := hρ j (List.mem_of_getElem? e)
    show some (μ2.getD j 0) = _
    rw [List.getElem?_eq_getElem hj]
    simp [List.getD, hj]
  have sub : ∀ a ∈ pick μ2 ρ, a ∈ μ2 := fun a ha => by
    obtain ⟨j, hj, e⟩ := List.mem_map.mp ha
    have := hρ j hj
    rw [← e]
    simp [List.getD, this]
  have rl : RelH K H' (pick μ2 ρ) hp' := by
    refine ⟨by simp [pick, hl], ?_, fun i o a e1 e2 => ?_, fun i x a e1 e2 => ?_⟩
    · refine List.pairwise_iff_getElem.mpr fun i j hi hj hij => ?_
      have hi' : i < ρ.length := by simpa [pick] using hi
      have hj' : j < ρ.length := by simpa [pick] using hj
      have a1 := hρ _ (List.getElem_mem hi')
      have a2 := hρ _ (List.getElem_mem hj')
      have g1 : (pick μ2 ρ)[i] = μ2[ρ[i]] := by simp [pick, List.getD, a1]
      have g2 : (pick μ2 ρ)[j] = μ2[ρ[j]] := by simp [pick, List.getD, a2]
      rw [g1, g2]
      intro z
      have := (List.getElem_inj rh2.nd).mp z
      have := (List.getElem_inj nd).mp this
      omega
    · obtain ⟨hlt, j, e3, e4⟩ := ho i o e1
      rw [hpk i j e3] at e2
      exact (rh2.obj j _ a e4 e2).pick hρ (by rw [hl]; exact hlt)
    · obtain ⟨hlt, j, e3, e4⟩ := ho i _ e1
      rw [hpk i j e3] at e2
      exact rh2.tabs j x a e4 e2
  refine ⟨pick μ2 ρ, ⟨?_, fun a o hn e hm => x.new a o hn e (sub a hm), x.keep, x.tups, x.scrs⟩, rl, rv.pick hρ (by rw [hl]; exact hd)⟩
  obtain ⟨ν, e⟩ := x.pre
  refine ⟨(pick μ2 ρ).drop μ.length, ?_⟩
  have hlen : μ.length ≤ (pick μ2 ρ).length := by
    rw [rh.len]
    simp [pick, hl]
    exact hn
  have ht : (pick μ2 ρ).take μ.length = μ := by
    refine List.ext_getElem? fun i => ?_
    by_cases hi : i < μ.length
    · rw [List.getElem?_take_of_lt hi, hpk i i (hid i (by rw [← rh.len]; exact hi)), e, List.getElem?_append_left hi]
    · rw [List.getElem?_eq_none (by simp; omega), List.getElem?_eq_none (by omega)]
  rw [← List.take_append_drop μ.length (pick μ2 ρ), ht]
  simp
end
structure Fn (P : Program) (w : World) (K : PySem.W.Frag) (mg : Str → Option Value) (base : Heap) (k : Nat) (x : Str) (n : Nat) (g : List D → Hd → Option (D × Hd)) : Prop where
  ex : ∃ (f : Addr) (fd : FuncData) (ps : List Str), FnG P w K mg base CX0 k f fd ps (spD K n g) ∧ mg x = some (.ref f) ∧ PySem.W.keepIn K (.ref f) = true ∧ Binds K fd ps []
section
variable {P : Program} {w : World} {K : PySem.W.Frag} {mg : Str → Option Value} {base : Heap} {k j n : Nat} {x : Str} {g c : List D → Hd → Option (D × Hd)}
theorem Fn.mono (F : Fn P w K mg base j x n g) (h : j ≤ k) : Fn P w K mg base k x n g := by
  obtain ⟨f, fd, ps, F, a, b, c⟩ := F.ex
  exact ⟨f, fd, ps, F.mono h, a, b, c⟩
theorem Fn.con (F : Fn P w K mg base k x n g) (h : Con c g) : Fn P w K mg base k x n c := by
  obtain ⟨f, fd, ps, F, a, b, e⟩ := F.ex
  refine ⟨f, fd, ps, F.imp fun vs H Q E q => ?_, a, b, e⟩
  obtain ⟨hp, μ, ds, d, hp', hn, rh, r, ec, q⟩ := q
  obtain ⟨d2, hp2, e2, s⟩ := sub_sound (H' := H) rh (h ds hp d hp' (fun i o => rh.below i o) (r.below rh.len) ec)
  exact ⟨hp, μ, ds, d2, hp2, hn, rh, r, e2, fun v H' μ2 x rh2 rv => by
    obtain ⟨μ', x', rh', rv'⟩ := s v H' μ2 x rh2 rv
    exact q v H' μ' x' rh' rv'⟩
theorem fn_mk {qual : Str} {st : Stmt} {f : Addr} {fd : FuncData} {N ps : List Str} {fb : AS} (F : Fun K x qual st f fd) (S : FnScope N ps (defScope st)) (hm : mg x = some (.ref f)) (hb : Binds K fd ps [])
    (body : ∀ (cdv : Value) (A : Around) (outer : List Env) (s : Shared) (H : Hp) (E : XK), RoomG k (A.deeper (PyProof.Rows.envOfC qual (defScope st) s.heap.objs.size f cdv)) →
      DSs (cxOf CX0 P w K mg base N qual (defScope st) f cdv A outer s H E).nox (defBody st) fb) : Fn P w K mg base (k + 1) x ps.length (mDef N.length fb) :=
  ⟨f, fd, ps, fn_def F S body, hm, F.kp, hb⟩
end
section
variable {X : Cx} {e : Expr} {es : List Expr} {fr : AA} {pos : Pos}
theorem de_callF {k : Nat} {n : Nat} {g : List D → Hd → Option (D × Hd)} {x : Str} {p : Pos} (F : Fn X.prog X.w X.K X.mg X.base k x n g) (hr : RoomG k X.A) (hg : Gl X x) (ha : DA X (e :: es) fr)
    (hdb : (x == ("__debug__" : Str)) = false := by decide) (he : starEach (e :: es) X.env = (false, eval e X.env) :: starEach es X.env := by rfl) (hpl : (backTo pos (starEach es X.env)).any (·.1) = false := by rfl) :
    DE X (.Call (.Name x p) (e :: es) [] pos) (mAs fr (ar n g)) := by
  obtain ⟨f, fd, ps, F, a, b, c⟩ := F.ex
  exact de_call F hr hg a b c ha hdb he hpl
theorem de_callF0 {k : Nat} {n : Nat} {g : List D → Hd → Option (D × Hd)} {x : Str} {p : Pos} (F : Fn X.prog X.w X.K X.mg X.base k x n g) (hr : RoomG k X.A) (hg : Gl X x) (hdb : (x == ("__debug__" : Str)) = false := by decide) :
    DE X (.Call (.Name x p) [] [] pos) (mAs mNil (ar n g)) := by
  obtain ⟨f, fd, ps, F, a, b, c⟩ := F.ex
  exact de_call0 F hr hg a b c hdb
end
end Ve
theorem L2.Room.units65 {k : Nat} {A : PySem.Around} (r : L2.Room k A) : A.units + 65 < PySem.cLine := by
  have := r.un
  omega
namespace Ve
open PySem PySem.Spec L2
theorem bb_len : bootBuiltins "len" = some (.builtin "len") := by decide +kernel
theorem bb_max : bootBuiltins "max" = some (.builtin "max") := by decide +kernel
theorem bb_min : bootBuiltins "min" = some (.builtin "min") := by decide +kernel
theorem bb_all : bootBuiltins "all" = some (.builtin "all") := by decide +kernel
theorem bb_sorted : bootBuiltins "sorted" = some (.builtin "sorted") := by decide +kernel
theorem bb_isinstance : bootBuiltins "isinstance" = some (.builtin "isinstance") := by decide +kernel
theorem bb_int : bootBuiltins "int" = some (.type "int") := by decide +kernel
theorem bb_bool : bootBuiltins "bool" = some (.type "bool") := by decide +kernel
theorem bb_tuple : bootBuiltins "tuple" = some (.type "tuple") := by decide +kernel
theorem bb_dict : bootBuiltins "dict" = some (.type "dict") := by decide +kernel
section
variable {X : Cx} {a b c : Expr} {fa fb fc : AE} {fl : AA} {pos : Pos}
theorem dt_chain {op op' : CmpOp} {g g' : D → D → Hd → Option (D × Hd)} (ho : OpR X (compareOp op) (RD X.K g)) (ho' : OpR X (compareOp op') (RD X.K g')) (ha : DE X a fa) (hb : DE X b fb) (hc : DE X c fc)
    (hm : lastMarks [op, op'] [b, c] = false := by with_unfolding_all rfl) : DT X (.Compare a [op, op'] [b, c] pos) (mT (mChain fa fb fc g g')) :=
  PT.imp (pt_chain ho ho' ha hb hc hm) fun _ _ _ h => tTest_of (fun _ _ _ h => tChain_of h) h
end
theorem scAt_of {K : PySem.W.Frag} {H : Hp} {a : Addr} {xs : List V} (ho : Only H) (h : SqL K H a xs) : ScAt K H a xs := by
  rcases h with (h | ⟨o, h⟩) | h
  · rcases ho a with z | ⟨o, ys, z⟩
    · rw [h] at z
      cases z
    · rw [h] at z
      cases z
  · exact .inl ⟨o, h⟩
  · exact .inr h
theorem Rps.mk {K : PySem.W.Frag} {H : Hp} {μ : List Addr} {d : D} {ds : List D} {v : V} {vs : List V} (r : Rp K H μ d v) (rs : Rps K H μ ds vs) : Rps K H μ (d :: ds) (v :: vs) := by
  rw [Rps]
  exact ⟨v, vs, rfl, r, rs⟩
theorem Rp.wt {K : PySem.W.Frag} {H : Hp} {μ : List Addr} {ds : List D} {a : Addr} {its : Array Value} {n : Nat} {sl : Array (Option Value)} {vs : List V} (h : K.lookup a = some ⟨.type "tuple", none, .seq its n, sl⟩) (hl : its.size ≤ sizeLine) (hv : Vals vs its.toList)
    (r : Rps K H μ ds vs) : Rp K H μ (.wt ds) (.ref a) := by
  rw [Rp]
  exact ⟨a, vs, rfl, .inr ⟨_, its, n, h, rfl, rfl, rfl, hl, hv⟩, r⟩
end Ve
namespace Ve
open PySem PySem.Spec L2
mutual
def D.all (p : Nat → Bool) : D → Bool
  | .ref k => p k
  | .tup ds => D.alls p ds
  | .wt ds => D.alls p ds
  | .non => true
  | .bl _ => true
  | .int _ => true
  | .str _ => true
  | .scr _ => true
def D.alls (p : Nat → Bool) : List D → Bool
  | [] => true
  | d :: ds => D.all p d && D.alls p ds
end
mutual
def D.map (f : Nat → Nat) : D → D
  | .ref k => .ref (f k)
  | .tup ds => .tup (D.maps f ds)
  | .wt ds => .wt (D.maps f ds)
  | .non => .non
  | .bl b => .bl b
  | .int i => .int i
  | .str x => .str x
  | .scr ns => .scr ns
def D.maps (f : Nat → Nat) : List D → List D
  | [] => []
  | d :: ds => D.map f d :: D.maps f ds
end
def kvAll (p : Nat → Bool) : List (D × D) → Bool
  | [] => true
  | x :: r => D.all p x.1 && D.all p x.2 && kvAll p r
def kvMap (f : Nat → Nat) : List (D × D) → List (D × D)
  | [] => []
  | p :: r => (p.1, D.map f p.2) :: kvMap f r
def O.all (p : Nat → Bool) : O → Bool
  | .lst xs => D.alls p xs
  | .dic kvs => kvAll p kvs
  | .dicL kvs => kvAll p kvs
  | .dicN ks => D.alls p ks
  | .dicM ks => D.alls p ks
  | .ins _ kvs => kvAll p kvs
  | .exc _ => true
  | .tab _ => true
def O.map (f : Nat → Nat) : O → O
  | .lst xs => .lst (D.maps f xs)
  | .dic kvs => .dic (kvMap f kvs)
  | .dicL kvs => .dicL (kvMap f kvs)
  | .dicN ks => .dicN ks
  | .dicM ks => .dicM ks
  | .ins c kvs => .ins c (kvMap f kvs)
  | .exc c => .exc c
  | .tab c => .tab c
section
variable {K : PySem.W.Frag} {H : Hp} {μ μ2 : List Addr}
mutual
theorem Rp.mapped {f : Nat → Nat} {p : Nat → Bool} (hf : ∀ k, p k = true → k < μ2.length → μ[f k]? = μ2[k]?) : ∀ {d : D} {v : V}, D.all p d = true → Rp K H μ2 d v → Rp K H μ (D.map f d) v
  | .non, _, _, h => by rw [D.map]; exact h.nonE ▸ Rp.non
  | .bl _, _, _, h => by rw [D.map]; exact h.blE ▸ Rp.bl
  | .int _, _, _, h => by rw [D.map]; exact h.intE ▸ Rp.int
  | .str _, _, _, h => by rw [D.map]; exact h.strE ▸ Rp.str
  | .scr ns, _, _, h => by
    obtain ⟨a, rfl, s⟩ := h.scrE
    rw [D.map, Rp]
    exact ⟨a, rfl, s⟩
  | .ref k, v, hl, h => by
    obtain ⟨a, e, rfl⟩ := h.refE
    rw [D.all] at hl
    rw [D.map, Rp]
    exact ⟨a, by rw [hf k hl (List.getElem?_eq_some_iff.mp e).1]; exact e, rfl⟩
  | .tup ds, _, hl, h => by
    obtain ⟨a, vs, rfl, t, r⟩ := h.tupE
    rw [D.all] at hl
    rw [D.map, Rp]
    exact ⟨a, vs, rfl, t, Rps.mapped hf hl r⟩
  | .wt ds, _, hl, h => by
    obtain ⟨a, vs, rfl, t, r⟩ := h.wtE
    rw [D.all] at hl
    rw [D.map, Rp]
    exact ⟨a, vs, rfl, t, Rps.mapped hf hl r⟩
theorem Rps.mapped {f : Nat → Nat} {p : Nat → Bool} (hf : ∀ k, p k = true → k < μ2.length → μ[f k]? = μ2[k]?) : ∀ {ds : List D} {vs : List V}, D.alls p ds = true → Rps K H μ2 ds vs → Rps K H μ (D.maps f ds) vs
  | [], _, _, h => by
    rw [Rps] at h
    rw [D.maps, Rps]
    exact h
  | d :: ds, _, hl, h => by
    rw [D.alls, Bool.and_eq_true] at hl
    rw [Rps] at h
    obtain ⟨v, r, rfl, h1, h2⟩ := h
    rw [D.maps, Rps]
    exact ⟨v, r, rfl, Rp.mapped hf hl.1 h1, Rps.mapped hf hl.2 h2⟩
end
theorem RpK.mapped {f : Nat → Nat} {p : Nat → Bool} (hf : ∀ k, p k = true → k < μ2.length → μ[f k]? = μ2[k]?) : ∀ {ds : List (D × D)} {vs : List (Key × V)}, kvAll p ds = true → RpK K H μ2 ds vs → RpK K H μ (kvMap f ds) vs
  | [], _, _, h => by
    rw [RpK] at h
    rw [kvMap, RpK]
    exact h
  | d :: ds, _, hl, h => by
    rw [kvAll, Bool.and_eq_true, Bool.and_eq_true] at hl
    rw [RpK] at h
    obtain ⟨k, v, r, rfl, h0, h1, h2⟩ := h
    rw [kvMap, RpK]
    exact ⟨k, v, r, rfl, h0, Rp.mapped hf hl.1.2 h1, RpK.mapped hf hl.2 h2⟩
theorem RpT.mapped {f : Nat → Nat} {p : Nat → Bool} (hf : ∀ k, p k = true → k < μ2.length → μ[f k]? = μ2[k]?) : ∀ {ds : List (D × D)} {vs : List (List Key × V)}, kvAll p ds = true → RpT K H μ2 ds vs → RpT K H μ (kvMap f ds) vs
  | [], _, _, h => by
    rw [RpT] at h
    rw [kvMap, RpT]
    exact h
  | d :: ds, _, hl, h => by
    rw [kvAll, Bool.and_eq_true, Bool.and_eq_true] at hl
    rw [RpT] at h
    obtain ⟨ks, k, v, r, e0, rfl, h0, h1, h2⟩ := h
    rw [kvMap, RpT]
    exact ⟨ks, k, v, r, e0, rfl, h0, Rp.mapped hf hl.1.2 h1, RpT.mapped hf hl.2 h2⟩
theorem KNd.mapped {f : Nat → Nat} : ∀ {kvs : List (D × D)}, KNd kvs → KNd (kvMap f kvs)
  | [], _ => True.intro
  | p :: r, h => by
    refine ⟨fun q hq => ?_, KNd.mapped h.2⟩
    have hm : ∀ {l : List (D × D)}, q ∈ kvMap f l → ∃ q2 ∈ l, q2.1 = q.1 := by
      intro l
      induction l with
      | nil => intro h; cases h
      | cons x xs ih =>
        intro h
        rcases List.mem_cons.mp h with z | z
        · exact ⟨x, List.mem_cons_self, by rw [z]⟩
        · obtain ⟨q2, h2, e⟩ := ih z
          exact ⟨q2, List.mem_cons_of_mem _ h2, e⟩
    obtain ⟨q2, h2, e⟩ := hm hq
    rw [← e]
    exact h.1 q2 h2
theorem Ro.mapped {f : Nat → Nat} {p : Nat → Bool} (hf : ∀ k, p k = true → k < μ2.length → μ[f k]? = μ2[k]?) {o : O} {h : Option HO} (hl : O.all p o = true) (r : Ro K H μ2 o h) : Ro K H μ (O.map f o) h := by
  cases o with
  | lst xs => obtain ⟨vs, e, q⟩ := r; exact ⟨vs, e, q.mapped hf hl⟩
  | dic kvs =>
    obtain ⟨nd, ⟨vs, e, q⟩ | ⟨vs, e, q⟩⟩ := r
    · exact ⟨nd.mapped, .inl ⟨vs, e, q.mapped hf hl⟩⟩
    · exact ⟨nd.mapped, .inr ⟨vs, e, q.mapped hf hl⟩⟩
  | dicL kvs =>
    obtain ⟨nd, ⟨o, vs, e, q⟩ | ⟨o, vs, e, q⟩⟩ := r
    · exact ⟨nd.mapped, .inl ⟨o, vs, e, q.mapped hf hl⟩⟩
    · exact ⟨nd.mapped, .inr ⟨o, vs, e, q.mapped hf hl⟩⟩
  | dicN ks => obtain ⟨a, kas, e, q⟩ := r; exact ⟨a, kas, e, q.any⟩
  | dicM ks => obtain ⟨a, kas, od, e, q⟩ := r; exact ⟨a, kas, od, e, q.any⟩
  | ins c kvs => obtain ⟨C, dx, vs, e, hc, q⟩ := r; exact ⟨C, dx, vs, e, hc, q.mapped hf hl⟩
  | exc c => exact r
  | tab c => exact r
end
structure Run (m : List D → Hd → Option (D × Hd)) (ds : List D) (hp : Hd) (d : D) (hp' : Hd) (σ κ : List Nat) (dsS : List D) (os : Hd) (d2 : D) (g : Hd) (f : Nat → Nat) (kp : Nat → Bool) : Prop where
  run : m dsS os = some (d2, g)
  nd : σ.Nodup
  lt : ∀ i ∈ σ, i < hp.length
  len : os.length = σ.length
  args : ds = D.rens σ dsS
  argsLt : D.lts σ.length dsS = true
  objs : ∀ (i : Nat) (o : O), os[i]? = some o → O.lt σ.length o = true ∧ hp[σ.getD i 0]? = some (O.ren σ o)
  kNd : κ.Nodup
  kLt : ∀ k ∈ κ, σ.length ≤ k ∧ k < g.length
  fOld : ∀ i, i < σ.length → f i = σ.getD i 0
  fNew : ∀ (t : Nat) (k : Nat), κ[t]? = some k → f k = hp.length + t
  kpIs : ∀ i, kp i = true → i < σ.length ∨ i ∈ κ
  res : D.all kp d2 = true ∧ d = D.map f d2
  len' : hp'.length = hp.length + κ.length
  rest : ∀ j, j < hp.length → j ∉ σ → hp'[j]? = hp[j]?
  old : ∀ i, i < σ.length → ∃ o, g[i]? = some o ∧ O.all kp o = true ∧ hp'[σ.getD i 0]? = some (O.map f o)
  new : ∀ (t : Nat) (k : Nat), κ[t]? = some k → ∃ o, g[k]? = some o ∧ O.all kp o = true ∧ hp'[hp.length + t]? = some (O.map f o)
def Cl (c m : List D → Hd → Option (D × Hd)) : Prop := ∀ ds hp d hp', c ds hp = some (d, hp') → ∃ σ κ dsS os d2 g f kp, Run m ds hp d hp' σ κ dsS os d2 g f kp
section
variable {K : PySem.W.Frag} {H : Hp} {μ : List Addr} {hp hp' : Hd} {m : List D → Hd → Option (D × Hd)} {ds dsS : List D} {d d2 : D} {σ κ : List Nat} {os g : Hd} {f : Nat → Nat} {kp : Nat → Bool}
theorem Run.start (R : Run m ds hp d hp' σ κ dsS os d2 g f kp) (rh : RelH K H μ hp) : RelH K H (pick μ σ) os := by
  have hσ : ∀ j ∈ σ, j < μ.length := fun j hj => by rw [rh.len]; exact R.lt j hj
  have hg : ∀ (i : Nat), i < σ.length → (pick μ σ)[i]? = μ[σ.getD i 0]? := fun i hi => by
    unfold pick
    have h1 : σ.getD i 0 = σ[i] := by simp [List.getD, hi]
    have h2 := hσ _ (List.getElem_mem hi)
    rw [List.getElem?_map, List.getElem?_eq_getElem hi, h1, List.getElem?_eq_getElem h2]
    simp [List.getD, h2]
  refine ⟨by simp [pick, R.len], ?_, fun i o a e1 e2 => ?_, fun i x a e1 e2 => ?_⟩
  · refine List.pairwise_iff_getElem.mpr fun i j hi hj hij => ?_
    have hi' : i < σ.length := by simpa [pick] using hi
    have hj' : j < σ.length := by simpa [pick] using hj
    have a1 := hσ _ (List.getElem_mem hi')
    have a2 := hσ _ (List.getElem_mem hj')
    have g1 : (pick μ σ)[i] = μ[σ[i]] := by simp [pick, List.getD, a1]
    have g2 : (pick μ σ)[j] = μ[σ[j]] := by simp [pick, List.getD, a2]
    rw [g1, g2]
    intro z
    have := (List.getElem_inj rh.nd).mp z
    have := (List.getElem_inj R.nd).mp this
    omega
  · obtain ⟨h1, h2⟩ := R.objs i o e1
    have hi : i < σ.length := by rw [← R.len]; exact (List.getElem?_eq_some_iff.mp e1).1
    rw [hg i hi] at e2
    exact (rh.obj _ _ a h2 e2).pick hσ h1
  · obtain ⟨h1, h2⟩ := R.objs i _ e1
    have hi : i < σ.length := by rw [← R.len]; exact (List.getElem?_eq_some_iff.mp e1).1
    rw [hg i hi] at e2
    exact rh.tabs _ x a h2 e2
theorem Run.sound (R : Run m ds hp d hp' σ κ dsS os d2 g f kp) (rh : RelH K H μ hp) {v : V} {H' : Hp} {μ2 : List Addr} (x : Ext (pick μ σ) H μ2 H') (rh2 : RelH K H' μ2 g) (rv : Rp K H' μ2 d2 v) :
    ∃ μ', Ext μ H μ' H' ∧ RelH K H' μ' hp' ∧ Rp K H' μ' d v := by
  have hσ : ∀ j ∈ σ, j < μ.length := fun j hj => by rw [rh.len]; exact R.lt j hj
  have hpl : (pick μ σ).length = σ.length := by simp [pick]
  have hg : ∀ (i : Nat), i < σ.length → (pick μ σ)[i]? = μ[σ.getD i 0]? := fun i hi => by
    unfold pick
    have h1 : σ.getD i 0 = σ[i] := by simp [List.getD, hi]
    have h2 := hσ _ (List.getElem_mem hi)
    rw [List.getElem?_map, List.getElem?_eq_getElem hi, h1, List.getElem?_eq_getElem h2]
    simp [List.getD, h2]
  have hsub : ∀ a ∈ pick μ σ, a ∈ μ := fun a ha => by
    obtain ⟨j, hj, e⟩ := List.mem_map.mp ha
    have := hσ j hj
    rw [← e]
    simp [List.getD, this]
  have h2i : ∀ (i : Nat), i < σ.length → μ2[i]? = μ[σ.getD i 0]? := fun i hi => by
    rw [← hg i hi]
    obtain ⟨ν, e⟩ := x.pre
    rw [e, List.getElem?_append_left (by rw [hpl]; exact hi)]
  let N := κ.map fun k => μ2.getD k 0
  have hN : ∀ (t k : Nat), κ[t]? = some k → N[t]? = μ2[k]? := fun t k e => by
    show (κ.map fun k => μ2.getD k 0)[t]? = _
    rw [List.getElem?_map, e]
    have hk : k < μ2.length := by rw [rh2.len]; exact (R.kLt k (List.mem_of_getElem? e)).2
    show some (μ2.getD k 0) = _
    rw [List.getElem?_eq_getElem hk]
    simp [List.getD, hk]
  have hnew : ∀ a ∈ N, a ∉ μ ∧ ∃ k ∈ κ, μ2[k]? = some a := fun a ha => by
    obtain ⟨k, hk, e⟩ := List.mem_map.mp ha
    obtain ⟨hk1, hk2⟩ := R.kLt k hk
    have hk2' : k < μ2.length := by rw [rh2.len]; exact hk2
    have e2 : μ2[k]? = some a := by
      rw [← e, List.getElem?_eq_getElem hk2']
      simp [List.getD, hk2']
    refine ⟨fun hm => ?_, k, hk, e2⟩
    by_cases hp1 : a ∈ pick μ σ
    · obtain ⟨i, hi, e3⟩ := List.mem_iff_getElem.mp hp1
      obtain ⟨ν, e4⟩ := x.pre
      have hi2 : i < μ2.length := by rw [e4, List.length_append]; omega
      have e5 : μ2[i]? = some a := by rw [e4, List.getElem?_append_left hi, List.getElem?_eq_getElem hi, e3]
      rw [List.getElem?_eq_getElem hi2] at e5
      rw [List.getElem?_eq_getElem hk2'] at e2
      have := (List.getElem_inj rh2.nd).mp ((Option.some.inj e5).trans (Option.some.inj e2).symm)
      rw [hpl] at hi
      omega
    · obtain ⟨u, eu, _⟩ := rh.taken hm
      exact x.new a u hp1 eu (List.mem_of_getElem? e2)
  have hf : ∀ k, kp k = true → k < μ2.length → (μ ++ N)[f k]? = μ2[k]? := fun k hk hl => by
    rcases R.kpIs k hk with h | h
    · rw [R.fOld k h, List.getElem?_append_left (hσ _ (by simp [List.getD, h])), h2i k h]
    · obtain ⟨t, ht, e⟩ := List.mem_iff_getElem.mp h
      have e' : κ[t]? = some k := by rw [List.getElem?_eq_getElem ht, e]
      rw [R.fNew t k e', List.getElem?_append_right (by rw [rh.len]; omega), rh.len, Nat.add_sub_cancel_left, hN t k e']
  have xx : Ext μ H (μ ++ N) H' := by
    refine ⟨⟨N, rfl⟩, fun a o hn e hm => ?_, fun a o hn e => x.keep a o (fun z => hn (hsub a z)) e, x.tups, x.scrs⟩
    rcases List.mem_append.mp hm with z | z
    · exact hn z
    · obtain ⟨_, k, hk, e2⟩ := hnew a z
      exact x.new a o (fun z => hn (hsub a z)) e (List.mem_of_getElem? e2)
  refine ⟨μ ++ N, xx, ⟨by rw [List.length_append, R.len', rh.len]; simp [N], ?_, fun j o a e1 e2 => ?_, fun j x1 a e1 e2 => ?_⟩, ?_⟩
  · refine List.nodup_append.mpr ⟨rh.nd, ?_, fun a ha b hb z => ?_⟩
    · refine List.pairwise_iff_getElem.mpr fun i j hi hj hij z => ?_
      have hi' : i < κ.length := by simpa [N] using hi
      have hj' : j < κ.length := by simpa [N] using hj
      have e1 := hN i κ[i] (List.getElem?_eq_getElem hi')
      have e2 := hN j κ[j] (List.getElem?_eq_getElem hj')
      rw [List.getElem?_eq_getElem hi] at e1
      rw [List.getElem?_eq_getElem hj] at e2
      have k1 : κ[i] < μ2.length := by rw [rh2.len]; exact (R.kLt _ (List.getElem_mem hi')).2
      have k2 : κ[j] < μ2.length := by rw [rh2.len]; exact (R.kLt _ (List.getElem_mem hj')).2
      rw [List.getElem?_eq_getElem k1] at e1
      rw [List.getElem?_eq_getElem k2] at e2
      have := (List.getElem_inj rh2.nd).mp (((Option.some.inj e1).symm.trans z).trans (Option.some.inj e2))
      have := (List.getElem_inj R.kNd).mp this
      omega
    · subst z
      exact (hnew a hb).1 ha
  · by_cases hj : j < hp.length
    · rw [List.getElem?_append_left (by rw [rh.len]; exact hj)] at e2
      by_cases hm : j ∈ σ
      · obtain ⟨i, hi, e⟩ := List.mem_iff_getElem.mp hm
        obtain ⟨o2, h1, h2, h3⟩ := R.old i hi
        have ej : σ.getD i 0 = j := by simp [List.getD, hi, e]
        rw [ej, e1] at h3
        cases h3
        have e3 := h2i i hi
        rw [ej, e2] at e3
        exact (rh2.obj i o2 a h1 e3).mapped hf h2
      · rw [R.rest j hj hm] at e1
        have q := rh.obj j o a e1 e2
        obtain ⟨u, eu, _⟩ := q.some
        have hna : a ∉ pick μ σ := fun z => by
          obtain ⟨k, hk, e⟩ := List.mem_map.mp z
          have hk2 := hσ k hk
          have e5 : μ[k]? = some a := by
            rw [← e, List.getElem?_eq_getElem hk2]
            simp [List.getD, hk2]
          obtain ⟨l1, e6⟩ := List.getElem?_eq_some_iff.mp e5
          obtain ⟨l2, e7⟩ := List.getElem?_eq_some_iff.mp e2
          have := (List.getElem_inj rh.nd).mp (e6.trans e7.symm)
          exact hm (this ▸ hk)
        rw [x.keep a u hna eu, ← eu]
        exact q.mon xx.m
    · have hj2 : j < hp'.length := (List.getElem?_eq_some_iff.mp e1).1
      have hlen' := R.len'
      have ht : j - hp.length < κ.length := by omega
      obtain ⟨o2, h1, h2, h3⟩ := R.new (j - hp.length) κ[j - hp.length] (List.getElem?_eq_getElem ht)
      have ej : hp.length + (j - hp.length) = j := by omega
      rw [ej, e1] at h3
      cases h3
      rw [List.getElem?_append_right (by rw [rh.len]; omega), rh.len, hN _ _ (List.getElem?_eq_getElem ht)] at e2
      exact (rh2.obj _ o2 a h1 e2).mapped hf h2
  · have tb : ∀ o : O, O.map f o = .tab x1 → o = .tab x1 := fun o z => by cases o <;> first | exact z | exact nomatch z
    by_cases hj : j < hp.length
    · rw [List.getElem?_append_left (by rw [rh.len]; exact hj)] at e2
      by_cases hm : j ∈ σ
      · obtain ⟨i, hi, e⟩ := List.mem_iff_getElem.mp hm
        obtain ⟨o2, h1, h2, h3⟩ := R.old i hi
        have ej : σ.getD i 0 = j := by simp [List.getD, hi, e]
        rw [ej, e1] at h3
        have e3 := h2i i hi
        rw [ej, e2] at e3
        rw [tb o2 (Option.some.inj h3).symm] at h1
        exact rh2.tabs i x1 a h1 e3
      · rw [R.rest j hj hm] at e1
        exact rh.tabs j x1 a e1 e2
    · have hj2 : j < hp'.length := (List.getElem?_eq_some_iff.mp e1).1
      have hlen' := R.len'
      have ht : j - hp.length < κ.length := by omega
      obtain ⟨o2, h1, h2, h3⟩ := R.new (j - hp.length) κ[j - hp.length] (List.getElem?_eq_getElem ht)
      have ej : hp.length + (j - hp.length) = j := by omega
      rw [ej, e1] at h3
      rw [List.getElem?_append_right (by rw [rh.len]; omega), rh.len, hN _ _ (List.getElem?_eq_getElem ht)] at e2
      rw [tb o2 (Option.some.inj h3).symm] at h1
      exact rh2.tabs _ x1 a h1 e2
  · rw [R.res.2]
    exact rv.mapped hf R.res.1
end
theorem Fn.cl {P : Program} {w : World} {K : PySem.W.Frag} {mg : Str → Option Value} {base : Heap} {k n : Nat} {x : Str} {m c : List D → Hd → Option (D × Hd)} (F : Fn P w K mg base k x n m) (h : Cl c m) : Fn P w K mg base k x n c := by
  obtain ⟨f, fd, ps, F, a, b, e⟩ := F.ex
  refine ⟨f, fd, ps, F.imp fun vs H Q E q => ?_, a, b, e⟩
  obtain ⟨hp, μ, ds, d, hp', hn, rh, r, ec, q⟩ := q
  obtain ⟨σ, κ, dsS, os, d2, g, f, kp, R⟩ := h ds hp d hp' ec
  have hσ : ∀ j ∈ σ, j < μ.length := fun j hj => by rw [rh.len]; exact R.lt j hj
  have ra : Rps K H (pick μ σ) dsS vs := Rps.pick hσ R.argsLt (by rw [← R.args]; exact r)
  refine ⟨os, pick μ σ, dsS, d2, g, ?_, R.start rh, ra, R.run, fun v H' μ2 x rh2 rv => ?_⟩
  · rw [← hn, R.args]
    have : ∀ l : List D, (D.rens σ l).length = l.length := by
      intro l
      induction l with
      | nil => rfl
      | cons y ys ih => rw [D.rens, List.length_cons, List.length_cons, ih]
    rw [this]
  · obtain ⟨μ', x', rh', rv'⟩ := R.sound rh x rh2 rv
    exact q v H' μ' x' rh' rv'
end Ve
namespace Ve
open PySem PySem.Spec L2
def cutD {α : Type} (xs : List α) (lo hi : Option Int) : List α := (xs.drop (HT.sIx xs.length 0 lo)).take (HT.sIx xs.length xs.length hi - HT.sIx xs.length 0 lo)
theorem Rps.cut {K : PySem.W.Frag} {H : Hp} {μ : List Addr} {ds : List D} {vs : List V} (r : Rps K H μ ds vs) (lo hi : Option Int) : Rps K H μ (cutD ds lo hi) (cutV vs lo hi) := by
  unfold cutD cutV
  rw [r.len]
  exact (r.drop _).take _
def gSl (x : D) (lo hi : Option Int) (hp : Hd) : Option (D × Hd) := match x with
  | .tup ds => some (.tup (cutD ds lo hi), hp)
  | .wt ds => if HT.sIx ds.length 0 lo = 0 ∧ HT.sIx ds.length ds.length hi = ds.length then some (.wt ds, hp) else some (.tup (cutD ds lo hi), hp)
  | .str z => if z.length ≤ sizeLine then some (.str (cutS z lo hi), hp) else none
  | .ref n => match hp[n]? with
    | some (.lst ds) => some (.ref hp.length, hp ++ [.lst (cutD ds lo hi)])
    | _ => none
  | _ => none
def mPo : Option AE → Ls → Hd → Option (Option Int × Hd)
  | none, _, hp => some (none, hp)
  | some f, ls, hp => match f ls hp with
    | some (.int i, hp1) => some (some i, hp1)
    | _ => none
def tOp' (K : PySem.W.Frag) (f : Option AE) : TO := fun σ H Q => ∃ ls hp μ o hp', Rl K H μ ls σ ∧ RelH K H μ hp ∧ mPo f ls hp = some (o, hp') ∧ ∀ H' μ', Ext μ H μ' H' → RelH K H' μ' hp' → Q o H'
abbrev DPO (X : Cx) (e : Option Expr) (f : Option AE) : Prop := PO X e (tOp' X.K f)
theorem PO.imp {X : Cx} {e : Option Expr} {t t' : TO} (h : PO X e t) (i : ∀ σ H Q, t' σ H Q → t σ H Q) : PO X e t' := ⟨fun pins s σ H Q I q => h.run pins s σ H Q I (i σ H Q q)⟩
def mSl (fa : AE) (fl fu : Option AE) : AE := fun ls hp => match fa ls hp with
  | some (x, hp1) => match mPo fl ls hp1 with
    | some (l, hp2) => match mPo fu ls hp2 with
      | some (u, hp3) => gSl x l u hp3
      | none => none
    | none => none
  | none => none
section
variable {X : Cx} {e a b : Expr} {es : List Expr} {fa fb : AE} {fl fm : AA} {fr : AA} {pos p2 : Pos} {lo hi : Option Expr} {ol oh : Option AE}
theorem dpo_none : DPO X none none := PO.imp po_none fun σ H Q ⟨ls, hp, μ, o, hp', rl, rh, e, q⟩ => by
  simp only [mPo] at e
  cases e
  exact q H μ Ext.refl rh
theorem dpo_some (h : DE X e fa) : DPO X (some e) (some fa) := PO.imp (po_some h) fun σ H Q ⟨ls, hp, μ, o, hp', rl, rh, e, q⟩ => by
  simp only [mPo] at e
  split at e
  · rename_i i hp1 e1
    cases e
    exact ⟨ls, hp, μ, .int i, hp', rl, rh, e1, fun v H1 μ1 x1 rh1 r1 => ⟨i, r1.intE, q H1 μ1 x1 rh1⟩⟩
  · cases e
theorem de_slice (ha : DE X a fa) (hl : DPO X lo ol) (hu : DPO X hi oh) : DE X (.Subscript a (.Slice lo hi none p2) pos) (mSl fa ol oh) :=
  PE.imp (pe_slice (SlR.or (SlR.or sl_tupA sl_list) sl_str) ha hl hu) fun σ H Q ⟨ls, hp, μ, d, hp', rl, rh, e, q⟩ => by
    unfold mSl at e
    split at e
    · rename_i x hp1 e1
      split at e
      · rename_i l hp2 e2
        split at e
        · rename_i u hp3 e3
          refine ⟨ls, hp, μ, x, hp1, rl, rh, e1, fun v H1 μ1 x1 rh1 r1 => ⟨ls, hp1, μ1, l, hp2, rl.ext x1, rh1, e2, fun H2 μ2 x2 rh2 => ⟨ls, hp2, μ2, u, hp3, (rl.ext x1).ext x2, rh2, e3, fun H3 μ3 x3 rh3 => ?_⟩⟩⟩
          have r3 := (r1.ext x2).ext x3
          have x13 := (x1.trans x2).trans x3
          unfold gSl at e
          split at e
          · rename_i ds
            cases e
            obtain ⟨p, vs, rfl, t, rs⟩ := r3.tupE
            refine .inl (.inl ⟨p, vs, rfl, t.sq, fun hw => ?_, fun _ p' hp0 => ?_⟩)
            · have hc : cutD ds l u = ds := by
                unfold cutD
                rw [← rs.len, hw.1, hw.2]
                simp
                rw [rs.len]
                exact List.take_length
              refine q _ H3 μ3 x13 rh3 ?_
              rw [hc]
              exact Rp.tup' t rs
            · have x4 := Ext.laid rh3 (o := .tup (cutV vs l u)) hp0
              exact q _ _ μ3 (x13.trans x4) (rh3.laid hp0) (Rp.tup upd_same ((rs.cut l u).ext x4))
          · rename_i ds
            obtain ⟨p, vs, rfl, t, rs⟩ := r3.wtE
            have r4 := r3
            split at e
            · rename_i hw
              cases e
              refine .inl (.inl ⟨p, vs, rfl, t.sq, fun _ => q _ H3 μ3 x13 rh3 r4, fun hn => absurd (by rw [rs.len]; exact hw) hn⟩)
            · rename_i hw
              cases e
              refine .inl (.inl ⟨p, vs, rfl, t.sq, fun hw2 => absurd (by rw [rs.len] at hw2; exact hw2) hw, fun _ p' hp0 => ?_⟩)
              have x4 := Ext.laid rh3 (o := .tup (cutV vs l u)) hp0
              exact q _ _ μ3 (x13.trans x4) (rh3.laid hp0) (Rp.tup upd_same ((rs.cut l u).ext x4))
          · split at e
            · rename_i z hz
              cases e
              exact .inr ⟨_, r3.strE, hz, q _ H3 μ3 x13 rh3 Rp.str⟩
            · cases e
          · rename_i n
            split at e
            · rename_i ds eh
              cases e
              obtain ⟨p, ep, rfl⟩ := r3.refE
              obtain ⟨vs, ev, rs⟩ := rh3.lst ep eh
              refine .inl (.inr ⟨p, vs, rfl, .inl (.inl ev), fun p' hp0 => ?_⟩)
              have x4 := Ext.laid rh3 (o := .lst (cutV vs l u)) hp0
              have rh4 := rh3.laid (o := .lst (cutV vs l u)) hp0
              have hn := rh3.notIn hp0
              refine q (.ref p') _ (μ3 ++ [p']) ((x13.trans x4).place (x13.back rh3 hp0)) (rh4.place hn ⟨_, upd_same, ((rs.cut l u).ext x4).mon Mon.grow⟩) ?_
              rw [Rp]
              refine ⟨p', ?_, rfl⟩
              rw [List.getElem?_append_right (by rw [rh3.len]; exact Nat.le_refl _), rh3.len]
              simp
            · cases e
          · cases e
        · cases e
      · cases e
    · cases e
def mCat (fl fm : AA) : AA := fun ls hp => match fl ls hp with
  | some (xs, hp1) => match fm ls hp1 with
    | some (ys, hp2) => if xs.length + ys.length ≤ sizeLine then some (xs ++ ys, hp2) else none
    | none => none
  | none => none
def lstOf (d : D) (hp : Hd) : Option (List D) := match d with
  | .ref n => match hp[n]? with
    | some (.lst xs) => some xs
    | _ => none
  | _ => none
theorem lstOf_some {d : D} {hp : Hd} {xs : List D} (h : lstOf d hp = some xs) : ∃ n, d = .ref n ∧ hp[n]? = some (.lst xs) := by
  unfold lstOf at h
  split at h
  · rename_i n
    split at h
    · rename_i xs' e
      cases h
      exact ⟨n, rfl, e⟩
    · cases h
  · cases h
def mCatOL (fa : AE) (fm : AA) : AA := fun ls hp => match fa ls hp with
  | some (x, hp1) => match fm ls hp1 with
    | some (ys, hp2) => match lstOf x hp2 with
      | some xs => if xs.length + ys.length ≤ sizeLine then some (xs ++ ys, hp2) else none
      | none => none
    | none => none
  | none => none
def mCatLO (fl : AA) (fb : AE) : AA := fun ls hp => match fl ls hp with
  | some (xs, hp1) => match fb ls hp1 with
    | some (y, hp2) => match lstOf y hp2 with
      | some ys => if xs.length + ys.length ≤ sizeLine then some (xs ++ ys, hp2) else none
      | none => none
    | none => none
  | none => none
def mRep (fl : AA) (fb : AE) : AA := fun ls hp => match fl ls hp with
  | some (xs, hp1) => match fb ls hp1 with
    | some (.int k, hp2) => if 0 ≤ k ∧ k < 2 ^ 40 ∧ xs.length * k.toNat ≤ sizeLine then some ((List.replicate k.toNat xs).flatten, hp2) else none
    | _ => none
  | none => none
def sAsgL (ts : List Tg) (f : AA) : AS := fun ls hp => match f ls hp with
  | some (ds, hp1) => match Tg.asgs ts ds ls with
    | some ls1 => some (.nx, ls1, hp1)
    | none => none
  | none => none
theorem ds_asgL {kt : Nat} {pt : Pos} {ts : List Tg} (hc : X.calm = true) (he : LE X e fl) (hg : DGs X es ts) (hn : (assignEach es X.env).length = ts.length := by rfl) (hst : (assignEach es X.env).findIdx? (·.1) = none := by rfl)
    (hs : swapsWithSole [.Tuple es kt pt] e pos.line X.env = pure false := by rfl) (hsw : swappedStores [.Tuple es kt pt] e X.env = pure none := by rfl) (h1 : (assignEach [.Tuple es kt pt] X.env).map (·.2) = [assign (.Tuple es kt pt) X.env] := by rfl) : DS X (.Assign [.Tuple es kt pt] e pos) (sAsgL ts fl) :=
  PS.imp (ps_asg he (pg_unl (n := ts.length) hc hg hn hst) hs hsw h1) fun Dn σ H ⟨ls, hp, μ, fl', ls', hp', rl, rh, e, q⟩ => by
    unfold sAsgL at e
    split at e
    · rename_i ds hp1 e1
      split at e
      · rename_i ls1 e2
        cases e
        exact ⟨ls, hp, μ, ds, hp', rl, rh, e1, fun p vs H1 μ1 x1 rh1 h0 hn' hl r1 => ⟨p, vs, rfl, .inl (.inl hl), by rw [r1.len, asgs_len e2], ls, μ1, ds, ls', rl.ext x1, r1, e2, fun σ' rl' _ => q H1 μ1 x1 rh1 σ' rl'⟩⟩
      · cases e
    · cases e
end
end Ve
namespace Ve
open PySem PySem.Spec L2
def maxI : Int → List Int → Int
  | a, [] => a
  | a, b :: r => maxI (if a < b then b else a) r
def minI : Int → List Int → Int
  | a, [] => a
  | a, b :: r => minI (if b < a then b else a) r
theorem minI_is : ∀ (r : List Int) (a : Int), (minI a r = a ∨ minI a r ∈ r) ∧ minI a r ≤ a ∧ ∀ y ∈ r, minI a r ≤ y
  | [], a => ⟨.inl rfl, Int.le_refl _, fun _ h => nomatch h⟩
  | b :: r, a => by
    obtain ⟨h1, h2, h3⟩ := minI_is r (if b < a then b else a)
    unfold minI
    refine ⟨?_, by split at h2 <;> rename_i h <;> simp only [h, if_true, if_false, ite_true, ite_false] <;> omega, fun y hy => ?_⟩
    · rcases h1 with h1 | h1
      · by_cases h : b < a
        · rw [if_pos h] at h1 ⊢
          exact .inr (by rw [h1]; exact List.mem_cons_self)
        · rw [if_neg h] at h1 ⊢
          exact .inl h1
      · exact .inr (List.mem_cons_of_mem _ h1)
    · rcases List.mem_cons.mp hy with e | e
      · subst e
        by_cases h : y < a
        · rw [if_pos h] at h2 ⊢
          exact h2
        · rw [if_neg h] at h2 ⊢
          omega
      · exact h3 y e
def maxD (ds : List D) : Option Int := match ints? ds with
  | some (a :: r) => some (maxI a r)
  | _ => none
def minD (ds : List D) : Option Int := match ints? ds with
  | some (a :: r) => some (minI a r)
  | _ => none
theorem minD_some {ds : List D} {m : Int} (h : minD ds = some m) : ∃ ns : List Int, ds = ns.map .int ∧ 0 < ns.length ∧ ∀ x, x ∈ ns → (∀ y, y ∈ ns → x ≤ y) → x = m := by
  unfold minD at h
  split at h
  · rename_i a r e
    cases h
    obtain ⟨h1, h2, h3⟩ := minI_is r a
    refine ⟨a :: r, ints?_eq e, Nat.succ_pos _, fun x hx hb => ?_⟩
    have := hb (minI a r) (by rcases h1 with z | z; · rw [z]; exact List.mem_cons_self
                              · exact List.mem_cons_of_mem _ z)
    rcases List.mem_cons.mp hx with z | z
    · subst z
      omega
    · have := h3 x z
      omega
  · cases h
def gMinL (ds : List D) (hp : Hd) : Option (D × Hd) := match minD ds with
  | some m => some (.int m, hp)
  | none => none
section
variable {X : Cx}
theorem n_min (hc : X.calm = true) : CallR X (.builtin "min") (RN X.K gMinL) := fun pins s σ H xs us Q I r ⟨hp, μ, ds, vs, p, d, hp', rh, ex, hn, hl, rs, e, q⟩ => by
  unfold gMinL at e
  split at e
  · rename_i m em
    cases e
    subst ex
    obtain ⟨ns, rfl, h1, h2⟩ := minD_some em
    have := rs.ints
    subst this
    exact cr_min hc pins s σ H _ us Q I r ⟨p, ns, rfl, .inl (.inl hl), h1, fun x hx hb => by rw [h2 x hx hb]; exact q _ H μ Ext.refl rh Rp.int⟩
  · cases e
def seqOfL (d : D) (hp : Hd) : Option (List D) := match d with
  | .scr ns => some (ns.map .int)
  | d => lstOf d hp
theorem seqOfL_some {K : PySem.W.Frag} {H : Hp} {μ : List Addr} {hp : Hd} {d : D} {v : V} {ds : List D} (rh : RelH K H μ hp) (r : Rp K H μ d v) (h : seqOfL d hp = some ds) : ∃ a vs, v = .ref a ∧ SqL K H a vs ∧ Rps K H μ ds vs := by
  unfold seqOfL at h
  split at h
  · rename_i ns
    cases h
    obtain ⟨a, rfl, t⟩ := r.scrE
    refine ⟨a, _, rfl, t.sq, ?_⟩
    have go : ∀ ns : List Int, Rps K H μ (ns.map .int) (ns.map V.int) := by
      intro ns
      induction ns with
      | nil => exact Rps.nil
      | cons n ns ih => exact Rps.mk Rp.int ih
    exact go ns
  · obtain ⟨n, rfl, e⟩ := lstOf_some h
    obtain ⟨a, ea, rfl⟩ := r.refE
    obtain ⟨vs, ev, rs⟩ := rh.lst ea e
    exact ⟨a, vs, rfl, .inl (.inl ev), rs⟩
theorem Rps.erase {K : PySem.W.Frag} {H : Hp} {μ : List Addr} {ds : List D} {vs : List V} (h : Rps K H μ ds vs) (k : Nat) : Rps K H μ (ds.eraseIdx k) (vs.eraseIdx k) := by
  rw [List.eraseIdx_eq_take_drop_succ, List.eraseIdx_eq_take_drop_succ]
  exact (h.take _).append (h.drop _)
end
end Ve
namespace Ve
open PySem PySem.Spec L2 PyProof.Rows
def encD (hp : Hd) (d : D) : PyData := (pyF hp 15 d).getD .none
def isTupC : PyData → Bool
  | .tuple (_ :: _) => true
  | _ => false
def notTN : PyData → Bool
  | .tuple _ => false
  | .none => false
  | _ => true
def srtOk (hp : Hd) (ds : List D) : Bool := (ds.all fun d => (pyF hp 15 d).isSome) && ((ds.all fun a => ds.all fun b => PySem.W.alike (encD hp a) (encD hp b)) && (((ds.all fun d => isTupC (encD hp d)) || ds.all fun d => notTN (encD hp d)) && ds.all fun d => decide ((encD hp d).depth ≤ 40)))
def srt (hp : Hd) (ds : List D) : List D := ds.mergeSort (PySem.W.dataLe false (encD hp))
def RelD (K : PySem.W.Frag) (H : Hp) (μ : List Addr) (u : Value) (d : D) : Prop := ∃ v, RelV v u ∧ Rp K H μ d v
section
variable {K : PySem.W.Frag} {H : Hp} {μ : List Addr} {hp : Hd}
theorem each_of : ∀ {ds : List D} {vs : List V} {us : List Value}, Rps K H μ ds vs → Vals vs us → PySem.W.EachIs (RelD K H μ) us ds
  | [], vs, us, h, r => by
    rw [Rps] at h
    subst h
    cases r
    exact .nil
  | d :: ds, vs, us, h, r => by
    rw [Rps] at h
    obtain ⟨v, w, rfl, h1, h2⟩ := h
    cases r with
    | cons r1 r2 => exact .cons ⟨v, r1, h1⟩ (each_of h2 r2)
theorem each_back : ∀ {ds : List D} {us : List Value}, PySem.W.EachIs (RelD K H μ) us ds → ∃ vs, Vals vs us ∧ Rps K H μ ds vs
  | _, _, .nil => ⟨[], .nil, Rps.nil⟩
  | _, _, .cons ⟨v, r1, h1⟩ t => by
    obtain ⟨vs, r2, h2⟩ := each_back t
    exact ⟨v :: vs, .cons r1 r2, Rps.mk h1 h2⟩
theorem each_at {α β : Type} {R : α → β → Prop} : ∀ {us : List α} {ds : List β}, us.length = ds.length → (∀ (j : Nat) u d, us[j]? = some u → ds[j]? = some d → R u d) → PySem.W.EachIs R us ds
  | [], [], _, _ => .nil
  | [], _ :: _, h, _ => by simp at h
  | _ :: _, [], h, _ => by simp at h
  | u :: us, d :: ds, h, f => .cons (f 0 u d rfl rfl) (each_at (by simpa using h) fun j a b e1 e2 => f (j + 1) a b (by simpa using e1) (by simpa using e2))
theorem srtOk_parts {ds : List D} (h : srtOk hp ds = true) : (∀ d ∈ ds, ∃ p, pyF hp 15 d = some p) ∧ PySem.W.AllAlike (ds.map (encD hp)) ∧ PySem.W.Sortable (ds.map (encD hp)) ∧ ∀ d ∈ ds, (encD hp d).depth ≤ 40 := by
  unfold srtOk at h
  rw [Bool.and_eq_true, Bool.and_eq_true, Bool.and_eq_true] at h
  obtain ⟨h1, h2, h3, h4⟩ := h
  refine ⟨fun d hd => Option.isSome_iff_exists.mp (List.all_eq_true.mp h1 d hd), fun a ha b hb => ?_, ?_, fun d hd => of_decide_eq_true (List.all_eq_true.mp h4 d hd)⟩
  · obtain ⟨x, hx, rfl⟩ := List.mem_map.mp ha
    obtain ⟨y, hy, rfl⟩ := List.mem_map.mp hb
    exact List.all_eq_true.mp (List.all_eq_true.mp h2 x hx) y hy
  · rcases Bool.or_eq_true _ _ ▸ h3 with h3 | h3
    · refine .inl fun d hd => ?_
      obtain ⟨x, hx, rfl⟩ := List.mem_map.mp hd
      have := List.all_eq_true.mp h3 x hx
      unfold isTupC at this
      split at this
      · rename_i e
        exact ⟨_, _, e⟩
      · cases this
    · refine .inr fun d hd => ?_
      obtain ⟨x, hx, rfl⟩ := List.mem_map.mp hd
      have := List.all_eq_true.mp h3 x hx
      refine ⟨fun e => ?_, fun xs e => ?_⟩ <;> rw [e] at this <;> cases this
end
section
variable {X : Cx} {pins : List (Addr × Obj)} {σ : L2.St} {H : Hp} {s : Shared} {μ : List Addr} {hp : Hd}
theorem each_reads (I : Inv X pins σ H s) (rh : RelH X.K H μ hp) {us : List Value} {ds : List D} (h : ∀ d ∈ ds, ∃ p, pyF hp 15 d = some p) (e : PySem.W.EachIs (RelD X.K H μ) us ds) : PySem.W.EachIs (fun u d => ∃ as, Reads s.heap u (encD hp d) as) us ds := by
  induction e with
  | nil => exact .nil
  | @cons u d us ds h1 t ih =>
    obtain ⟨v, r, rv⟩ := h1
    refine .cons ?_ (ih fun d hd => h d (List.mem_cons_of_mem _ hd))
    obtain ⟨p, e⟩ := h d List.mem_cons_self
    have := pyF_dp rh 15 d p v e rv
    unfold encD
    rw [e]
    exact Dp.reads I p v _ this r
theorem sorted_core {us : List Value} {ds : List D} {A : Around} {h' : Heap} {a : Addr} {tk : Nat} (I1 : Inv X pins σ H { s with heap := h', toks := tk }) (rh : RelH X.K H μ hp) (er : PySem.W.EachIs (RelD X.K H μ) us ds) (hs : srtOk hp ds = true) (hu : A.units + 44 < cLine) (ha : h'.get? a = none) (hh : ∀ b o, h'.get? b = some o → b ≠ a) (h2 : Heap) (k2 : ∀ b o, h'.get? b = some o → h2.get? b = some o) :
    PySem.W.SortsAt X.prog X.w A { s with heap := PySem.W.sortingHeap h2 a us, toks := tk } (PySem.W.dataKind (PySem.W.sortingHeap h2 a us) (ds.map (encD hp))) us ∧
      PySem.W.EachIs (RelD X.K H μ) (PySem.W.sortVals (PySem.W.dataKind (PySem.W.sortingHeap h2 a us) (ds.map (encD hp))) false us us) (srt hp ds) := by
  obtain ⟨h1, hal, hk, hdep⟩ := srtOk_parts hs
  have er1 := each_reads I1 rh h1 er
  have er2 : PySem.W.EachIs (fun u d => ∃ as, Reads (PySem.W.sortingHeap h2 a us) u (encD hp d) as) us ds := er1.mono fun _ _ ⟨as, r⟩ => ⟨as, PyProof.Rows.Reads.keeps (fun b o e => PySem.W.sortingHeap_old (hh b o e) (k2 b o e)) r⟩
  refine ⟨PySem.W.SortsAt.data (s := { s with heap := PySem.W.sortingHeap h2 a us, toks := tk }) (PySem.W.each_map (R := fun v d => ∃ as, Reads (PySem.W.sortingHeap h2 a us) v d as) (encD hp) er2) hal hk fun d hd => ?_, PySem.W.sortVals_data false er er2 hal⟩
  obtain ⟨x, hx, rfl⟩ := List.mem_map.mp hd
  have := hdep x hx
  omega
theorem sorted_of_src {T : String} {r d : Addr} {n : Nat} {P : Nat → Value → Prop} {OK : Heap → Prop} (KS : PySem.W.KdlSrc X.prog X.w T r d n P OK) (I : Inv X pins σ H s) (hc : X.calm = true) (hok : OK s.heap) (hn : n ≤ sizeLine) {ds : List D} (rh : RelH X.K H μ hp) (hs : srtOk hp ds = true) (hu : X.A.units + 64 < cLine) {Q : VK}
    (hacc : ∀ acc : Array Value, ItemsOf P acc n → PySem.W.EachIs (RelD X.K H μ) acc.toList ds) (q : ∀ p vs, H p = none → Rps X.K H μ (srt hp ds) vs → Q (.ref p) (upd H p (.lst vs))) :
    wpAny (model X.prog X.w) X.A (call (.builtin "sorted") [.ref r]) (EP X pins σ Q) X.xe s := by
  refine Calls.call_function_entry PyProof.Rows.kind_sorted PyProof.Rows.plain_sorted PyProof.Rows.entry_sorted (PyProof.Rows.args_sorted1 _) ?_
  unfold Builtin.«sorted»
  refine wpAny_bind (m := checkCount "sorted" 1 1 _) (wpAny_pure ?_)
  refine wpAny_bind (PySem.W.kdu_collect (A := X.A.in1) KS (I.ok.hd hc) hok hn fun h' tk acc hk hit => ?_)
  have er := hacc acc hit
  have I1 : Inv X pins σ H { s with heap := h', toks := tk } := I.kept hk
  have hz : acc.toList.length ≤ sizeLine := by rw [Array.length_toList, hit.1]; exact hn
  refine wpAny_bind (wpAny_newList ?_ hz)
  have hoL : (h'.push (seqObj "list" acc.toList.toArray 0)).get? h'.objs.size = some (seqObj "list" acc.toList.toArray 0) := Heap.get?_push_size _ rfl
  have hlt : ∀ b o, h'.get? b = some o → b ≠ h'.objs.size := fun b o e => Nat.ne_of_lt (Heap.lt_size e)
  have h0 : h'.get? h'.objs.size = none := by
    cases hh : h'.get? h'.objs.size with
    | none => rfl
    | some o => exact absurd rfl (hlt _ o hh)
  obtain ⟨S, eo⟩ := sorted_core (A := X.A.in1.in1) I1 rh er hs (show X.A.units + 1 + 1 + 44 < cLine by omega) h0 hlt (h'.push (seqObj "list" acc.toList.toArray 0)) fun b o e => Heap.get?_push_of_some _ e
  show wpAny _ _ _ _ _ { s with heap := h'.push (seqObj "list" acc.toList.toArray 0), toks := tk }
  refine wpAny_bind (wpAny_holding (wpAny_call_entry PyProof.Rows.slot_list_sort ⟨_, hoL, rfl⟩ PyProof.Rows.entry_list_sort
    (PySem.W.list_sort_vals (s := { s with heap := h'.push (seqObj "list" acc.toList.toArray 0), toks := tk }) hoL S hz ⟨_, rfl, ?_⟩)
    (PyProof.Rows.args_list_sort _)))
  obtain ⟨vs', rv', rs'⟩ := each_back eo
  obtain ⟨e', he'⟩ := PyProof.Rows.sortedHeap_at (vs := acc.toList) (out := (PySem.W.sortVals (PySem.W.dataKind (PySem.W.sortingHeap (h'.push (seqObj "list" acc.toList.toArray 0)) h'.objs.size acc.toList) (ds.map (encD hp))) false acc.toList acc.toList).toArray) hoL
  have hlen : vs'.length ≤ sizeLine := by
    rw [rs'.len]
    unfold srt
    rw [List.length_mergeSort, ← er.length]
    exact hz
  refine wpAny_pure ⟨_, rfl, .ref h'.objs.size, upd H h'.objs.size (.lst vs'), I1.laid (t' := tk) (fun b u e => ?_) (Nat.le_refl _)
    (show ObjOk X.prog X.w _ _ _ (.lst vs') from ⟨hlen, _, e', rv', he'⟩), rfl, q _ vs' (I1.hok.fresh (Nat.le_refl _)) rs'⟩
  have hb : b < h'.objs.size := Heap.lt_size e
  rw [PyProof.Rows.sortedHeap_old (Nat.ne_of_lt hb) (by rw [size_push']; exact Nat.lt_succ_of_lt hb)]
  exact Heap.get?_push_of_some _ e
theorem sorted_of_list {a : Addr} {ds : List D} {vs : List V} (I : Inv X pins σ H s) (hq : SqL X.K H a vs) (rs : Rps X.K H μ ds vs) (rh : RelH X.K H μ hp) (hs : srtOk hp ds = true) (hu : X.A.units + 64 < cLine) {Q : VK}
    (q : ∀ p vs, H p = none → Rps X.K H μ (srt hp ds) vs → Q (.ref p) (upd H p (.lst vs))) :
    wpAny (model X.prog X.w) X.A (call (.builtin "sorted") [.ref a]) (EP X pins σ Q) X.xe s := by
  obtain ⟨its, rv, hl, hz⟩ := I.list hq
  have er := each_of rs rv
  obtain ⟨h1, hal, hk, hdep⟩ := srtOk_parts hs
  refine PySem.W.sorted_data (bs := ds) (enc := encD hp) hl.isList er (each_reads I rh h1 er) hal hk (by rw [← rs.len]; exact hz) (fun b hb => ?_) fun out ho eo => ?_
  · have := hdep b hb
    omega
  · obtain ⟨vs', rv', rs'⟩ := each_back (ds := srt hp ds) eo
    obtain ⟨ep, he'⟩ := PyProof.Rows.sortedAll_at s.heap its out.toArray
    have hlen : vs'.length ≤ sizeLine := by
      rw [rs'.len]
      unfold srt
      rw [List.length_mergeSort, ← rs.len]
      exact hz
    exact ⟨.ref _, upd H (s.heap.objs.size + 1) (.lst vs'), I.laid (t' := s.toks) (fun _ _ => PyProof.Rows.sortedAll_old) (Nat.le_succ _) ⟨hlen, out, ep, rv', he'⟩, rfl, q _ vs' (I.hok.fresh (Nat.le_succ _)) rs'⟩
end
end Ve
namespace Ve
open PySem PySem.Spec L2
def TLL (K : PySem.W.Frag) (hp' : Hd) (ds' : List D) (μ : List Addr) (H : Hp) (Q : VK) : Prop := ∀ a ws H' μ', Ext μ H μ' H' → RelH K H' μ' hp' → H a = none → a ∉ μ' → H' a = some (.lst ws) → Rps K H' μ' ds' ws → Q (.ref a) H'
def RNL (K : PySem.W.Frag) (g : List D → Hd → Option (List D × Hd)) : List V → Hp → VK → Prop := fun xs H Q => ∃ hp μ ds vs p ds' hp', RelH K H μ hp ∧ xs = [.ref p] ∧ SqL K H p vs ∧ Rps K H μ ds vs ∧ g ds hp = some (ds', hp') ∧ TLL K hp' ds' μ H Q
def gSrt (ds : List D) (hp : Hd) : Option (List D × Hd) := if srtOk hp ds = true then some (srt hp ds, hp) else none
section
variable {X : Cx} {e a b : Expr} {es : List Expr} {fa fb : AE} {fl fm : AA} {fr : AA} {pos : Pos}
theorem n_sorted (hu : X.A.units + 64 < cLine) : CallR X (.builtin "sorted") (RNL X.K gSrt) := fun pins s σ H xs us Q I r ⟨hp, μ, ds, vs, p, ds', hp', rh, ex, hq, rs, e, q⟩ => by
  unfold gSrt at e
  split at e
  · rename_i hs
    cases e
    subst ex
    rw [Vals.ref1 r]
    refine sorted_of_list I hq rs rh hs hu fun p' vs' h0 rs' => ?_
    have x := Ext.laid rh (o := .lst vs') h0
    exact q p' vs' _ μ x (rh.laid h0) h0 (rh.notIn h0) upd_same (rs'.ext x)
  · cases e
def mSortedL (fl : AA) : AA := fun ls hp => match fl ls hp with
  | some (ds, hp1) => gSrt ds hp1
  | none => none
theorem le_sortedL {x : Str} {p : Pos} (hu : X.A.units + 64 < cLine) (hg : Gl X x) (hm : X.mg x = none) (hv : bootBuiltins x = some (.builtin "sorted")) (ha : LE X e fl) (hn : x ≠ "__name__" := by decide)
    (hdb : (x == ("__debug__" : Str)) = false := by decide) (he : starEach [e] X.env = (false, eval e X.env) :: starEach [] X.env := by rfl) : LE X (.Call (.Name x p) [e] [] pos) (mSortedL fl) :=
  PE.imp (pe_callB (n_sorted hu) hg hm hv (pa_cons ha pa_nil he) hn hdb he rfl) fun σ H Q ⟨ls, hp, μ, ds, hp', rl, rh, e, q⟩ => by
    unfold mSortedL at e
    split at e
    · rename_i xs hp1 e1
      exact ⟨ls, hp, μ, xs, hp1, rl, rh, e1, fun p vs H1 μ1 x1 rh1 h0 hn hl r1 => ⟨hp1, μ1, xs, vs, p, ds, hp', rh1, rfl, .inl (.inl hl), r1, e, fun a ws H2 μ2 x2 rh2 h2 n2 l2 r2 =>
        q a ws H2 μ2 (x1.trans x2) rh2 (x1.back rh1 h2) n2 l2 r2⟩⟩
    · cases e
def keysOf : D → Hd → Option (List D)
  | .ref n, hp => match hp[n]? with
    | some (.dic kvs) => some (kvs.map (·.1))
    | _ => none
  | _, _ => none
theorem keysOf_some {d : D} {hp : Hd} {ds : List D} (h : keysOf d hp = some ds) : ∃ n kvs, d = .ref n ∧ hp[n]? = some (.dic kvs) ∧ ds = kvs.map (·.1) := by
  unfold keysOf at h
  split at h
  · split at h
    · rename_i e
      cases h
      exact ⟨_, _, rfl, e, rfl⟩
    · cases h
  · cases h
theorem Rp.ofKey {K : PySem.W.Frag} {H : Hp} {μ : List Addr} {d : D} {k : Key} (h : toKey d = some k) : Rp K H μ d (kV k) := by
  cases d <;> simp only [toKey] at h <;> try (cases h; done)
  · cases h
    exact Rp.int
  · cases h
    exact Rp.str
theorem Rps.ofKeys {K : PySem.W.Frag} {H : Hp} {μ : List Addr} : ∀ {ds : List D} {ks : List Key}, toKeys ds = some ks → Rps K H μ ds (ks.map kV)
  | [], ks, h => by
    simp only [toKeys] at h
    cases h
    exact Rps.nil
  | d :: ds, ks, h => by
    simp only [toKeys] at h
    split at h
    · rename_i k ks' e1 e2
      cases h
      exact Rps.mk (Rp.ofKey e1) (Rps.ofKeys e2)
    · cases h
theorem RpK.at_ {K : PySem.W.Frag} {H : Hp} {μ : List Addr} : ∀ {kvs : List (D × D)} {vs : List (Key × V)} {i : Nat} {k : Key} {v : V}, RpK K H μ kvs vs → vs[i]? = some (k, v) → ∃ p, kvs[i]? = some p ∧ toKey p.1 = some k ∧ Rp K H μ p.2 v
  | [], _, i, k, v, h, e => by
    rw [RpK] at h
    subst h
    simp at e
  | x :: xs, _, i, k, v, h, e => by
    rw [RpK] at h
    obtain ⟨ka, w, rs, rfl, h1, h2, h3⟩ := h
    cases i with
    | zero =>
      simp at e
      obtain ⟨rfl, rfl⟩ := e
      exact ⟨x, rfl, h1, h2⟩
    | succ i =>
      obtain ⟨p, e1, e2⟩ := RpK.at_ h3 (by simpa using e)
      exact ⟨p, by simpa using e1, e2⟩
theorem RpT.at_ {K : PySem.W.Frag} {H : Hp} {μ : List Addr} : ∀ {kvs : List (D × D)} {vs : List (List Key × V)} {i : Nat} {k : List Key} {v : V}, RpT K H μ kvs vs → vs[i]? = some (k, v) → ∃ p ds, kvs[i]? = some p ∧ p.1 = .tup ds ∧ toKeys ds = some k ∧ Rp K H μ p.2 v
  | [], _, i, k, v, h, e => by
    rw [RpT] at h
    subst h
    simp at e
  | x :: xs, _, i, k, v, h, e => by
    rw [RpT] at h
    obtain ⟨ds, ka, w, rs, e0, rfl, h1, h2, h3⟩ := h
    cases i with
    | zero =>
      simp at e
      obtain ⟨rfl, rfl⟩ := e
      exact ⟨x, ds, rfl, e0, h1, h2⟩
    | succ i =>
      obtain ⟨p, ds, e1, e2⟩ := RpT.at_ h3 (by simpa using e)
      exact ⟨p, ds, by simpa using e1, e2⟩
theorem paired_at {α β : Type} {R : α → β → Prop} : ∀ {xs : List α} {ys : List β} {i : Nat} {y : β}, Paired R xs ys → ys[i]? = some y → ∃ x, xs[i]? = some x ∧ R x y
  | _, _, _, _, .nil, e => by simp at e
  | _, _, 0, _, .cons r _, e => by
    simp at e
    subst e
    exact ⟨_, rfl, r⟩
  | _, _, i + 1, _, .cons _ t, e => by
    obtain ⟨x, e1, r⟩ := paired_at t (by simpa using e)
    exact ⟨x, by simpa using e1, r⟩
def RDL (K : PySem.W.Frag) (g : D → Hd → Option (List D × Hd)) : List V → Hp → VK → Prop := fun xs H Q => ∃ hp μ d v ds' hp', RelH K H μ hp ∧ xs = [v] ∧ Rp K H μ d v ∧ g d hp = some (ds', hp') ∧ TLL K hp' ds' μ H Q
def gSrtO (d : D) (hp : Hd) : Option (List D × Hd) := match seqOfL d hp with
  | some ds => gSrt ds hp
  | none => match keysOf d hp with
    | some ds => gSrt ds hp
    | none => none
theorem c_sorted (hc : X.calm = true) (hu : X.A.units + 64 < cLine) : CallR X (.builtin "sorted") (RDL X.K gSrtO) := fun pins s σ H xs us Q I r ⟨hp, μ, d, v, ds', hp', rh, ex, rd, e, q⟩ => by
  unfold gSrtO at e
  split at e
  · rename_i ds e1
    unfold gSrt at e
    split at e
    · rename_i hs
      cases e
      subst ex
      obtain ⟨a, vs, rfl, hq, rs⟩ := seqOfL_some rh rd e1
      rw [Vals.ref1 r]
      refine sorted_of_list I hq rs rh hs hu fun p' vs' h0 rs' => ?_
      have x := Ext.laid rh (o := .lst vs') h0
      exact q p' vs' _ μ x (rh.laid h0) h0 (rh.notIn h0) upd_same (rs'.ext x)
    · cases e
  · split at e
    · rename_i ds e1
      unfold gSrt at e
      split at e
      · rename_i hs
        cases e
        subst ex
        obtain ⟨n, kvs, rfl, eh, rfl⟩ := keysOf_some e1
        obtain ⟨a, ea, rfl⟩ := rd.refE
        rw [Vals.ref1 r]
        have fin : ∀ p vs, H p = none → Rps X.K H μ (srt hp (kvs.map (·.1))) vs → Q (.ref p) (upd H p (.lst vs)) := fun p' vs' h0 rs' => by
          have x := Ext.laid rh (o := .lst vs') h0
          exact q p' vs' _ μ x (rh.laid h0) h0 (rh.notIn h0) upd_same (rs'.ext x)
        obtain ⟨nd, ⟨vs, ev, rk⟩ | ⟨vs, ev, rk⟩⟩ := rh.dic ea eh
        · obtain ⟨z, lo, ws, rel, dd⟩ := dk_of I.hok ev
          obtain ⟨ep, hat⟩ := dd.dictAt
          have l1 : vs.length = ws.length := Paired.length rel
          refine sorted_of_src (PySem.W.kdl_dict (knd := mixKind X.prog X.w) (kvs := ws) (ep := ep) lo) I hc hat (by omega) rh hs hu (fun acc hit => ?_) fin
          have la : acc.toList.length = vs.length := by rw [Array.length_toList, hit.1]; exact l1.symm
          refine each_at (by rw [la, rk.len, List.length_map]) fun j u d hu' hd => ?_
          obtain ⟨k, x, e2, e3⟩ := hit.2 j u (by rw [← Array.getElem?_toList]; exact hu')
          obtain ⟨⟨k2, v2⟩, e4, e5, _⟩ := paired_at rel e2
          have e5 : k2 = k := e5
          subst e5
          obtain ⟨p, e6, e7, _⟩ := rk.at_ e4
          rw [List.getElem?_map, e6] at hd
          cases hd
          exact ⟨kV k2, keyIs_rel e3, Rp.ofKey e7⟩
        · obtain ⟨z, hsm, ks, pr, o, es, ep, ho, hx, hdt, he, hn⟩ := (show ObjOk X.prog X.w H s.heap a (.dT vs) from I.hok a _ ev)
          have l1 : es.size = ks.length := size_of_entries he
          have l2 : vs.length = ks.length := Paired.length pr
          refine sorted_of_src (kdl_raw hsm hx hdt) I hc ho (by omega) rh hs hu (fun acc hit => ?_) fin
          have la : acc.toList.length = vs.length := by rw [Array.length_toList, hit.1]; omega
          refine each_at (by rw [la, rk.len, List.length_map]) fun j u d hu' hd => ?_
          obtain ⟨en, hen, hv⟩ := hit.2 j u (by rw [← Array.getElem?_toList]; exact hu')
          have qe := entry_at he j
          rw [hen] at qe
          cases hb : ks[j]? with
          | none =>
            rw [hb] at qe
            exact nomatch (show some en = none from qe)
          | some b =>
            rw [hb] at qe
            have e2 : en = entryOfKey (tupleKind (mixKind X.prog X.w)) b := Option.some.inj qe
            obtain ⟨⟨k2, v2⟩, e4, e5, e6, _⟩ := paired_at pr hb
            obtain ⟨p, dks, e7, e8, e9, _⟩ := rk.at_ e4
            rw [List.getElem?_map, e7] at hd
            cases hd
            refine ⟨.ref b.2.1, ?_, ?_⟩
            · rw [hv, e2]
              rfl
            · show Rp X.K H μ p.1 _
              rw [e8]
              exact Rp.tup e6 (Rps.ofKeys e9)
      · cases e
    · cases e
def mSorted (fa : AE) : AA := fun ls hp => match fa ls hp with
  | some (d, hp1) => gSrtO d hp1
  | none => none
theorem le_sorted {x : Str} {p : Pos} (hc : X.calm = true) (hu : X.A.units + 64 < cLine) (hg : Gl X x) (hm : X.mg x = none) (hv : bootBuiltins x = some (.builtin "sorted")) (ha : DE X e fa) (hn : x ≠ "__name__" := by decide)
    (hdb : (x == ("__debug__" : Str)) = false := by decide) (he : starEach [e] X.env = (false, eval e X.env) :: starEach [] X.env := by rfl) : LE X (.Call (.Name x p) [e] [] pos) (mSorted fa) :=
  PE.imp (pe_callB (c_sorted hc hu) hg hm hv (pa_cons ha pa_nil he) hn hdb he rfl) fun σ H Q ⟨ls, hp, μ, ds, hp', rl, rh, e, q⟩ => by
    unfold mSorted at e
    split at e
    · rename_i d hp1 e1
      exact ⟨ls, hp, μ, d, hp1, rl, rh, e1, fun v H1 μ1 x1 rh1 r1 => ⟨hp1, μ1, d, v, ds, hp', rh1, rfl, r1, e, fun a ws H2 μ2 x2 rh2 h2 n2 l2 r2 =>
        q a ws H2 μ2 (x1.trans x2) rh2 (x1.back rh1 h2) n2 l2 r2⟩⟩
    · cases e
end
end Ve
namespace Ve
open PySem PySem.Spec L2
def prs? : List D → Option (List (D × D))
  | [] => some []
  | .tup [k, v] :: r => (prs? r).map ((k, v) :: ·)
  | _ :: _ => none
def putAll (acc : List (D × D)) : List (D × D) → List (D × D)
  | [] => acc
  | p :: r => putAll (putD acc p.1 p.2) r
def tupKey : D → Bool
  | .tup ks => (toKeys ks).isSome
  | _ => false
def gDictL (ds : List D) (hp : Hd) : Option (D × Hd) := match prs? ds with
  | some ps => if ((ps.all fun p => (toKey p.1).isSome) || ps.all fun p => tupKey p.1) = true then some (.ref hp.length, hp ++ [.dic (putAll [] ps)]) else none
  | none => none
theorem prs?_cons {d : D} {ds : List D} {ps : List (D × D)} (h : prs? (d :: ds) = some ps) : ∃ k v ps', d = .tup [k, v] ∧ prs? ds = some ps' ∧ ps = (k, v) :: ps' := by
  unfold prs? at h
  split at h
  · rename_i e; cases e
  · rename_i k v r e
    cases e
    cases e2 : prs? ds with
    | none => rw [e2] at h; cases h
    | some ps' =>
      rw [e2] at h
      cases h
      exact ⟨k, v, ps', rfl, rfl, rfl⟩
  · cases h
section
variable {K : PySem.W.Frag} {H : Hp} {μ : List Addr}
theorem pairs_leaf : ∀ {ds : List D} {ps : List (D × D)} {vs : List V}, prs? ds = some ps → (ps.all fun p => (toKey p.1).isSome) = true → Rps K H μ ds vs → ∃ (as : List Addr) (kvs : List (Key × V)), vs = as.map V.ref ∧ Paired (fun p kv => SqT K H p [kV kv.1, kv.2]) as kvs ∧ RpK K H μ ps kvs
  | [], ps, vs, h, _, r => by
    simp only [prs?] at h
    cases h
    rw [Rps] at r
    subst r
    exact ⟨[], [], rfl, .nil, by rw [RpK]⟩
  | d :: ds, ps, vs, h, hk, r => by
    obtain ⟨k, v, ps', rfl, e, rfl⟩ := prs?_cons h
    rw [List.all_cons, Bool.and_eq_true] at hk
    rw [Rps] at r
    obtain ⟨v1, w, rfl, r1, r2⟩ := r
    obtain ⟨as, kvs, rfl, hp, hr⟩ := pairs_leaf e hk.2 r2
    obtain ⟨k', ek⟩ := Option.isSome_iff_exists.mp hk.1
    obtain ⟨a, xs, rfl, ta, ra⟩ := r1.tupE
    obtain ⟨x, y, rfl, rx, ry⟩ := ra.two
    have := rx.keyV ek
    subst this
    refine ⟨a :: as, (k', y) :: kvs, rfl, .cons ta.sq hp, ?_⟩
    rw [RpK]
    exact ⟨k', y, kvs, rfl, ek, ry, hr⟩
theorem pairs_tup : ∀ {ds : List D} {ps : List (D × D)} {vs : List V}, prs? ds = some ps → (ps.all fun p => tupKey p.1) = true → Rps K H μ ds vs →
    ∃ (as : List Addr) (kvs : List (List Key × Addr × V)), vs = as.map V.ref ∧ Paired (fun p kv => SqT K H p [V.ref kv.2.1, kv.2.2] ∧ H kv.2.1 = some (.tup (kv.1.map kV))) as kvs ∧ RpT K H μ ps (kvs.map fun x => (x.1, x.2.2))
  | [], ps, vs, h, _, r => by
    simp only [prs?] at h
    cases h
    rw [Rps] at r
    subst r
    exact ⟨[], [], rfl, .nil, by rw [List.map_nil, RpT]⟩
  | d :: ds, ps, vs, h, hk, r => by
    obtain ⟨k, v, ps', rfl, e, rfl⟩ := prs?_cons h
    rw [List.all_cons, Bool.and_eq_true] at hk
    rw [Rps] at r
    obtain ⟨v1, w, rfl, r1, r2⟩ := r
    obtain ⟨as, kvs, rfl, hp, hr⟩ := pairs_tup e hk.2 r2
    obtain ⟨hk1, _⟩ := hk
    dsimp only at hk1
    cases k <;> simp only [tupKey] at hk1 <;> try (cases hk1; done)
    rename_i ks
    obtain ⟨k', ek⟩ := Option.isSome_iff_exists.mp hk1
    obtain ⟨a, xs, rfl, ta, ra⟩ := r1.tupE
    obtain ⟨x, y, rfl, rx, ry⟩ := ra.two
    obtain ⟨b, ws, rfl, tb, rb⟩ := rx.tupE
    have := rb.keysV ek
    subst this
    refine ⟨a :: as, (k', b, y) :: kvs, rfl, .cons ⟨ta.sq, tb⟩ hp, ?_⟩
    rw [List.map_cons, RpT]
    exact ⟨ks, k', y, _, rfl, rfl, ek, ry, hr⟩
theorem RpK.putAll : ∀ {ps : List (D × D)} {kvs : List (Key × V)} {acc : List (D × D)} {av : List (Key × V)}, RpK K H μ ps kvs → KNd acc → RpK K H μ acc av → KNd (Ve.putAll acc ps) ∧ RpK K H μ (Ve.putAll acc ps) (mergeK av kvs)
  | [], kvs, acc, av, h, nd, r => by
    rw [RpK] at h
    subst h
    exact ⟨nd, r⟩
  | p :: ps, kvs, acc, av, h, nd, r => by
    rw [RpK] at h
    obtain ⟨k, v, rs, rfl, h1, h2, h3⟩ := h
    have := RpK.putAll h3 nd.put (r.put h1 h2 nd)
    exact this
def mergeT (kvs more : List (List Key × V)) : List (List Key × V) := more.foldl (fun acc kv => putK acc kv.1 kv.2) kvs
theorem RpT.putAll : ∀ {ps : List (D × D)} {kvs : List (List Key × V)} {acc : List (D × D)} {av : List (List Key × V)}, RpT K H μ ps kvs → KNd acc → RpT K H μ acc av → KNd (Ve.putAll acc ps) ∧ RpT K H μ (Ve.putAll acc ps) (mergeT av kvs)
  | [], kvs, acc, av, h, nd, r => by
    rw [RpT] at h
    subst h
    exact ⟨nd, r⟩
  | p :: ps, kvs, acc, av, h, nd, r => by
    rw [RpT] at h
    obtain ⟨ks, k, v, rs, e0, rfl, h1, h2, h3⟩ := h
    obtain ⟨p1, p2⟩ := p
    have e0 : p1 = .tup ks := e0
    subst e0
    have := RpT.putAll h3 nd.put (r.put h1 h2 nd)
    exact this
theorem KT.putAll : ∀ {kvs : List (List Key × Addr × V)} {us : List (List Key × Addr × Value)} {acc : List (List Key × V)} {av : List (List Key × Addr × Value)}, Paired (fun p q => p.1 = q.1 ∧ p.2.1 = q.2.1 ∧ H p.2.1 = some (.tup (p.1.map kV)) ∧ RelV p.2.2 q.2.2) kvs us → KT H acc av →
    KT H (mergeT acc (kvs.map fun x => (x.1, x.2.2))) (storedAllH av us)
  | _, _, _, _, .nil, r => r
  | _, _, _, _, .cons (a := p) (b := q) h t, r => by
    obtain ⟨h1, h2, h3, h4⟩ := h
    obtain ⟨k, b, u⟩ := q
    obtain ⟨k', b', v⟩ := p
    cases h1
    cases h2
    have := KT.putAll t (r.put _ h3 h4)
    exact this
theorem length_mergeT : ∀ (more acc : List (List Key × V)), (mergeT acc more).length ≤ acc.length + more.length
  | [], acc => Nat.le_refl _
  | p :: more, acc => by
    have h1 := length_mergeT more (putK acc p.1 p.2)
    have h2 := length_putK acc p.1 p.2
    show (mergeT (putK acc p.1 p.2) more).length ≤ _
    rw [List.length_cons]
    omega
end
section
variable {X : Cx} {pins : List (Addr × Obj)} {σ : St} {H : Hp} {s : Shared}
theorem pairs_ofT (I : Inv X pins σ H s) : ∀ {as : List Addr} {kvs : List (List Key × Addr × V)}, Paired (fun p kv => SqT X.K H p [V.ref kv.2.1, kv.2.2] ∧ H kv.2.1 = some (.tup (kv.1.map kV))) as kvs →
    ∃ us : List (List Key × Addr × Value), Paired (fun p q => p.1 = q.1 ∧ p.2.1 = q.2.1 ∧ H p.2.1 = some (.tup (p.1.map kV)) ∧ RelV p.2.2 q.2.2) kvs us ∧ us.length = as.length ∧
      ∀ (j : Nat) (q : List Key × Addr × Value), us[j]? = some q → ∃ b : Addr, as[j]? = some b ∧ PySem.PairAt s.heap b (.ref q.2.1) q.2.2 ∧ (tupleKind (mixKind X.prog X.w)).is s.heap q.1 q.2.1
  | _, _, .nil => ⟨[], .nil, rfl, fun j q e => by simp at e⟩
  | _, _, .cons (a := p) (b := kv) h t => by
    obtain ⟨us, r, hl, hp⟩ := pairs_ofT I t
    obtain ⟨h1, h2⟩ := h
    obtain ⟨its, rv, ht, _⟩ := I.tuple h1
    obtain ⟨u, y, ei, ru, ry⟩ := vals2 rv
    subst ei
    obtain rfl : u = Value.ref kv.2.1 := ru
    refine ⟨(kv.1, kv.2.1, y) :: us, .cons ⟨rfl, rfl, h2, ry⟩ r, by rw [List.length_cons, List.length_cons, hl], fun j q e => ?_⟩
    cases j with
    | zero =>
      have e' : (kv.1, kv.2.1, y) = q := Option.some.inj e
      subst e'
      exact ⟨p, rfl, .inl ht, key_of I.hok h2⟩
    | succ j =>
      obtain ⟨b, e1, e2⟩ := hp j q (by simpa using e)
      exact ⟨b, by simpa using e1, e2⟩
theorem call_dictT (hcalm : X.calm = true) (hu : X.A.units + 64 < cLine) : CallR X (.type "dict") (fun xs H Q => ∃ (a : Addr) (as : List Addr) (kvs : List (List Key × Addr × V)), xs = [.ref a] ∧ SqL X.K H a (as.map V.ref) ∧
    Paired (fun p kv => SqT X.K H p [V.ref kv.2.1, kv.2.2] ∧ H kv.2.1 = some (.tup (kv.1.map kV))) as kvs ∧ ∀ p, H p = none → Q (.ref p) (upd H p (.dT (mergeT [] (kvs.map fun x => (x.1, x.2.2)))))) := by
  intro pins s σ H xs us Q I r q
  obtain ⟨a, as, kvs, ex, hq, hp, q⟩ := q
  subst ex
  obtain ⟨u, eu, rx⟩ := vals1 r
  subst eu
  cases rx
  obtain ⟨its, rv, pl, hz⟩ := I.list hq
  have ei := refs_at rv
  subst ei
  rw [List.length_map] at hz
  obtain ⟨us, rel, hl, hpr⟩ := pairs_ofT I hp
  obtain ⟨o, n, ho, hc, hd, hdat⟩ := pl
  have hk : (kvs.map fun x => (x.1, x.2.2)).length = us.length := by rw [List.length_map]; exact Paired.length rel
  refine PySem.call_dict_pairsH (knd := tupleKind (mixKind X.prog X.w)) (ps := us) (PySem.PairArg.list a (as.map Value.ref).toArray (fun j => as[j]?.getD 0) (us.map fun x => (Value.ref x.2.1, x.2.2))) (I.ok.hd hcalm) ?_ ⟨⟨o, n, ho, hc, hd, hdat⟩, by simp [hl], fun j k v e => ?_⟩ ⟨by simp, fun i k v e => ?_⟩ ?_ (by simp; omega) fun h' tk hd' k => ?_
  · show X.A.units + 1 + 1 < cLine
    omega
  · rw [List.getElem?_map] at e
    cases e2 : us[j]? with
    | none => rw [e2] at e; cases e
    | some q' =>
      rw [e2] at e
      cases e
      obtain ⟨b, e3, e4, _⟩ := hpr j q' e2
      refine ⟨by simp [e3], ?_⟩
      show PySem.PairAt s.heap (as[j]?.getD 0) _ _
      rw [e3]
      exact e4
  · have e : (us.map fun x => (Value.ref x.2.1, x.2.2))[i]? = some (k, v) := e
    rw [List.getElem?_map] at e
    cases e2 : us[i]? with
    | none => rw [e2] at e; cases e
    | some q' =>
      rw [e2] at e
      cases e
      exact ⟨q'.1, q'.2.1, rfl, rfl⟩
  · intro h' hk' x hx
    obtain ⟨i, hi⟩ := List.mem_iff_getElem?.mp hx
    obtain ⟨b, e1, e2, e3⟩ := hpr i x hi
    obtain ⟨o', its', n', g1, g2, g3, g4⟩ := e3
    exact ⟨o', its', n', hk' _ _ (Nat.ne_of_lt (Heap.lt_size g1)) (fun z => nomatch z) g1, g2, g3, g4⟩
  · have hm : (s.heap.objs.size == sysModules) = false := beq_eq_false_iff_ne.mpr (Nat.ne_of_gt I.big)
    have hlen : (mergeT [] (kvs.map fun x => (x.1, x.2.2))).length ≤ sizeLine := by
      refine Nat.le_trans (length_mergeT _ _) ?_
      rw [List.length_nil, Nat.zero_add, hk, hl]
      exact hz
    have h0 := I.hok.fresh (Nat.le_refl s.heap.objs.size)
    obtain ⟨o', es, ep, g1, g2, g3, g4, _, g5⟩ := hd'
    have kt := KT.putAll (H := H) rel (acc := []) (av := []) .nil
    refine ⟨.ref s.heap.objs.size, upd H s.heap.objs.size (.dT (mergeT [] (kvs.map fun x => (x.1, x.2.2)))), I.laid (t' := tk) (fun b o e => k b o (fun z => nomatch z) e) (Nat.le_refl _)
      (show ObjOk X.prog X.w _ _ _ (.dT _) from ⟨hlen, hm, _, kt.keeps fun c ys ec => ?_, o', es, ep, g1, g2, g3, g4, g5⟩), rfl, q _ h0⟩
    rw [upd_ne (ne_of_none ec h0)]
    exact ec
end
section
variable {X : Cx}
theorem n_dict (hu : X.A.units + 65 < cLine) (hc : X.calm = true) : CallR X (.type "dict") (RN X.K gDictL) := fun pins s σ H xs us Q I r ⟨hp, μ, ds, vs, p, d, hp', rh, ex, hn, hl, rs, e, q⟩ => by
  unfold gDictL at e
  split at e
  · rename_i ps ep
    split at e
    · rename_i hk
      cases e
      subst ex
      have fin : ∀ (p' : Addr) (o : HO), H p' = none → (Ro X.K (upd H p' o) (μ ++ [p']) (.dic (putAll [] ps)) (some o)) → Q (.ref p') (upd H p' o) := fun p' o h0 ro => by
        have x4 := Ext.laid rh (o := o) h0
        have rh4 := rh.laid (o := o) h0
        refine q (.ref p') _ (μ ++ [p']) (x4.place h0) (rh4.place (rh.notIn h0) (by rw [upd_same]; exact ro)) ?_
        rw [Rp]
        refine ⟨p', ?_, rfl⟩
        rw [List.getElem?_append_right (by rw [rh.len]; exact Nat.le_refl _), rh.len]
        simp
      rcases Bool.or_eq_true _ _ ▸ hk with hk | hk
      · obtain ⟨as, kvs, rfl, hpr, rk⟩ := pairs_leaf ep hk rs
        refine call_dictP hc pins s σ H _ us Q I r ⟨p, as, kvs, rfl, .inl (.inl hl), hpr, fun p' h0 => fin p' _ h0 ?_⟩
        obtain ⟨nd, rk2⟩ := rk.putAll (acc := []) (av := []) True.intro (by rw [RpK])
        exact ⟨nd, .inl ⟨_, rfl, (rk2.mon (Ext.laid rh h0).m).mon Mon.grow⟩⟩
      · obtain ⟨as, kvs, rfl, hpr, rk⟩ := pairs_tup ep hk rs
        refine call_dictT hc (by omega) pins s σ H _ us Q I r ⟨p, as, kvs, rfl, .inl (.inl hl), hpr, fun p' h0 => fin p' _ h0 ?_⟩
        obtain ⟨nd, rk2⟩ := rk.putAll (acc := []) (av := []) True.intro (by rw [RpT])
        exact ⟨nd, .inr ⟨_, rfl, (rk2.mon (Ext.laid rh h0).m).mon Mon.grow⟩⟩
    · cases e
  · cases e
end
end Ve
namespace Ve
open PySem PySem.Spec L2
def mDict0 : AE := fun _ hp => some (.ref hp.length, hp ++ [.dic []])
section
variable {K : PySem.W.Frag} {H H' : Hp} {μ : List Addr} {hp : Hd}
theorem Mon.looseD {D : Addr} {u o : HO} (h : H D = some u) (n1 : ∀ xs, u ≠ .tup xs) (n2 : ∀ ob xs, u ≠ .frz ob xs) : Mon μ H μ (upd H D o) :=
  ⟨⟨[], by simp⟩, fun a ys e => by rw [upd_ne (fun z => by subst z; rw [h] at e; exact n1 _ (Option.some.inj e))]; exact e, fun a ob ys _ e => by rw [upd_ne (fun z => by subst z; rw [h] at e; exact n2 _ _ (Option.some.inj e))]; exact e⟩
theorem RelH.looseD (r : RelH K H μ hp) {D : Addr} {u o : HO} (h : H D = some u) (n1 : ∀ xs, u ≠ .tup xs) (n2 : ∀ ob xs, u ≠ .frz ob xs) (hn : D ∉ μ) : RelH K (upd H D o) μ hp :=
  ⟨r.len, r.nd, fun n ob a e1 e2 => by
    rw [upd_ne (fun z => hn (by rw [← z]; exact List.mem_of_getElem? e2))]
    exact (r.obj n ob a e1 e2).mon (Mon.looseD h n1 n2), r.tabs⟩
theorem Rp.last {p : Addr} (rh : RelH K H μ hp) : Rp K H' (μ ++ [p]) (.ref hp.length) (.ref p) := by
  rw [Rp]
  refine ⟨p, ?_, rfl⟩
  rw [List.getElem?_append_right (by rw [rh.len]; exact Nat.le_refl _), rh.len]
  simp
end
def mPairs : List (AE × AE) → Ls → Hd → Option (List (D × D) × Hd)
  | [], _, hp => some ([], hp)
  | (fk, fv) :: r, ls, hp => match fk ls hp with
    | some (k, hp1) => match fv ls hp1 with
      | some (v, hp2) => match mPairs r ls hp2 with
        | some (ps, hp3) => some ((k, v) :: ps, hp3)
        | none => none
      | none => none
    | none => none
def mDict (m : List (AE × AE)) : AE := fun ls hp => match mPairs m ls hp with
  | some (ps, hp1) => if (((ps.all fun p => (toKey p.1).isSome) || ps.all fun p => tupKey p.1) && decide (ps.length ≤ 15)) = true then some (.ref hp1.length, hp1 ++ [.dic (putAll [] ps)]) else none
  | none => none
def RpP (K : PySem.W.Frag) (H : Hp) (μ : List Addr) : List (D × D) → List (V × V) → Prop
  | [], vs => vs = []
  | p :: ps, vs => ∃ x y r, vs = (x, y) :: r ∧ Rp K H μ p.1 x ∧ Rp K H μ p.2 y ∧ RpP K H μ ps r
def trsOf (K : PySem.W.Frag) (m : List (AE × AE)) : List (TE × TE) := m.map fun p => (tD K p.1, tD K p.2)
theorem tPairs_of {K : PySem.W.Frag} {σ : L2.St} : ∀ {m : List (AE × AE)} {ls : Ls} {hp hp' : Hd} {H : Hp} {μ : List Addr} {ps : List (D × D)} {Q : List (V × V) → Hp → Prop}, Rl K H μ ls σ → RelH K H μ hp → mPairs m ls hp = some (ps, hp') →
    (∀ vs H' μ', Ext μ H μ' H' → RelH K H' μ' hp' → RpP K H' μ' ps vs → Q vs H') → tPairs (trsOf K m) σ H Q
  | [], ls, hp, hp', H, μ, ps, Q, rl, rh, e, q => by
    simp only [mPairs] at e
    cases e
    exact q [] H μ Ext.refl rh rfl
  | (fk, fv) :: m, ls, hp, hp', H, μ, ps, Q, rl, rh, e, q => by
    simp only [mPairs] at e
    split at e
    · rename_i k hp1 e1
      split at e
      · rename_i v hp2 e2
        split at e
        · rename_i ps' hp3 e3
          cases e
          refine ⟨ls, hp, μ, k, hp1, rl, rh, e1, fun x H1 μ1 x1 rh1 r1 => ⟨ls, hp1, μ1, v, hp2, rl.ext x1, rh1, e2, fun y H2 μ2 x2 rh2 r2 => ?_⟩⟩
          exact tPairs_of (m := m) ((rl.ext x1).ext x2) rh2 e3 fun vs H3 μ3 x3 rh3 r3 => q _ H3 μ3 ((x1.trans x2).trans x3) rh3 ⟨x, y, vs, rfl, (r1.ext x2).ext x3, r2.ext x3, r3⟩
        · cases e
      · cases e
    · cases e
def tDispT (trs : List (TE × TE)) : TE := fun σ H Q => ∀ p, H p = none → tPairs trs σ (upd H p (.dT [])) fun ps H2 => H2 p = some (.dT []) ∧ ∃ kvs : List (List Key × Addr × V), ps = kvs.map (fun x => (V.ref x.2.1, x.2.2)) ∧ (∀ x ∈ kvs, H2 x.2.1 = some (.tup (x.1.map kV))) ∧ kvs.length ≤ 15 ∧
  Q (.ref p) (upd H2 p (.dT (mergeT [] (kvs.map fun x => (x.1, x.2.2)))))
section
variable {X : Cx} {pins : List (Addr × Obj)} {σ : L2.St}
theorem storeAllT {A : Around} {E : Value → Shared → Prop} (hu : A.units < cLine) {p : Addr} : ∀ {kvs : List (List Key × Addr × V)} {ws : List (Value × Value)} {s : Shared} {H : Hp} {acc : List (List Key × V)} {Q : PUnit → Shared → Prop}, Inv X pins σ H s → H p = some (.dT acc) →
    VV (kvs.map fun x => (V.ref x.2.1, x.2.2)) ws → (∀ x ∈ kvs, H x.2.1 = some (.tup (x.1.map kV))) → acc.length + kvs.length ≤ sizeLine → (∀ s', Inv X pins σ (upd H p (.dT (mergeT acc (kvs.map fun x => (x.1, x.2.2))))) s' → Q PUnit.unit s') →
    wpAny (model X.prog X.w) A (storeAll p ws) Q E s
  | [], ws, s, H, acc, Q, I, hp, r, hk, hz, q => by
    cases r
    have e : upd H p (.dT (mergeT acc [])) = H := by
      funext b
      by_cases hb : b = p
      · rw [hb, upd_same, hp]
        rfl
      · rw [upd_ne hb]
    unfold storeAll
    refine wpAny_pure (q s ?_)
    rw [List.map_nil, e]
    exact I
  | x :: kvs, ws, s, H, acc, Q, I, hp, r, hk, hz, q => by
    rw [List.map_cons] at r
    cases r with
    | @cons _ b _ ws' h t =>
      obtain ⟨u1, u2⟩ := b
      obtain ⟨r1, r2⟩ := h
      obtain rfl : u1 = Value.ref x.2.1 := r1
      have eb := hk x List.mem_cons_self
      obtain ⟨z, hd, xs, rel, dd⟩ := dt_of I.hok hp
      have hz' : xs.length ≤ sizeLine := by rw [← Paired.length rel]; exact z
      have hlp := length_putK acc x.1 x.2.2
      rw [List.length_cons] at hz
      have hl : (putK acc x.1 x.2.2).length ≤ sizeLine := by omega
      unfold storeAll
      rw [List.forIn_cons]
      refine wpAny_bind (wpAny_bind (wpAny_dictSet_heap (hsz := hz') (knd := tupleKind (mixKind X.prog X.w)) hu (key_of I.hok eb) dd fun h' dd' hs => wpAny_pure ?_))
      obtain ⟨o, es, ep, ho, h2, h3, h4, _, h5⟩ := dd'
      have I2 : Inv X pins σ (upd H p (.dT (putK acc x.1 x.2.2))) { s with heap := h', toks := s.toks + (tupleKind (mixKind X.prog X.w)).draws x.1 } :=
        d_write I (by rw [hp]; exact True.intro) hs ⟨o, ho⟩ ⟨hl, hd, _, (rel.put x.1 eb r2).keeps fun c ys ec => by
          rw [upd_ne (ne_of ec hp (fun z => nomatch z))]
          exact ec, o, es, ep, ho, h2, h3, h4, h5⟩
      have ih := storeAllT (A := A) (E := E) hu (p := p) (kvs := kvs) (acc := putK acc x.1 x.2.2) (Q := Q) I2 upd_same t (fun y hy => by
        have ec := hk y (List.mem_cons_of_mem _ hy)
        rw [upd_ne (ne_of ec hp (fun z => nomatch z))]
        exact ec) (by omega) fun s' I3 => q s' (by
          have e : upd (upd H p (.dT (putK acc x.1 x.2.2))) p (.dT (mergeT (putK acc x.1 x.2.2) (kvs.map fun x => (x.1, x.2.2)))) = upd H p (.dT (mergeT acc ((x :: kvs).map fun x => (x.1, x.2.2)))) := by
            funext b
            by_cases hb : b = p
            · rw [hb, upd_same, upd_same]
              rfl
            · rw [upd_ne hb, upd_ne hb, upd_ne hb]
          rw [← e]
          exact I3)
      exact ih
theorem pe_dispT {pos : Pos} {keys : List (Option Expr)} {values : List Expr} {trs : List (TE × TE)} (h : PPs X pos keys values trs) (hu : X.A.units + 64 < cLine) (hall : keys.all (·.isSome) = true) (hl : keys.length = values.length) (h0 : keys ≠ [])
    (h15 : keys.length ≤ 15) : PE X (.Dict keys values pos) (tDispT trs) := by
  refine ⟨fun pins s σ H Q I q => ?_⟩
  have hn := I.hok.fresh (Nat.le_refl s.heap.objs.size)
  have I1 := I.laid (a := s.heap.objs.size) (o := .dT []) (h' := s.heap.push { cls := .type "dict", data := .dict #[] }) (t' := s.toks) (fun _ _ q => Heap.get?_push_of_some _ q) (Nat.le_refl _) (dt_empty s.heap I.big)
  refine wpAny_Dict_any hall hl h0 h15 (thn (h.run pins _ σ _ _ I1 (q _ hn)) fun ws s2 ⟨ps, H2, I2, rel, e, kvs, ep, hk, lk, q2⟩ => ?_)
  subst ep
  exact storeAllT (by omega) I2 e rel hk (by rw [List.length_nil, sizeLine_eq]; omega) fun s' I3 => ⟨.ref s.heap.objs.size, _, I3, rfl, q2⟩
abbrev DPs (X : Cx) (pos : Pos) (keys : List (Option Expr)) (values : List Expr) (m : List (AE × AE)) : Prop := PPs X pos keys values (trsOf X.K m)
theorem dp_nil {pos : Pos} : DPs X pos [] [] [] := pps_nil
theorem dp_cons {pos : Pos} {k v : Expr} {ks : List (Option Expr)} {vs : List Expr} {fk fv : AE} {m : List (AE × AE)} (hk : DE X k fk) (hv : DE X v fv) (hr : DPs X pos ks vs m) : DPs X pos (some k :: ks) (v :: vs) ((fk, fv) :: m) := pps_cons hk hv hr
theorem RpP.leaf {K : PySem.W.Frag} {H : Hp} {μ : List Addr} : ∀ {ps : List (D × D)} {vs : List (V × V)}, (ps.all fun p => (toKey p.1).isSome) = true → RpP K H μ ps vs → ∃ kvs : List (Key × V), vs = kvs.map (fun kv => (kV kv.1, kv.2)) ∧ RpK K H μ ps kvs
  | [], vs, _, r => by
    have r : vs = [] := r
    subst r
    exact ⟨[], rfl, by rw [RpK]⟩
  | p :: ps, vs, hk, r => by
    obtain ⟨x, y, rs, rfl, r1, r2, r3⟩ := r
    rw [List.all_cons, Bool.and_eq_true] at hk
    obtain ⟨kvs, rfl, rk⟩ := RpP.leaf hk.2 r3
    obtain ⟨k, ek⟩ := Option.isSome_iff_exists.mp hk.1
    have := r1.keyV ek
    subst this
    refine ⟨(k, y) :: kvs, rfl, ?_⟩
    rw [RpK]
    exact ⟨k, y, kvs, rfl, ek, r2, rk⟩
theorem RpP.tup {K : PySem.W.Frag} {H : Hp} {μ : List Addr} : ∀ {ps : List (D × D)} {vs : List (V × V)}, (ps.all fun p => tupKey p.1) = true → RpP K H μ ps vs →
    ∃ kvs : List (List Key × Addr × V), vs = kvs.map (fun x => (V.ref x.2.1, x.2.2)) ∧ (∀ x ∈ kvs, H x.2.1 = some (.tup (x.1.map kV))) ∧ RpT K H μ ps (kvs.map fun x => (x.1, x.2.2))
  | [], vs, _, r => by
    have r : vs = [] := r
    subst r
    exact ⟨[], rfl, (fun _ h => nomatch h), by rw [List.map_nil, RpT]⟩
  | p :: ps, vs, hk, r => by
    obtain ⟨x, y, rs, rfl, r1, r2, r3⟩ := r
    rw [List.all_cons, Bool.and_eq_true] at hk
    obtain ⟨kvs, rfl, hh, rk⟩ := RpP.tup hk.2 r3
    obtain ⟨hk1, _⟩ := hk
    obtain ⟨k, w⟩ := p
    dsimp only at hk1 r1 r2
    cases k <;> simp only [tupKey] at hk1 <;> try (cases hk1; done)
    rename_i ks
    obtain ⟨k', ek⟩ := Option.isSome_iff_exists.mp hk1
    obtain ⟨b, ws, rfl, tb, rb⟩ := r1.tupE
    have := rb.keysV ek
    subst this
    refine ⟨(k', b, y) :: kvs, rfl, fun x hx => ?_, ?_⟩
    · rcases List.mem_cons.mp hx with z | z
      · rw [z]
        exact tb
      · exact hh x z
    · rw [List.map_cons, RpT]
      exact ⟨ks, k', y, _, rfl, rfl, ek, r2, rk⟩
theorem RpP.len {K : PySem.W.Frag} {H : Hp} {μ : List Addr} : ∀ {ps : List (D × D)} {vs : List (V × V)}, RpP K H μ ps vs → vs.length = ps.length
  | [], vs, r => by
    have r : vs = [] := r
    rw [r]
    rfl
  | p :: ps, vs, r => by
    obtain ⟨x, y, rs, rfl, r1, r2, r3⟩ := r
    rw [List.length_cons, List.length_cons, RpP.len r3]
theorem de_dict {pos : Pos} {keys : List (Option Expr)} {values : List Expr} {m : List (AE × AE)} (hu : X.A.units + 64 < cLine) (h : DPs X pos keys values m) (hall : keys.all (·.isSome) = true := by rfl) (hl : keys.length = values.length := by rfl) (h0 : keys ≠ [] := by simp)
    (h15 : keys.length ≤ 15 := by decide) : DE X (.Dict keys values pos) (mDict m) :=
  PE.imp (PE.or (pe_disp h hall hl h0 h15) (pe_dispT h hu hall hl h0 h15)) fun σ H Q ⟨ls, hp, μ, d, hp', rl, rh, e, q⟩ => by
    unfold mDict at e
    split at e
    · rename_i ps hp1 e1
      split at e
      · rename_i hk
        cases e
        rw [Bool.and_eq_true] at hk
        have h15' : ps.length ≤ 15 := of_decide_eq_true hk.2
        rcases Bool.or_eq_true _ _ ▸ hk.1 with hk | hk
        · refine .inl fun p hp0 => ?_
          have x0 := Ext.laid rh (o := .dK []) hp0
          refine tPairs_of (rl.ext x0) (rh.laid hp0) e1 fun vs H2 μ2 x2 rh2 r2 => ?_
          have hH2 : H2 p = some (.dK []) := x2.keep _ _ (rh.notIn hp0) upd_same
          have hn2 : p ∉ μ2 := x2.new _ _ (rh.notIn hp0) upd_same
          obtain ⟨kvs, rfl, rk⟩ := r2.leaf hk
          refine ⟨hH2, kvs, rfl, by rw [← rk.len] at h15'; exact h15', ?_⟩
          obtain ⟨nd, rk2⟩ := rk.putAll (acc := []) (av := []) True.intro (by rw [RpK])
          have rh3 := rh2.looseD (o := .dK (mergeK [] kvs)) hH2 (fun _ z => nomatch z) (fun _ _ z => nomatch z) hn2
          exact q (.ref p) _ (μ2 ++ [p]) (((x0.trans x2).loose hp0).place hp0) (rh3.place hn2 (by rw [upd_same]; exact ⟨nd, .inl ⟨_, rfl, (rk2.mon (Mon.looseD hH2 (fun _ z => nomatch z) (fun _ _ z => nomatch z))).mon Mon.grow⟩⟩)) (Rp.last rh2)
        · refine .inr fun p hp0 => ?_
          have x0 := Ext.laid rh (o := .dT []) hp0
          refine tPairs_of (rl.ext x0) (rh.laid hp0) e1 fun vs H2 μ2 x2 rh2 r2 => ?_
          have hH2 : H2 p = some (.dT []) := x2.keep _ _ (rh.notIn hp0) upd_same
          have hn2 : p ∉ μ2 := x2.new _ _ (rh.notIn hp0) upd_same
          obtain ⟨kvs, rfl, hh, rk⟩ := r2.tup hk
          have hln := rk.len
          rw [List.length_map] at hln
          refine ⟨hH2, kvs, rfl, hh, by rw [hln]; exact h15', ?_⟩
          obtain ⟨nd, rk2⟩ := rk.putAll (acc := []) (av := []) True.intro (by rw [RpT])
          have rh3 := rh2.looseD (o := .dT (mergeT [] (kvs.map fun x => (x.1, x.2.2)))) hH2 (fun _ z => nomatch z) (fun _ _ z => nomatch z) hn2
          exact q (.ref p) _ (μ2 ++ [p]) (((x0.trans x2).loose hp0).place hp0) (rh3.place hn2 (by rw [upd_same]; exact ⟨nd, .inr ⟨_, rfl, (rk2.mon (Mon.looseD hH2 (fun _ z => nomatch z) (fun _ _ z => nomatch z))).mon Mon.grow⟩⟩)) (Rp.last rh2)
      · cases e
    · cases e
end
end Ve
namespace Ve
open PySem PySem.Spec L2
def unl (n : Nat) (hp : Hd) : Option Hd := match hp[n]? with
  | some (.dicL kvs) => some (hp.set n (.dic kvs))
  | _ => none
def mLock (fd : AE) (f : AA) : AA := fun ls hp => match fd ls hp with
  | some (.ref n, _) => match hp[n]? with
    | some (.dic kvs) => match f ls (hp.set n (.dicL kvs)) with
      | some (ds, hp1) => match unl n hp1 with
        | some hp2 => some (ds, hp2)
        | none => none
      | none => none
    | _ => none
  | _ => none
def mIK (f : AE) : AI := fun ls hp => match f ls hp with
  | some (.ref n, hp1) => match hp1[n]? with
    | some (.dicL kvs) => some (kvs.map (·.1), [], hp1)
    | _ => none
  | _ => none
section
variable {K : PySem.W.Frag} {H H' : Hp} {μ μ' : List Addr} {hp hp1 hp2 : Hd} {n : Nat} {a : Addr} {kvs : List (D × D)}
theorem lock_in (rh : RelH K H μ hp) (eh : hp[n]? = some (.dic kvs)) : ∃ a u, μ[n]? = some a ∧ H a = some u ∧ Mut (some u) ∧ (∀ xs, u ≠ .tup xs) ∧ (∀ ob w, u ≠ .frz ob w) ∧ ((∃ vs, u = .dK vs) ∨ ∃ vs, u = .dT vs) ∧
    ∀ od, RelH K (upd H a (.frz od u)) μ (hp.set n (.dicL kvs)) ∧ Ext μ H μ (upd H a (.frz od u)) := by
  obtain ⟨a, ea, q⟩ := rh.at_ eh
  obtain ⟨nd, ⟨vs, ev, r⟩ | ⟨vs, ev, r⟩⟩ := q
  · refine ⟨a, .dK vs, ea, ev, True.intro, (fun _ z => nomatch z), (fun _ _ z => nomatch z), .inl ⟨vs, rfl⟩, fun od => ?_⟩
    have mo : Mon μ H μ (upd H a (.frz od (.dK vs))) := Mon.looseD ev (fun _ z => nomatch z) (fun _ _ z => nomatch z)
    exact rh.put (o := .dicL kvs) ea ⟨nd, .inl ⟨_, _, rfl, r.mon mo⟩⟩
  · refine ⟨a, .dT vs, ea, ev, True.intro, (fun _ z => nomatch z), (fun _ _ z => nomatch z), .inr ⟨vs, rfl⟩, fun od => ?_⟩
    have mo : Mon μ H μ (upd H a (.frz od (.dT vs))) := Mon.looseD ev (fun _ z => nomatch z) (fun _ _ z => nomatch z)
    exact rh.put (o := .dicL kvs) ea ⟨nd, .inr ⟨_, _, rfl, r.mon mo⟩⟩
theorem lock_out {od : Obj} {u : HO} (ha : μ[n]? = some a) (e0 : H a = some u) (hn1 : ∀ xs, u ≠ .tup xs) (hn2 : ∀ ob w, u ≠ .frz ob w) (hkt : (∃ vs, u = .dK vs) ∨ ∃ vs, u = .dT vs) (x : Ext μ (upd H a (.frz od u)) μ' H') (rh : RelH K H' μ' hp1) (eu : unl n hp1 = some hp2) :
    H' a = some (.frz od u) ∧ RelH K (upd H' a u) μ' hp2 ∧ Mon μ' H' μ' (upd H' a u) ∧ Ext μ H μ' (upd H' a u) := by
  have ef : H' a = some (.frz od u) := x.scrs a od u upd_same
  have ea : μ'[n]? = some a := x.m.at_ ha
  have ham : a ∈ μ := List.mem_of_getElem? ha
  have mo : Mon μ' H' μ' (upd H' a u) := ⟨⟨[], by simp⟩, fun b ys e => by rw [upd_ne (fun z => by subst z; rw [ef] at e; cases e)]; exact e, fun b ob ys hy e => by
    rw [upd_ne (fun z => by
      subst z
      rw [ef] at e
      cases e
      rcases hkt with ⟨_, z⟩ | ⟨_, z⟩ <;> rcases hy with ⟨_, z2⟩ | ⟨_, z2⟩ | ⟨_, z2⟩ <;> (rw [z] at z2; cases z2))]
    exact e⟩
  refine ⟨ef, ?_, mo, ⟨x.pre, fun b o hb e => x.new b o hb (by rw [upd_ne (fun z => hb (by rw [z]; exact ham))]; exact e), fun b o hb e => ?_, fun b ys e => ?_, fun b ob w e => ?_⟩⟩
  · unfold unl at eu
    split at eu
    · rename_i kvs' eh
      cases eu
      refine ⟨by simp [rh.len], rh.nd, fun m ob b e1 e2 => ?_, fun m y b e1 e2 => ?_⟩
      rotate_left
      · by_cases hm : m = n
        · subst hm
          have hl : m < hp1.length := (List.getElem?_eq_some_iff.mp eh).1
          rw [List.getElem?_set_self hl] at e1
          cases e1
        · rw [List.getElem?_set_ne (Ne.symm hm)] at e1
          exact rh.tabs m y b e1 e2
      by_cases hm : m = n
      · subst hm
        rw [ea] at e2
        cases e2
        have hl : m < hp1.length := (List.getElem?_eq_some_iff.mp eh).1
        rw [List.getElem?_set_self hl] at e1
        cases e1
        rw [upd_same]
        obtain ⟨nd, ⟨o, vs, ev, r⟩ | ⟨o, vs, ev, r⟩⟩ := rh.obj m _ a eh ea
        · rw [ef] at ev
          cases ev
          exact ⟨nd, .inl ⟨vs, rfl, r.mon mo⟩⟩
        · rw [ef] at ev
          cases ev
          exact ⟨nd, .inr ⟨vs, rfl, r.mon mo⟩⟩
      · rw [List.getElem?_set_ne (Ne.symm hm)] at e1
        have hb : b ≠ a := fun z => by
          subst z
          obtain ⟨h1, h2⟩ := List.getElem?_eq_some_iff.mp ea
          obtain ⟨h3, h4⟩ := List.getElem?_eq_some_iff.mp e2
          exact hm ((List.getElem_inj rh.nd).mp (h4.trans h2.symm))
        rw [upd_ne hb]
        exact (rh.obj m ob b e1 e2).mon mo
    · cases eu
  · have hne : b ≠ a := fun z => hb (by rw [z]; exact ham)
    rw [upd_ne hne]
    exact x.keep b o hb (by rw [upd_ne hne]; exact e)
  · have hne : b ≠ a := fun z => by
      subst z
      rw [e0] at e
      exact hn1 _ (Option.some.inj e)
    rw [upd_ne hne]
    exact x.tups b ys (by rw [upd_ne hne]; exact e)
  · have hne : b ≠ a := fun z => by
      subst z
      rw [e0] at e
      exact hn2 _ _ (Option.some.inj e)
    rw [upd_ne hne]
    exact x.scrs b ob w (by rw [upd_ne hne]; exact e)
end
section
variable {X : Cx} {e a b tg : Expr} {es : List Expr} {fa fb fd : AE} {fl fm : AA} {fr : AA} {fs : AS} {pos : Pos} {st : Stmt}
theorem le_lock (h : LE X e fl) : LE X e (mLock fd fl) := PE.imp (pe_lock h) fun σ H Q ⟨ls, hp, μ, ds, hp', rl, rh, e, q⟩ => by
  unfold mLock at e
  split at e
  · rename_i n hp0 e0
    split at e
    · rename_i kvs eh
      split at e
      · rename_i ds' hp1 e1
        split at e
        · rename_i hp2 e2
          cases e
          obtain ⟨a, u, ea, ev, mu, n1, n2, kt, lk⟩ := lock_in rh eh
          refine ⟨a, u, ev, mu, fun od => ?_⟩
          obtain ⟨rh1, x1⟩ := lk od
          refine ⟨ls, _, μ, ds, hp1, rl.ext x1, rh1, e1, fun p vs H' μ' x2 rh2 h0 hn hl r2 => ?_⟩
          obtain ⟨o1, o2, o3, o4⟩ := lock_out ea ev n1 n2 kt x2 rh2 e2
          have hne : p ≠ a := fun z => by
            subst z
            rw [upd_same] at h0
            cases h0
          refine ⟨o1, q p vs _ μ' o4 o2 (by rw [upd_ne hne] at h0; exact h0) hn (by rw [upd_ne hne]; exact hl) (r2.mon o3)⟩
        · cases e
      · cases e
    · cases e
  · cases e
theorem di_keys (h : DE X e fa) : DI X tg e (mIK fa) := PI.imp (pi_keys h) fun σ H R ⟨ls, hp, μ, items, gd, hp', rl, rh, e, q⟩ => by
  unfold mIK at e
  split at e
  · rename_i n hp1 e1
    split at e
    · rename_i kvs eh
      cases e
      refine ⟨ls, hp, μ, _, hp', rl, rh, e1, fun v H1 μ1 x1 rh1 r1 => ?_⟩
      obtain ⟨a, ea, rfl⟩ := r1.refE
      obtain ⟨nd, ⟨o, vs, ev, rk⟩ | ⟨o, vs, ev, rk⟩⟩ := rh1.dicL ea eh
      · refine ⟨a, o, rfl, .inl ⟨vs, ev, q _ H1 μ1 x1 rh1 ?_⟩⟩
        intro i H2 μ2 hp2 x2 rh2 _
        have ev2 : H2 a = some (.frz o (.dK vs)) := x2.scrs _ _ _ ev
        refine ⟨fun hi => ⟨ev2, by rw [rk.len]; simpa using hi⟩, fun hi => ⟨⟨ev2, by rw [rk.len]; simpa using hi⟩, fun x H3 hy => ?_⟩⟩
        obtain ⟨rfl, k, w, e4, rfl⟩ := hy
        obtain ⟨p, e5, e6, _⟩ := rk.at_ e4
        exact ⟨p.1, by rw [List.getElem?_map, e5]; rfl, Ext.refl, rh2, Rp.ofKey e6⟩
      · refine ⟨a, o, rfl, .inr ⟨vs, ev, q _ H1 μ1 x1 rh1 ?_⟩⟩
        intro i H2 μ2 hp2 x2 rh2 _
        have ev2 : H2 a = some (.frz o (.dT vs)) := x2.scrs _ _ _ ev
        refine ⟨fun hi => ⟨ev2, by rw [rk.len]; simpa using hi⟩, fun hi => ⟨⟨ev2, by rw [rk.len]; simpa using hi⟩, fun x H3 hy => ?_⟩⟩
        obtain ⟨rfl, k, w, qa, e4, rfl, e7⟩ := hy
        obtain ⟨p, dks, e5, e6, e8, _⟩ := rk.at_ e4
        refine ⟨p.1, by rw [List.getElem?_map, e5]; rfl, Ext.refl, rh2, ?_⟩
        rw [e6]
        exact Rp.tup e7 (Rps.ofKeys e8)
    · cases e
  · cases e
end
end Ve
namespace Ve
open PySem PySem.Spec L2
def tupOf : D → Option (List D)
  | .tup ds => some ds
  | .wt ds => some ds
  | _ => none
theorem tupOf_some {K : PySem.W.Frag} {H : Hp} {μ : List Addr} {d : D} {ds : List D} {v : V} (h : tupOf d = some ds) (r : Rp K H μ d v) : ∃ a vs, v = .ref a ∧ (TpAt H a vs ∨ WtAt K H a vs) ∧ Rps K H μ ds vs := by
  cases d <;> simp only [tupOf] at h <;> try (cases h; done)
  · cases h
    obtain ⟨a, vs, e, t, rs⟩ := r.tupE
    exact ⟨a, vs, e, .inl t, rs⟩
  · cases h
    obtain ⟨a, vs, e, t, rs⟩ := r.wtE
    exact ⟨a, vs, e, .inr t, rs⟩
def zipD : List D → List D → List D
  | x :: xs, y :: ys => .tup [x, y] :: zipD xs ys
  | _, _ => []
theorem zipD_length : ∀ xs ys : List D, (zipD xs ys).length = min xs.length ys.length
  | [], _ => by simp [zipD]
  | _ :: _, [] => by simp [zipD]
  | x :: xs, y :: ys => by
    rw [zipD, List.length_cons, zipD_length xs ys, List.length_cons, List.length_cons]
    omega
theorem zipD_at : ∀ {xs ys : List D} {i : Nat} {x y : D}, xs[i]? = some x → ys[i]? = some y → (zipD xs ys)[i]? = some (.tup [x, y])
  | [], _, i, x, y, h, _ => by simp at h
  | _ :: _, [], i, x, y, _, h => by simp at h
  | a :: xs, b :: ys, 0, x, y, h1, h2 => by
    simp at h1 h2
    subst h1; subst h2
    rfl
  | a :: xs, b :: ys, i + 1, x, y, h1, h2 => by
    rw [zipD, List.getElem?_cons_succ]
    exact zipD_at (by simpa using h1) (by simpa using h2)
def mZip (fa fb : AE) : AI := fun ls hp => match fa ls hp with
  | some (x, hp1) => match fb ls hp1 with
    | some (y, hp2) => match tupOf x, tupOf y with
      | some xs, some ys => some (zipD xs ys, [], hp2)
      | _, _ => match x, y with
        | .ref n, .ref m => match hp2[n]?, hp2[m]? with
          | some (.lst xs), some (.lst ys) => some (zipD xs ys, [(n, xs), (m, ys)], hp2)
          | _, _ => none
        | _, _ => none
    | none => none
  | none => none
section
variable {X : Cx} {e a b tg : Expr} {es elts : List Expr} {fa fb fd : AE} {fl fm : AA} {fr : AA} {fs : AS} {pos tpos : Pos} {kk : Nat}
theorem gdOk_two {n m : Nat} {xs ys : List D} {hp : Hd} (h : gdOk [(n, xs), (m, ys)] hp = true) : hp[n]? = some (.lst xs) ∧ hp[m]? = some (.lst ys) := by
  have h1 : gdOk [(n, xs)] hp = true ∧ gdOk [(m, ys)] hp = true := by
    simp only [gdOk, Bool.and_eq_true, Bool.and_true] at h ⊢
    exact h
  exact ⟨gdOk_one h1.1, gdOk_one h1.2⟩
theorem di_zip {p : Pos} (hg : Gl X "zip") (hm : X.mg "zip" = none) (ha : DE X a fa) (hb : DE X b fb)
    (hs0 : starEach [b] X.env = (false, eval b X.env) :: starEach [] X.env := by rfl)
    (hs : starEach [a, b] X.env = (false, eval a X.env) :: starEach [b] X.env := by rfl) (hpl : (backTo pos (starEach [b] X.env)).any (·.1) = false := by rfl) :
    DI X (.Tuple elts kk tpos) (.Call (.Name "zip" p) [a, b] [] pos) (mZip fa fb) :=
  PI.imp (RZ.pi_zipA hg hm (pa_cons ha (pa_cons hb pa_nil hs0) hs) hs hpl) fun σ H R ⟨ls, hp, μ, items, gd, hp', rl, rh, e, q⟩ => by
    unfold mZip at e
    split at e
    · rename_i x hp1 e1
      split at e
      · rename_i y hp2 e2
        refine ⟨ls, hp, μ, x, hp1, rl, rh, e1, fun v1 H1 μ1 x1 rh1 r1 => ⟨ls, hp1, μ1, y, hp2, rl.ext x1, rh1, e2, fun v2 H2 μ2 x2 rh2 r2 => ?_⟩⟩
        have x12 := x1.trans x2
        split at e
        · rename_i xs ys e3 e4
          cases e
          obtain ⟨a, vs, rfl, ta, ra⟩ := tupOf_some e3 (r1.ext x2)
          obtain ⟨b, ws, rfl, tb, rb⟩ := tupOf_some e4 r2
          have qa : ∀ {H3 : Hp} {μ3 : List Addr}, Ext μ2 H2 μ3 H3 → SqT X.K H3 a vs := fun x3 => ta.elim (fun t => (t.ext x3).sq) fun t => (t.mon x3.m).sq
          have qb : ∀ {H3 : Hp} {μ3 : List Addr}, Ext μ2 H2 μ3 H3 → SqT X.K H3 b ws := fun x3 => tb.elim (fun t => (t.ext x3).sq) fun t => (t.mon x3.m).sq
          refine ⟨a, b, vs, ws, rfl, .inr ⟨qa Ext.refl, qb Ext.refl, q _ H2 μ2 x12 rh2 ?_⟩⟩
          intro i H3 μ3 hp3 x3 rh3 _
          have q3 := qa x3
          have q4 := qb x3
          have l1 := ra.len
          have l2 := rb.len
          rw [zipD_length]
          refine ⟨fun hi => ⟨vs, ws, q3, q4, by omega⟩, fun hi => ?_⟩
          obtain ⟨v, ev, rv⟩ := ra.get (List.getElem?_eq_getElem (show i < xs.length by omega))
          obtain ⟨w, ew, rw'⟩ := rb.get (List.getElem?_eq_getElem (show i < ys.length by omega))
          refine ⟨⟨vs, ws, v, w, q3, q4, ev, ew⟩, fun u H4 hy => ?_⟩
          obtain ⟨T, u1, u2, rfl, hT, rfl, h1, h2⟩ := hy
          have := h1 vs q3
          rw [ev] at this
          cases this
          have := h2 ws q4
          rw [ew] at this
          cases this
          have x4 := Ext.laid rh3 (o := .tup [v, w]) hT
          exact ⟨_, zipD_at (List.getElem?_eq_getElem (show i < xs.length by omega)) (List.getElem?_eq_getElem (show i < ys.length by omega)), x4, rh3.laid hT, Rp.tup upd_same (Rps.mk ((rv.ext x3).ext x4) (Rps.mk ((rw'.ext x3).ext x4) Rps.nil))⟩
        · split at e
          · rename_i n m
            split at e
            · rename_i xs ys e3 e4
              cases e
              obtain ⟨a, ea, rfl⟩ := (r1.ext x2).refE
              obtain ⟨b, eb, rfl⟩ := r2.refE
              obtain ⟨vs, ev, ra⟩ := rh2.lst ea e3
              obtain ⟨ws, ew, rb⟩ := rh2.lst eb e4
              refine ⟨a, b, vs, ws, rfl, .inl ⟨.inl (.inl ev), .inl (.inl ew), q _ H2 μ2 x12 rh2 ?_⟩⟩
              intro i H3 μ3 hp3 x3 rh3 hgd
              obtain ⟨g1, g2⟩ := gdOk_two hgd
              obtain ⟨vs, ev, ra⟩ := rh3.lst (x3.m.at_ ea) g1
              obtain ⟨ws, ew, rb⟩ := rh3.lst (x3.m.at_ eb) g2
              have q3 : SqL X.K H3 a vs := .inl (.inl ev)
              have q4 : SqL X.K H3 b ws := .inl (.inl ew)
              have l1 := ra.len
              have l2 := rb.len
              rw [zipD_length]
              refine ⟨fun hi => ⟨vs, ws, q3, q4, by omega⟩, fun hi => ?_⟩
              obtain ⟨v, ev', rv⟩ := ra.get (List.getElem?_eq_getElem (show i < xs.length by omega))
              obtain ⟨w, ew', rw'⟩ := rb.get (List.getElem?_eq_getElem (show i < ys.length by omega))
              refine ⟨⟨vs, ws, v, w, q3, q4, ev', ew'⟩, fun u H4 hy => ?_⟩
              obtain ⟨T, u1, u2, rfl, hT, rfl, h1, h2⟩ := hy
              have := h1 vs q3
              rw [ev'] at this
              cases this
              have := h2 ws q4
              rw [ew'] at this
              cases this
              have x4 := Ext.laid rh3 (o := .tup [v, w]) hT
              exact ⟨_, zipD_at (List.getElem?_eq_getElem (show i < xs.length by omega)) (List.getElem?_eq_getElem (show i < ys.length by omega)), x4, rh3.laid hT, Rp.tup upd_same (Rps.mk (rv.ext x4) (Rps.mk (rw'.ext x4) Rps.nil))⟩
            · cases e
          · cases e
      · cases e
    · cases e
def gRemove (x : D) (ds : List D) (hp : Hd) : Option (D × Hd) := match ds with
  | [y] => match pyF hp 16 y with
    | some d => onL x hp fun xs => match mapO (pyF hp 15) xs with
      | some ps => if (SeqAt.shaped d && SeqAt.shaped (.list ps)) = true then match SeqAt.dataPlace ps d with
        | some j => some (.non, xs.eraseIdx j)
        | none => none else none
      | none => none
    | none => none
  | _ => none
theorem t_remove (hu : X.A.units + 65 < cLine) : MtR X "list.remove" (RM X.K gRemove) := fun pins s σ H x xs v us Q I rx rxs ⟨hp, μ, dx, ds, d, hp', rh, r1, rs, e, q⟩ => by
  unfold gRemove at e
  split at e
  · rename_i y
    split at e
    · rename_i d' ed
      obtain ⟨n, ws, ys, rfl, e1, e2, rfl⟩ := onL_some e
      split at e2
      · rename_i ps ep
        split at e2
        · rename_i hs
          rw [Bool.and_eq_true] at hs
          split at e2
          · rename_i j ej
            cases e2
            obtain ⟨w, rfl, r2⟩ := rs.one
            obtain ⟨a, ea, rfl⟩ := r1.refE
            obtain ⟨vs, ev, r3⟩ := rh.lst ea e1
            have x0 : Mon μ H μ (upd H a (.lst (vs.eraseIdx j))) := Mon.loose ev
            obtain ⟨r4, x1⟩ := rh.put (o := .lst (ws.eraseIdx j)) (u := .lst (vs.eraseIdx j)) ea ⟨_, rfl, (r3.erase j).mon x0⟩
            cases rx
            obtain ⟨u, rfl, ru⟩ := rxs.one
            obtain ⟨z, its, n', rv, hl, eo⟩ := I.lstM ev
            obtain ⟨as, ra⟩ := Dp.readsAll I ps vs its (dpAll_of rh _ _ _ ep r3) rv
            obtain ⟨bs, rb⟩ := Dp.reads I d' w u (pyF_dp rh _ _ _ _ ed r2) ru
            have hroom : X.A.units + 1 + min (PyData.depthAll ps) d'.depth < cLine := PyProof.Rows.room_in_shaped hs.1 hu
            refine SeqAt.remove_list_data (vs := its.toArray) ⟨_, eo, rfl, n', rfl⟩ (by simpa using ra) rb (PyData.plainAll_of_canLay0 _ (SeqAt.canLay_of_shaped hs.2)) (PyData.plain_of_canLay0 _ (SeqAt.canLay_of_shaped hs.1)) hroom ej (by rw [List.size_toArray]; omega) ?_
            refine ⟨.non, _, I.lset (its' := its.eraseIdx j) (t' := s.toks) ev eo ?_ (rv.eraseIdx j) ?_, rfl, q _ _ μ x1 r4 Rp.non⟩
            · show its.toArray.eraseIdxIfInBounds j = (its.eraseIdx j).toArray
              rw [List.eraseIdxIfInBounds_toArray]
            · have := List.length_eraseIdx_le vs j
              omega
          · cases e2
        · cases e2
      · cases e2
    · cases e
  · cases e
def mExtO (fo fb : AE) : AE := fun ls hp => match fo ls hp with
  | some (x, hp1) => if isL x hp1 = true then match fb ls hp1 with
    | some (y, hp2) => match lstOf y hp2 with
      | some ds => onL x hp2 fun xs => if xs.length + ds.length ≤ sizeLine then some (.non, xs ++ ds) else none
      | none => none
    | none => none else none
  | none => none
def sPar3 (i j l : Nat) (f : AA) : AS := fun ls hp => match f ls hp with
  | some ([a, b, c], hp1) => some (.nx, ((ls.set i (some a)).set j (some b)).set l (some c), hp1)
  | _ => none
end
end Ve
namespace Ve
open PySem PySem.Spec L2
abbrev nr (d : D) : Bool := D.all (fun _ => false) d
abbrev nrs (ds : List D) : Bool := D.alls (fun _ => false) ds
abbrev nrO (o : O) : Bool := O.all (fun _ => false) o
mutual
theorem map_nr {f : Nat → Nat} : ∀ {d : D}, nr d = true → D.map f d = d
  | .non, _ => by rw [D.map]
  | .bl _, _ => by rw [D.map]
  | .int _, _ => by rw [D.map]
  | .str _, _ => by rw [D.map]
  | .scr _, _ => by rw [D.map]
  | .ref k, h => by simp [nr, D.all] at h
  | .tup ds, h => by
    simp only [nr, D.all] at h
    rw [D.map, maps_nr h]
  | .wt ds, h => by
    simp only [nr, D.all] at h
    rw [D.map, maps_nr h]
theorem maps_nr {f : Nat → Nat} : ∀ {ds : List D}, nrs ds = true → D.maps f ds = ds
  | [], _ => by rw [D.maps]
  | d :: ds, h => by
    simp only [nrs, D.alls, Bool.and_eq_true] at h
    rw [D.maps, map_nr h.1, maps_nr h.2]
end
mutual
theorem ren_nr {ρ : List Nat} : ∀ {d : D}, nr d = true → D.ren ρ d = d
  | .non, _ => by rw [D.ren]
  | .bl _, _ => by rw [D.ren]
  | .int _, _ => by rw [D.ren]
  | .str _, _ => by rw [D.ren]
  | .scr _, _ => by rw [D.ren]
  | .ref k, h => by simp [nr, D.all] at h
  | .tup ds, h => by
    simp only [nr, D.all] at h
    rw [D.ren, rens_nr h]
  | .wt ds, h => by
    simp only [nr, D.all] at h
    rw [D.ren, rens_nr h]
theorem rens_nr {ρ : List Nat} : ∀ {ds : List D}, nrs ds = true → D.rens ρ ds = ds
  | [], _ => by rw [D.rens]
  | d :: ds, h => by
    simp only [nrs, D.alls, Bool.and_eq_true] at h
    rw [D.rens, ren_nr h.1, rens_nr h.2]
end
mutual
theorem lt_nr {n : Nat} : ∀ {d : D}, nr d = true → D.lt n d = true
  | .non, _ => rfl
  | .bl _, _ => rfl
  | .int _, _ => rfl
  | .str _, _ => rfl
  | .scr _, _ => rfl
  | .ref k, h => by simp [nr, D.all] at h
  | .tup ds, h => by
    simp only [nr, D.all] at h
    rw [D.lt, lts_nr h]
  | .wt ds, h => by
    simp only [nr, D.all] at h
    rw [D.lt, lts_nr h]
theorem lts_nr {n : Nat} : ∀ {ds : List D}, nrs ds = true → D.lts n ds = true
  | [], _ => by rw [D.lts]
  | d :: ds, h => by
    simp only [nrs, D.alls, Bool.and_eq_true] at h
    rw [D.lts, lt_nr h.1, lts_nr h.2]
    rfl
end
mutual
theorem all_nr {p : Nat → Bool} : ∀ {d : D}, nr d = true → D.all p d = true
  | .non, _ => by rw [D.all]
  | .bl _, _ => by rw [D.all]
  | .int _, _ => by rw [D.all]
  | .str _, _ => by rw [D.all]
  | .scr _, _ => by rw [D.all]
  | .ref k, h => by simp [nr, D.all] at h
  | .tup ds, h => by
    simp only [nr, D.all] at h
    rw [D.all, alls_nr h]
  | .wt ds, h => by
    simp only [nr, D.all] at h
    rw [D.all, alls_nr h]
theorem alls_nr {p : Nat → Bool} : ∀ {ds : List D}, nrs ds = true → D.alls p ds = true
  | [], _ => by rw [D.alls]
  | d :: ds, h => by
    simp only [nrs, D.alls, Bool.and_eq_true] at h
    rw [D.alls, all_nr h.1, alls_nr h.2]
    rfl
end
theorem kv_nr {kvs : List (D × D)} (h : kvAll (fun _ => false) kvs = true) : (∀ f, kvMap f kvs = kvs) ∧ (∀ ρ, kvRen ρ kvs = kvs) ∧ (∀ n, kvLt n kvs = true) ∧ ∀ p, kvAll p kvs = true := by
  induction kvs with
  | nil => exact ⟨fun _ => rfl, fun _ => rfl, fun _ => rfl, fun _ => rfl⟩
  | cons x r ih =>
    rw [kvAll, Bool.and_eq_true, Bool.and_eq_true] at h
    obtain ⟨h1, h2, h3, h4⟩ := ih h.2
    obtain ⟨a, b⟩ := x
    exact ⟨fun f => by rw [kvMap, map_nr h.1.2, h1], fun ρ => by rw [kvRen, ren_nr h.1.2, h2], fun n => by rw [kvLt, lt_nr h.1.1, lt_nr h.1.2, h3]; rfl, fun p => by rw [kvAll, all_nr h.1.1, all_nr h.1.2, h4]; rfl⟩
theorem O_nr {o : O} (h : nrO o = true) : (∀ f, O.map f o = o) ∧ (∀ ρ, O.ren ρ o = o) ∧ (∀ n, O.lt n o = true) ∧ ∀ p, O.all p o = true := by
  cases o with
  | lst xs => exact ⟨fun f => by rw [O.map, maps_nr h], fun ρ => by rw [O.ren, rens_nr h], fun n => lts_nr h, fun p => alls_nr h⟩
  | dic kvs =>
    obtain ⟨h1, h2, h3, h4⟩ := kv_nr h
    exact ⟨fun f => by rw [O.map, h1], fun ρ => by rw [O.ren, h2], fun n => h3 n, fun p => h4 p⟩
  | dicN ks => exact ⟨fun f => rfl, fun ρ => rfl, fun n => lts_nr h, fun p => alls_nr h⟩
  | dicM ks => exact ⟨fun f => rfl, fun ρ => rfl, fun n => lts_nr h, fun p => alls_nr h⟩
  | ins c kvs =>
    obtain ⟨h1, h2, h3, h4⟩ := kv_nr h
    exact ⟨fun f => by rw [O.map, h1], fun ρ => by rw [O.ren, h2], fun n => h3 n, fun p => h4 p⟩
  | exc c => exact ⟨fun f => rfl, fun ρ => rfl, fun n => rfl, fun p => rfl⟩
  | tab c => exact ⟨fun f => rfl, fun ρ => rfl, fun n => rfl, fun p => rfl⟩
  | dicL kvs =>
    obtain ⟨h1, h2, h3, h4⟩ := kv_nr h
    exact ⟨fun f => by rw [O.map, h1], fun ρ => by rw [O.ren, h2], fun n => h3 n, fun p => h4 p⟩
def setAll (hp : Hd) : List Nat → List O → Hd
  | n :: σ, o :: os => setAll (hp.set n o) σ os
  | _, _ => hp
theorem setAll_len : ∀ (σ : List Nat) (os : List O) (hp : Hd), (setAll hp σ os).length = hp.length
  | [], _, hp => by simp [setAll]
  | _ :: _, [], hp => by simp [setAll]
  | n :: σ, o :: os, hp => by rw [setAll, setAll_len σ os, List.length_set]
theorem setAll_out : ∀ (σ : List Nat) (os : List O) (hp : Hd) (j : Nat), j ∉ σ → (setAll hp σ os)[j]? = hp[j]?
  | [], _, hp, j, _ => by simp [setAll]
  | _ :: _, [], hp, j, _ => by simp [setAll]
  | n :: σ, o :: os, hp, j, h => by
    rw [setAll, setAll_out σ os _ j (fun z => h (List.mem_cons_of_mem _ z)), List.getElem?_set_ne (fun z => h (by rw [z]; exact List.mem_cons_self))]
theorem setAll_at : ∀ (σ : List Nat) (os : List O) (hp : Hd) (i : Nat), σ.Nodup → os.length = σ.length → (∀ n ∈ σ, n < hp.length) → i < σ.length → (setAll hp σ os)[σ.getD i 0]? = os[i]?
  | [], _, hp, i, _, _, _, h => by simp at h
  | _ :: _, [], hp, i, _, h, _, _ => by simp at h
  | n :: σ, o :: os, hp, i, nd, hl, hb, hi => by
    rw [List.nodup_cons] at nd
    rw [setAll]
    cases i with
    | zero =>
      rw [show (n :: σ).getD 0 0 = n from rfl, setAll_out σ os _ n nd.1, List.getElem?_set_self (hb n List.mem_cons_self)]
      rfl
    | succ i =>
      rw [show (n :: σ).getD (i + 1) 0 = σ.getD i 0 from by simp [List.getD]]
      rw [setAll_at σ os _ i nd.2 (by simpa using hl) (fun k hk => by rw [List.length_set]; exact hb k (List.mem_cons_of_mem _ hk)) (by simpa using hi)]
      simp
def Flat (m : List D → Hd → Option (D × Hd)) (ds : List D) (hp : Hd) (d : D) (hp' : Hd) : Prop :=
  ∃ (σ : List Nat) (dsS : List D) (os os' : List O) (d2 : D) (g : Hd), m dsS os = some (d2, g) ∧ σ.Nodup ∧ os.length = σ.length ∧ os'.length = σ.length ∧ ds = D.rens σ dsS ∧ D.lts σ.length dsS = true ∧
    (∀ (i : Nat) (o : O), os[i]? = some o → nrO o = true ∧ hp[σ.getD i 0]? = some o) ∧ (∀ (i : Nat) (o : O), os'[i]? = some o → nrO o = true ∧ g[i]? = some o) ∧
    ((nr d2 = true ∧ d = d2 ∧ hp' = setAll hp σ os') ∨ ∃ k o, d2 = .ref k ∧ σ.length ≤ k ∧ g[k]? = some o ∧ nrO o = true ∧ d = .ref hp.length ∧ hp' = setAll hp σ os' ++ [o])
theorem Flat.run {m : List D → Hd → Option (D × Hd)} {ds : List D} {hp : Hd} {d : D} {hp' : Hd} (h : Flat m ds hp d hp') : ∃ σ κ dsS os d2 g f kp, Run m ds hp d hp' σ κ dsS os d2 g f kp := by
  obtain ⟨σ, dsS, os, os', d2, g, run, nd, len, len', args, argsLt, objs, objs', c⟩ := h
  have lt : ∀ i ∈ σ, i < hp.length := fun n hn => by
    obtain ⟨i, hi, e⟩ := List.mem_iff_getElem.mp hn
    obtain ⟨_, h2⟩ := objs i os[i] (List.getElem?_eq_getElem (by omega))
    have e2 : σ.getD i 0 = n := by simp [List.getD, hi, e]
    rw [e2] at h2
    exact (List.getElem?_eq_some_iff.mp h2).1
  rcases c with ⟨h1, rfl, rfl⟩ | ⟨k, o, rfl, hk, hg, ho, rfl, rfl⟩
  · refine ⟨σ, [], dsS, os, d, g, fun i => σ.getD i 0, fun _ => false, run, nd, lt, len, args, argsLt, fun i o e => ?_, List.nodup_nil, fun _ h => by simp at h, fun i _ => rfl, fun t k e => by simp at e, fun i h => by simp at h, ⟨h1, (map_nr h1).symm⟩, by simp [setAll_len], fun j _ hj => setAll_out σ os' hp j hj, fun i hi => ?_, fun t k e => by simp at e⟩
    · obtain ⟨a, b⟩ := objs i o e
      obtain ⟨_, a2, a3, _⟩ := O_nr a
      exact ⟨a3 _, by rw [a2]; exact b⟩
    · have hi' : i < os'.length := by omega
      obtain ⟨a, b⟩ := objs' i os'[i] (List.getElem?_eq_getElem hi')
      obtain ⟨a1, _, _, a4⟩ := O_nr a
      exact ⟨os'[i], b, a4 _, by rw [a1, setAll_at σ os' hp i nd len' lt hi, List.getElem?_eq_getElem hi']⟩
  · refine ⟨σ, [k], dsS, os, .ref k, g, fun i => if i < σ.length then σ.getD i 0 else hp.length, fun i => i == k, run, nd, lt, len, args, argsLt, fun i o e => ?_, by simp, fun j hj => ?_, fun i hi => by simp [hi], fun t j e => ?_, fun i hi => ?_, ⟨by simp [D.all], ?_⟩, by simp [setAll_len], fun j hj1 hj => ?_, fun i hi => ?_, fun t j e => ?_⟩
    · obtain ⟨a, b⟩ := objs i o e
      obtain ⟨_, a2, a3, _⟩ := O_nr a
      exact ⟨a3 _, by rw [a2]; exact b⟩
    · have : j = k := by simpa using hj
      subst this
      exact ⟨hk, (List.getElem?_eq_some_iff.mp hg).1⟩
    · cases t with
      | zero =>
        have : k = j := by simpa using e
        subst this
        have : ¬ k < σ.length := by omega
        simp [this]
      | succ t => simp at e
    · have : i = k := by simpa using hi
      exact .inr (by simp [this])
    · rw [D.map]
      have : ¬ k < σ.length := by omega
      simp [this]
    · rw [List.getElem?_append_left (by rw [setAll_len]; exact hj1), setAll_out σ os' hp j hj]
    · have hi' : i < os'.length := by omega
      obtain ⟨a, b⟩ := objs' i os'[i] (List.getElem?_eq_getElem hi')
      obtain ⟨a1, _, _, a4⟩ := O_nr a
      refine ⟨os'[i], b, a4 _, ?_⟩
      have hl : σ.getD i 0 < hp.length := lt _ (by simp [List.getD, hi])
      rw [a1, List.getElem?_append_left (by rw [setAll_len]; exact hl), setAll_at σ os' hp i nd len' lt hi, List.getElem?_eq_getElem hi']
    · cases t with
      | zero =>
        have : k = j := by simpa using e
        subst this
        obtain ⟨a1, _, _, a4⟩ := O_nr ho
        exact ⟨o, hg, a4 _, by rw [a1, List.getElem?_append_right (by rw [setAll_len]; omega), setAll_len]; simp⟩
      | succ t => simp at e
def cV (m : List D → Hd → Option (D × Hd)) (ds : List D) (hp : Hd) : Option (D × Hd) := if nrs ds = true then match m ds [] with
  | some (d, _) => if nr d = true then some (d, hp) else none
  | none => none else none
def cN (m : List D → Hd → Option (D × Hd)) (ds : List D) (hp : Hd) : Option (D × Hd) := if nrs ds = true then match m ds [] with
  | some (.ref k, g) => match g[k]? with
    | some o => if nrO o = true then some (.ref hp.length, hp ++ [o]) else none
    | none => none
  | _ => none else none
theorem cl_cV (m : List D → Hd → Option (D × Hd)) : Cl (cV m) m := fun ds hp d hp' h => by
  unfold cV at h
  split at h
  · rename_i hn
    split at h
    · rename_i d2 g e
      split at h
      · rename_i hd
        cases h
        exact Flat.run ⟨[], ds, [], [], d, g, e, List.nodup_nil, rfl, rfl, (rens_nr hn).symm, lts_nr hn, fun i o e => by simp at e, fun i o e => by simp at e, .inl ⟨hd, rfl, rfl⟩⟩
      · cases h
    · cases h
  · cases h
theorem cl_cN (m : List D → Hd → Option (D × Hd)) : Cl (cN m) m := fun ds hp d hp' h => by
  unfold cN at h
  split at h
  · rename_i hn
    split at h
    · rename_i k g e
      split at h
      · rename_i o eo
        split at h
        · rename_i ho
          cases h
          exact Flat.run ⟨[], ds, [], [], .ref k, g, e, List.nodup_nil, rfl, rfl, (rens_nr hn).symm, lts_nr hn, fun i o e => by simp at e, fun i o e => by simp at e, .inr ⟨k, o, rfl, Nat.zero_le _, eo, ho, rfl, rfl⟩⟩
        · cases h
      · cases h
    · cases h
  · cases h
theorem Flat.one {m : List D → Hd → Option (D × Hd)} {n : Nat} {ds : List D} {hp hp' : Hd} {d d2 : D} {o o' : O} {g : Hd} (run : m (.ref 0 :: ds) [o] = some (d2, g)) (hn : nrs ds = true) (ho : hp[n]? = some o) (fo : nrO o = true) (g0 : g[0]? = some o') (fo' : nrO o' = true)
    (c : (nr d2 = true ∧ d = d2 ∧ hp' = hp.set n o') ∨ ∃ k o2, d2 = .ref k ∧ 1 ≤ k ∧ g[k]? = some o2 ∧ nrO o2 = true ∧ d = .ref hp.length ∧ hp' = hp.set n o' ++ [o2]) : Flat m (.ref n :: ds) hp d hp' := by
  refine ⟨[n], .ref 0 :: ds, [o], [o'], d2, g, run, by simp, rfl, rfl, ?_, ?_, fun i x e => ?_, fun i x e => ?_, ?_⟩
  · rw [D.rens, D.ren, rens_nr hn]
    rfl
  · rw [D.lts, lts_nr hn]
    rfl
  · cases i with
    | zero =>
      have : o = x := by simpa using e
      subst this
      exact ⟨fo, ho⟩
    | succ i => simp at e
  · cases i with
    | zero =>
      have : o' = x := by simpa using e
      subst this
      exact ⟨fo', g0⟩
    | succ i => simp at e
  · rcases c with ⟨a, b, c⟩ | ⟨k, o2, a, b, c, e, f, g⟩
    · exact .inl ⟨a, b, by rw [c]; rfl⟩
    · exact .inr ⟨k, o2, a, b, c, e, f, by rw [g]; rfl⟩
theorem sFor_inv {t : Tg} {b : AS} (Inv : Nat → Ls → Hd → Prop) : ∀ (items : List D) (ls : Ls) (hp : Hd) (i : Nat), Inv i ls hp →
    (∀ (j : Nat) (x : D) ls hp, items[j]? = some x → Inv (i + j) ls hp → ∃ ls1 ls2 hp2, t.asg x ls = some ls1 ∧ (b ls1 hp = some (.nx, ls2, hp2) ∨ b ls1 hp = some (.ct, ls2, hp2)) ∧ Inv (i + j + 1) ls2 hp2) →
    ∃ ls' hp', sFor t [] b items ls hp = some (.nx, ls', hp') ∧ Inv (i + items.length) ls' hp'
  | [], ls, hp, i, h, _ => ⟨ls, hp, rfl, h⟩
  | x :: xs, ls, hp, i, h, step => by
    obtain ⟨ls1, ls2, hp2, e1, e2, h2⟩ := step 0 x ls hp rfl h
    obtain ⟨ls', hp', e3, h3⟩ := sFor_inv Inv xs ls2 hp2 (i + 1) h2 fun j y ls hp ej hj => by
      have := step (j + 1) y ls hp (by simpa using ej) (by rw [show i + (j + 1) = i + 1 + j by omega]; exact hj)
      rw [show i + (j + 1) + 1 = i + 1 + j + 1 by omega] at this
      exact this
    refine ⟨ls', hp', ?_, by rw [List.length_cons, show i + (xs.length + 1) = i + 1 + xs.length by omega]; exact h3⟩
    rcases e2 with e2 | e2 <;> simp only [sFor, gdOk, if_true, e1, e2, e3]
def c1V (m : List D → Hd → Option (D × Hd)) : List D → Hd → Option (D × Hd)
  | .ref n :: ds, hp => match hp[n]? with
    | some o => if (nrs ds && nrO o) = true then match m (.ref 0 :: ds) [o] with
      | some (d, o' :: _) => if (nr d && nrO o') = true then some (d, hp.set n o') else none
      | _ => none else none
    | none => none
  | _, _ => none
def c1N (m : List D → Hd → Option (D × Hd)) : List D → Hd → Option (D × Hd)
  | .ref n :: ds, hp => match hp[n]? with
    | some o => if (nrs ds && nrO o) = true then match m (.ref 0 :: ds) [o] with
      | some (.ref (k + 1), o' :: g) => match g[k]? with
        | some o2 => if (nrO o' && nrO o2) = true then some (.ref hp.length, hp.set n o' ++ [o2]) else none
        | none => none
      | _ => none else none
    | none => none
  | _, _ => none
theorem cl_c1V (m : List D → Hd → Option (D × Hd)) : Cl (c1V m) m := fun ds hp d hp' h => by
  unfold c1V at h
  split at h
  · split at h
    · rename_i o eo
      split at h
      · rename_i hn
        rw [Bool.and_eq_true] at hn
        split at h
        · rename_i d2 o' g e
          split at h
          · rename_i hd
            rw [Bool.and_eq_true] at hd
            cases h
            exact (Flat.one e hn.1 eo hn.2 rfl hd.2 (.inl ⟨hd.1, rfl, rfl⟩)).run
          · cases h
        · cases h
      · cases h
    · cases h
  · cases h
theorem cl_c1N (m : List D → Hd → Option (D × Hd)) : Cl (c1N m) m := fun ds hp d hp' h => by
  unfold c1N at h
  split at h
  · split at h
    · rename_i o eo
      split at h
      · rename_i hn
        rw [Bool.and_eq_true] at hn
        split at h
        · rename_i k o' g e
          split at h
          · rename_i o2 e2
            split at h
            · rename_i hd
              rw [Bool.and_eq_true] at hd
              cases h
              exact (Flat.one e hn.1 eo hn.2 rfl hd.1 (.inr ⟨k + 1, o2, rfl, Nat.le_add_left 1 k, e2, hd.2, rfl, rfl⟩)).run
            · cases h
          · cases h
        · cases h
      · cases h
    · cases h
  · cases h
section
variable {ls : Ls} {hp : Hd} {fa fb fc : AE} {ft fu : AT} {fr fl : AA} {f g : AS}
@[simp] theorem mVar_s {i : Nat} : mVar i ls hp = (match ls[i]? with
  | some (some d) => some (d, hp)
  | _ => none) := rfl
@[simp] theorem mC_s {d : D} : mC d ls hp = some (d, hp) := rfl
@[simp] theorem m2_s {g : D → D → Hd → Option (D × Hd)} : m2 fa fb g ls hp = (match fa ls hp with
  | some (a, hp1) => match fb ls hp1 with
    | some (b, hp2) => g a b hp2
    | none => none
  | none => none) := rfl
@[simp] theorem m1_s {g : D → Hd → Option (D × Hd)} : m1 fa g ls hp = (match fa ls hp with
  | some (a, hp1) => g a hp1
  | none => none) := rfl
@[simp] theorem mT_s : mT fa ls hp = (match fa ls hp with
  | some (.bl b, hp1) => some (b, hp1)
  | _ => none) := rfl
@[simp] theorem mNil_s : mNil ls hp = some ([], hp) := rfl
@[simp] theorem mCons_s : mCons fa fr ls hp = (match fa ls hp with
  | some (a, hp1) => match fr ls hp1 with
    | some (r, hp2) => some (a :: r, hp2)
    | none => none
  | none => none) := rfl
@[simp] theorem mAs_s {g : List D → Hd → Option (D × Hd)} : mAs fr g ls hp = (match fr ls hp with
  | some (a, hp1) => g a hp1
  | none => none) := rfl
@[simp] theorem ar_s {n : Nat} {g : List D → Hd → Option (D × Hd)} {ds : List D} : ar n g ds hp = if ds.length = n then g ds hp else none := rfl
@[simp] theorem mNew_s : mNew fl ls hp = (match fl ls hp with
  | some (ds, hp1) => some (.ref hp1.length, hp1 ++ [.lst ds])
  | none => none) := rfl
@[simp] theorem mTup_s : mTup fr ls hp = (match fr ls hp with
  | some (ds, hp1) => if ds.length ≤ sizeLine then some (.tup ds, hp1) else none
  | none => none) := rfl
@[simp] theorem mLst_s : mLst fr ls hp = (match fr ls hp with
  | some (ds, hp1) => if ds.length ≤ sizeLine then some (ds, hp1) else none
  | none => none) := rfl
@[simp] theorem sNext_s : sNext ls hp = some (.nx, ls, hp) := rfl
@[simp] theorem sSeq_s : sSeq f g ls hp = (match f ls hp with
  | some (.nx, ls1, hp1) => g ls1 hp1
  | r => r) := rfl
@[simp] theorem sDrop_s : sDrop fa ls hp = (match fa ls hp with
  | some (_, hp1) => some (.nx, ls, hp1)
  | none => none) := rfl
@[simp] theorem sRet_s : sRet fa ls hp = (match fa ls hp with
  | some (d, hp1) => some (.rt d, ls, hp1)
  | none => none) := rfl
@[simp] theorem sIf_s : sIf ft f g ls hp = (match ft ls hp with
  | some (true, hp1) => f ls hp1
  | some (false, hp1) => g ls hp1
  | none => none) := rfl
@[simp] theorem sSet_s {i : Nat} : sSet i fa ls hp = (match fa ls hp with
  | some (d, hp1) => some (.nx, ls.set i (some d), hp1)
  | none => none) := rfl
@[simp] theorem sAsg_s {t : Tg} : sAsg t fa ls hp = (match fa ls hp with
  | some (d, hp1) => match t.asg d ls with
    | some ls1 => some (.nx, ls1, hp1)
    | none => none
  | none => none) := rfl
@[simp] theorem sPar_s {i j : Nat} : sPar i j fr ls hp = (match fr ls hp with
  | some ([a, b], hp1) => some (.nx, (ls.set i (some a)).set j (some b), hp1)
  | _ => none) := rfl
@[simp] theorem sStore_s : sStore fa fb fc ls hp = (match fa ls hp with
  | some (v, hp1) => match fb ls hp1 with
    | some (x, hp2) => match fc ls hp2 with
      | some (y, hp3) => match gSet x y v hp3 with
        | some hp4 => some (.nx, ls, hp4)
        | none => none
      | none => none
    | none => none
  | none => none) := rfl
@[simp] theorem mDef_s {n : Nat} {ds : List D} : mDef n f ds hp = (match f (stD n ds) hp with
  | some (.rt d, _, hp') => some (d, hp')
  | some (.nx, _, hp') => some (.non, hp')
  | _ => none) := rfl
@[simp] theorem gI_s {c : Int → Int → Bool} {g : Int → Int → D} {i j : Int} : gI c g (.int i) (.int j) hp = if c i j then some (g i j, hp) else none := rfl
@[simp] theorem gAdd_int {i j : Int} : gAdd (.int i) (.int j) hp = some (.int (i + j), hp) := rfl
@[simp] theorem gSub_int {i j : Int} : gSub (.int i) (.int j) hp = some (.int (i - j), hp) := rfl
theorem gMul_int {i j : Int} (h : cMul i j = true) : gMul (.int i) (.int j) hp = some (.int (i * j), hp) := by simp [gMul, h]
theorem gDiv_int {i j : Int} (h : cDiv i j = true) : gDiv (.int i) (.int j) hp = some (.int (i / j), hp) := by simp [gDiv, h]
theorem gMod_int {i j : Int} (h : 0 < j) : gMod (.int i) (.int j) hp = some (.int (i % j), hp) := by simp [gMod, h]
@[simp] theorem gLt_int {i j : Int} : gLt (.int i) (.int j) hp = some (.bl (decide (i < j)), hp) := rfl
@[simp] theorem gLe_int {i j : Int} : gLe (.int i) (.int j) hp = some (.bl (decide (i ≤ j)), hp) := rfl
@[simp] theorem gGt_int {i j : Int} : gGt (.int i) (.int j) hp = some (.bl (decide (j < i)), hp) := rfl
@[simp] theorem gGe_int {i j : Int} : gGe (.int i) (.int j) hp = some (.bl (decide (j ≤ i)), hp) := rfl
@[simp] theorem gNeg_int {i : Int} : gNeg (.int i) hp = some (.int (-i), hp) := rfl
theorem cMul_of {i j : Int} (h : (-(2 ^ 64) < i ∧ i < 2 ^ 64) ∨ (-(2 ^ 64) < j ∧ j < 2 ^ 64)) : cMul i j = true := decide_eq_true (.inl h)
theorem cDiv_of {i j : Int} (h : 0 < j ∧ j < 1073741824) : cDiv i j = true := decide_eq_true ⟨h.1, .inl h.2⟩
@[simp] theorem gEq_int {i j : Int} : gEq (.int i) (.int j) hp = some (.bl (i == j), hp) := rfl
@[simp] theorem gNe_int {i j : Int} : gNe (.int i) (.int j) hp = some (.bl (!(i == j)), hp) := rfl
end
def T (a : List Int) : D := .tup (a.map D.int)
theorem mapO_int {hp : Hd} {n : Nat} : ∀ a : List Int, mapO (pyF hp (n + 1)) (a.map D.int) = some (a.map PyData.int)
  | [] => rfl
  | x :: r => by
    rw [List.map_cons, mapO, mapO_int r]
    rfl
theorem pyF_T {hp : Hd} {n : Nat} (a : List Int) : pyF hp (n + 2) (T a) = some (.tuple (a.map PyData.int)) := by
  show (mapO (pyF hp (n + 1)) (a.map D.int)).map PyData.tuple = _
  rw [mapO_int]
  rfl
theorem mapO_T {hp : Hd} {n : Nat} : ∀ bs : List (List Int), mapO (pyF hp (n + 2)) (bs.map T) = some (bs.map fun b => .tuple (b.map PyData.int))
  | [] => rfl
  | x :: r => by
    rw [List.map_cons, mapO, mapO_T r, pyF_T]
    rfl
theorem canInts : ∀ a : List Int, PyData.canLayAll0 (a.map PyData.int) = true
  | [] => rfl
  | x :: r => by
    rw [List.map_cons, PyData.canLayAll0, canInts r]
    rfl
theorem depInts : ∀ a : List Int, PyData.depthAll (a.map PyData.int) = 0
  | [] => rfl
  | x :: r => by
    rw [List.map_cons, PyData.depthAll, depInts r]
    rfl
theorem shaped_T (a : List Int) : SeqAt.shaped (.tuple (a.map PyData.int)) = true := by
  unfold SeqAt.shaped
  rw [PyData.canLay0, canInts, PyData.depth, depInts]
  rfl
theorem canTs : ∀ bs : List (List Int), PyData.canLayAll0 (bs.map fun b => .tuple (b.map PyData.int)) = true
  | [] => rfl
  | x :: r => by
    rw [List.map_cons, PyData.canLayAll0, PyData.canLay0, canInts, canTs r]
    rfl
theorem depTs : ∀ bs : List (List Int), PyData.depthAll (bs.map fun b => .tuple (b.map PyData.int)) ≤ 1
  | [] => Nat.zero_le _
  | x :: r => by
    rw [List.map_cons, PyData.depthAll, PyData.depth, depInts]
    have := depTs r
    omega
theorem shaped_Ts (bs : List (List Int)) : SeqAt.shaped (.list (bs.map fun b => .tuple (b.map PyData.int))) = true := by
  unfold SeqAt.shaped
  rw [PyData.canLay0, canTs, PyData.depth]
  have := depTs bs
  simp
  omega
theorem eqvInts : ∀ a b : List Int, PyData.eqvAll (a.map PyData.int) (b.map PyData.int) = (a == b)
  | [], [] => rfl
  | [], _ :: _ => rfl
  | _ :: _, [] => rfl
  | x :: r, y :: s => by
    rw [List.map_cons, List.map_cons, PyData.eqvAll, eqvInts r s]
    rfl
theorem eqv_T (a b : List Int) : PyData.eqv (.tuple (a.map PyData.int)) (.tuple (b.map PyData.int)) = (a == b) := by
  rw [PyData.eqv, eqvInts]
theorem inL_T {hp : Hd} (a : List Int) (bs : List (List Int)) : inL hp (T a) (bs.map T) = some (bs.any fun b => b == a) := by
  unfold inL
  rw [pyF_T (n := 14), mapO_T (n := 13)]
  dsimp only
  rw [shaped_T, shaped_Ts]
  simp only [Bool.and_self, if_true, List.any_map, Option.some.injEq]
  congr 1
  funext b
  exact eqv_T b a
theorem nr_T (a : List Int) : nr (T a) = true := by
  show D.alls _ (a.map D.int) = true
  induction a with
  | nil => rw [List.map_nil, D.alls]
  | cons x r ih => rw [List.map_cons, D.alls, ih]; rfl
theorem nrs_T : ∀ bs : List (List Int), nrs (bs.map T) = true
  | [] => rfl
  | x :: r => by
    show D.alls _ (T x :: r.map T) = true
    rw [D.alls, show D.all (fun _ => false) (T x) = true from nr_T x, show D.alls (fun _ => false) (r.map T) = true from nrs_T r]
    rfl
theorem lcGo_typed {α : Type} {t : Tg} {gd : Gd} {tt : AT} {te : AE} {ls0 : Ls} {hp : Hd} (φ : α → D) (hg : gdOk gd hp = true) (bf : α → Bool) (df : α → D) : ∀ (items : List α),
    (∀ x ∈ items, ∃ ls1, t.asg (φ x) ls0 = some ls1 ∧ tt ls1 hp = some (bf x, hp) ∧ (bf x = true → te ls1 hp = some (df x, hp))) → lcGo t gd tt te ls0 (items.map φ) hp = some ((items.filter bf).map df, hp)
  | [], _ => by simp [lcGo, hg]
  | x :: xs, h => by
    obtain ⟨ls1, e1, e2, e3⟩ := h x List.mem_cons_self
    have ih := lcGo_typed φ hg bf df xs fun y hy => h y (List.mem_cons_of_mem _ hy)
    cases hb : bf x with
    | true =>
      rw [hb] at e2
      simp only [List.map_cons, lcGo, hg, if_true, e1, e2, e3 hb, ih, List.filter_cons, hb, List.map_cons]
    | false =>
      rw [hb] at e2
      simp only [List.map_cons, lcGo, hg, if_true, e1, e2, ih, List.filter_cons, hb, Bool.false_eq_true, if_false]
theorem hget_new {hp : Hd} {o : O} : (hp ++ [o])[hp.length]? = some o := by simp
theorem hget_old {hp l : Hd} {n : Nat} {o : O} (h : hp[n]? = some o) : (hp ++ l)[n]? = some o := by
  rw [List.getElem?_append_left (List.getElem?_eq_some_iff.mp h).1]
  exact h
theorem hlt {hp : Hd} {n : Nat} {o : O} (h : hp[n]? = some o) : n < hp.length := (List.getElem?_eq_some_iff.mp h).1
theorem hset_same {hp : Hd} {n : Nat} {o o' : O} (h : hp[n]? = some o) : (hp.set n o')[n]? = some o' := List.getElem?_set_self (hlt h)
theorem hset_ne {hp : Hd} {n m : Nat} {o o' : O} (h : n ≠ m) (e : hp[m]? = some o) : (hp.set n o')[m]? = some o := by
  rw [List.getElem?_set_ne h]
  exact e
theorem mIS_ref {fa : AE} {ls : Ls} {hp hp' : Hd} {n : Nat} {xs : List D} (e : fa ls hp = some (.ref n, hp')) (h : hp'[n]? = some (.lst xs)) : mIS fa ls hp = some (xs, [(n, xs)], hp') := by
  unfold mIS
  rw [e]
  show (match (match hp'[n]? with
    | some (.lst xs) => some (xs, [(n, xs)])
    | _ => none) with
    | some (items, gd) => some (items, gd, hp')
    | none => none) = _
  rw [h]
theorem mIS_tup {fa : AE} {ls : Ls} {hp hp' : Hd} {xs : List D} (e : fa ls hp = some (.tup xs, hp')) : mIS fa ls hp = some (xs, [], hp') := by
  unfold mIS
  rw [e]
  rfl
theorem gdOk1 {hp : Hd} {n : Nat} {xs : List D} (h : hp[n]? = some (.lst xs)) : gdOk [(n, xs)] hp = true := by
  unfold gdOk gdOk
  rw [h]
  dsimp only
  rw [D.sames_self]
  rfl
theorem gIn_lst {hp : Hd} {n : Nat} {a : List Int} {bs : List (List Int)} (h : hp[n]? = some (.lst (bs.map T))) : gIn (T a) (.ref n) hp = some (.bl (bs.any fun b => b == a), hp) := by
  have e : inB (T a) (.ref n) hp = inL hp (T a) (bs.map T) := by
    show (match hp[n]? with
      | some (.lst ys) => inL hp (T a) ys
      | some o => match dicOf o with
        | some kvs => if dKind kvs (T a) = true then some (look kvs (T a)).isSome else none
        | none => none
      | none => none) = _
    rw [h]
  unfold gIn
  rw [e, inL_T]
theorem mLc_typed {α : Type} {fi : AI} {t : Tg} {own : List Nat} {tt : AT} {te : AE} {ls : Ls} {hp hp1 : Hd} {gd : Gd} (φ : α → D) (items : List α) (bf : α → Bool) (df : α → D) (ei : fi ls hp = some (items.map φ, gd, hp1)) (hl : items.length ≤ sizeLine) (hg : gdOk gd hp1 = true)
    (h : ∀ x ∈ items, ∃ ls1, t.asg (φ x) (wipeL ls own) = some ls1 ∧ tt ls1 hp1 = some (bf x, hp1) ∧ (bf x = true → te ls1 hp1 = some (df x, hp1))) : mLc fi t own tt te ls hp = some ((items.filter bf).map df, hp1) := by
  unfold mLc
  rw [ei]
  dsimp only
  rw [if_pos (by rw [List.length_map]; exact hl), lcGo_typed φ hg bf df items h]
theorem mL_of {fl : AA} {g : List D → Hd → Option (D × Hd)} {ls : Ls} {hp hp' : Hd} {ds : List D} (e : fl ls hp = some (ds, hp')) : mL fl g ls hp = g ds hp' := by
  unfold mL
  rw [e]
theorem m2_of {fa fb : AE} {g : D → D → Hd → Option (D × Hd)} {ls : Ls} {hp hp1 hp2 : Hd} {a b : D} (e1 : fa ls hp = some (a, hp1)) (e2 : fb ls hp1 = some (b, hp2)) : m2 fa fb g ls hp = g a b hp2 := by
  rw [m2_s, e1]
  dsimp only
  rw [e2]
theorem mT_of {fa : AE} {ls : Ls} {hp hp' : Hd} {b : Bool} (e : fa ls hp = some (.bl b, hp')) : mT fa ls hp = some (b, hp') := by
  rw [mT_s, e]
theorem sSeq_of {f g : AS} {ls ls1 : Ls} {hp hp1 : Hd} {r : Option (Fl × Ls × Hd)} (e : f ls hp = some (.nx, ls1, hp1)) (e2 : g ls1 hp1 = r) : sSeq f g ls hp = r := by
  rw [sSeq_s, e]
  exact e2
theorem sSet_of {i : Nat} {fa : AE} {ls : Ls} {hp hp1 : Hd} {d : D} (e : fa ls hp = some (d, hp1)) : sSet i fa ls hp = some (.nx, ls.set i (some d), hp1) := by
  rw [sSet_s, e]
theorem sIf_t {ft : AT} {f g : AS} {ls : Ls} {hp hp1 : Hd} {r : Option (Fl × Ls × Hd)} (e : ft ls hp = some (true, hp1)) (e2 : f ls hp1 = r) : sIf ft f g ls hp = r := by
  rw [sIf_s, e]
  exact e2
theorem sIf_f {ft : AT} {f g : AS} {ls : Ls} {hp hp1 : Hd} {r : Option (Fl × Ls × Hd)} (e : ft ls hp = some (false, hp1)) (e2 : g ls hp1 = r) : sIf ft f g ls hp = r := by
  rw [sIf_s, e]
  exact e2
theorem mNew_of {fl : AA} {ls : Ls} {hp hp' : Hd} {ds : List D} (e : fl ls hp = some (ds, hp')) : mNew fl ls hp = some (.ref hp'.length, hp' ++ [.lst ds]) := by
  rw [mNew_s, e]
theorem gLen_lst {hp : Hd} {n : Nat} {xs : List D} (h : hp[n]? = some (.lst xs)) : gLen [.ref n] hp = some (.int xs.length, hp) := by
  show (match hp[n]? with
    | some (.lst ds) => some (D.int ds.length, hp)
    | some (.dic ds) => some (D.int ds.length, hp)
    | _ => none) = _
  rw [h]
end Ve
namespace Ve
open PySem PySem.Spec L2
theorem ints_inj : ∀ {a b : List Int}, a.map D.int = b.map D.int → a = b
  | [], [], _ => rfl
  | [], _ :: _, h => by cases h
  | _ :: _, [], h => by cases h
  | x :: r, y :: s, h => by
    rw [List.map_cons, List.map_cons] at h
    injection h with h1 h2
    injection h1 with h1
    rw [h1, ints_inj h2]
theorem T_inj {a b : List Int} (h : T a = T b) : a = b := ints_inj (D.tup.inj h)
theorem toKeys_ints : ∀ a : List Int, toKeys (a.map D.int) = some (a.map Sum.inl)
  | [] => rfl
  | x :: r => by
    rw [List.map_cons, toKeys, toKeys_ints r]
    rfl
theorem same_T {a b : List Int} : (D.same (T a) (T b) = true) ↔ a = b := ⟨fun h => T_inj (same_iff.mp h), fun h => by rw [h]; exact D.same_self _⟩
def Cd (cs : List (List Int)) : List (D × D) := cs.map fun c => (T c, D.bl true)
def addC (cs : List (List Int)) (a : List Int) : List (List Int) := if a ∈ cs then cs else cs ++ [a]
theorem look_Cd : ∀ (cs : List (List Int)) (a : List Int), look (Cd cs) (T a) = if a ∈ cs then some (.bl true) else none
  | [], a => rfl
  | c :: cs, a => by
    show look ((T c, D.bl true) :: Cd cs) (T a) = _
    rw [look, look_Cd cs a]
    by_cases h : c = a
    · rw [if_pos (same_T.mpr h), if_pos (by rw [h]; exact List.mem_cons_self)]
    · rw [if_neg (fun z => h (same_T.mp z))]
      by_cases h2 : a ∈ cs
      · rw [if_pos h2, if_pos (List.mem_cons_of_mem _ h2)]
      · rw [if_neg h2, if_neg (fun z => by
          rcases List.mem_cons.mp z with z | z
          · exact h z.symm
          · exact h2 z)]
theorem dKind_Cd (cs : List (List Int)) (a : List Int) : dKind (Cd cs) (T a) = true := by
  show ((toKeys (a.map D.int)).isSome && _) = true
  rw [toKeys_ints]
  cases cs <;> rfl
theorem putD_Cd : ∀ (cs : List (List Int)) (a : List Int), putD (Cd cs) (T a) (.bl true) = Cd (addC cs a)
  | [], a => rfl
  | c :: cs, a => by
    show putD ((T c, D.bl true) :: Cd cs) (T a) (.bl true) = _
    rw [putD]
    by_cases h : c = a
    · rw [if_pos (same_T.mpr h)]
      subst h
      unfold addC
      rw [if_pos List.mem_cons_self]
      rfl
    · rw [if_neg (fun z => h (same_T.mp z)), putD_Cd cs a]
      unfold addC
      by_cases h2 : a ∈ cs
      · rw [if_pos h2, if_pos (List.mem_cons_of_mem _ h2)]
        rfl
      · rw [if_neg h2, if_neg (fun z => by
          rcases List.mem_cons.mp z with z | z
          · exact h z.symm
          · exact h2 z)]
        rfl
theorem inB_dic {hp : Hd} {n : Nat} {a : List Int} {cs : List (List Int)} (h : hp[n]? = some (.dic (Cd cs))) : inB (T a) (.ref n) hp = some (decide (a ∈ cs)) := by
  show (match hp[n]? with
      | some (.lst ys) => inL hp (T a) ys
      | some o => match dicOf o with
        | some kvs => if dKind kvs (T a) = true then some (look kvs (T a)).isSome else none
        | none => none
      | none => none) = _
  rw [h]
  show (if dKind (Cd cs) (T a) = true then some (look (Cd cs) (T a)).isSome else none) = _
  rw [if_pos (dKind_Cd cs a), look_Cd]
  by_cases h2 : a ∈ cs
  · rw [if_pos h2, decide_eq_true h2]
    rfl
  · rw [if_neg h2, decide_eq_false h2]
    rfl
theorem gIn_dic {hp : Hd} {n : Nat} {a : List Int} {cs : List (List Int)} (h : hp[n]? = some (.dic (Cd cs))) : gIn (T a) (.ref n) hp = some (.bl (decide (a ∈ cs)), hp) := by
  unfold gIn
  rw [inB_dic h]
theorem gNotIn_dic {hp : Hd} {n : Nat} {a : List Int} {cs : List (List Int)} (h : hp[n]? = some (.dic (Cd cs))) : gNotIn (T a) (.ref n) hp = some (.bl (!decide (a ∈ cs)), hp) := by
  unfold gNotIn
  rw [inB_dic h]
theorem gLen_dic {hp : Hd} {n : Nat} {cs : List (List Int)} (h : hp[n]? = some (.dic (Cd cs))) : gLen [.ref n] hp = some (.int cs.length, hp) := by
  show (match hp[n]? with
    | some (.lst ds) => some (D.int ds.length, hp)
    | some (.dic ds) => some (D.int ds.length, hp)
    | _ => none) = _
  rw [h]
  show some (D.int ((Cd cs).length : Nat), hp) = _
  unfold Cd
  rw [List.length_map]
theorem prs_Cd : ∀ cs : List (List Int), prs? (cs.map fun c => D.tup [T c, .bl true]) = some (Cd cs)
  | [] => rfl
  | c :: cs => by
    rw [List.map_cons, prs?, prs_Cd cs]
    rfl
theorem putAll_Cd : ∀ (cs acc : List (List Int)), cs.Nodup → (∀ c ∈ cs, c ∉ acc) → putAll (Cd acc) (Cd cs) = Cd (acc ++ cs)
  | [], acc, _, _ => by
    rw [List.append_nil]
    rfl
  | c :: cs, acc, nd, h => by
    rw [List.nodup_cons] at nd
    show putAll (putD (Cd acc) (T c) (.bl true)) (Cd cs) = _
    rw [putD_Cd]
    unfold addC
    rw [if_neg (h c List.mem_cons_self), putAll_Cd cs _ nd.2, List.append_assoc]
    · rfl
    · intro x hx z
      rcases List.mem_append.mp z with z | z
      · exact h x (List.mem_cons_of_mem _ hx) z
      · have : x = c := by simpa using z
        subst this
        exact nd.1 hx
theorem gDictL_Cd {hp : Hd} {cs : List (List Int)} (nd : cs.Nodup) : gDictL (cs.map fun c => D.tup [T c, .bl true]) hp = some (.ref hp.length, hp ++ [.dic (Cd cs)]) := by
  unfold gDictL
  rw [prs_Cd]
  dsimp only
  have hk : ((Cd cs).all fun p => tupKey p.1) = true := by
    unfold Cd
    rw [List.all_map, List.all_eq_true]
    intro c _
    show (toKeys (c.map D.int)).isSome = true
    rw [toKeys_ints]
    rfl
  rw [hk, Bool.or_true, if_pos rfl]
  have := putAll_Cd cs [] nd (fun _ _ h => nomatch h)
  rw [List.nil_append] at this
  show some (D.ref hp.length, hp ++ [O.dic (putAll (Cd []) (Cd cs))]) = _
  rw [this]
theorem lexLt_iff : ∀ a b : List Int, HT.lexLt a b = decide (a < b)
  | [], [] => by simp [HT.lexLt]
  | [], y :: s => by simp [HT.lexLt]
  | x :: r, [] => by simp [HT.lexLt]
  | x :: r, y :: s => by
    rw [HT.lexLt, lexLt_iff r s]
    by_cases h : x = y
    · rw [if_pos h]
      subst h
      simp [List.cons_lt_cons_iff]
    · rw [if_neg h]
      simp [List.cons_lt_cons_iff, h]
theorem ints_map (a : List Int) : ints? (a.map D.int) = some a := ints?_map a
theorem gLt_T {hp : Hd} (a b : List Int) : gLt (T a) (T b) hp = some (.bl (decide (a < b)), hp) := by
  show (match ints? (a.map D.int), ints? (b.map D.int) with
    | some ns, some ms => some (D.bl (HT.lexLt ns ms), hp)
    | _, _ => none) = _
  rw [ints_map, ints_map]
  dsimp only
  rw [lexLt_iff]
theorem encD_T {hp : Hd} (a : List Int) : encD hp (T a) = .tuple (a.map PyData.int) := by
  unfold encD
  rw [pyF_T (n := 13)]
  rfl
theorem dataLe_T {hp : Hd} (a b : List Int) : PySem.W.dataLe false (encD hp) (T a) (T b) = decide (a ≤ b) := by
  have h := congrFun (congrFun (PySem.W.dataLe_rows (fun x : List Int => x)) a) b
  rw [← h]
  rw [PySem.W.dataLe_eq, PySem.W.dataLe_eq]
  show (!PySem.W.dataLt (encD hp (T b)) (encD hp (T a))) = (!PySem.W.dataLt (.list (b.map PyData.int)) (.list (a.map PyData.int)))
  rw [encD_T, encD_T, PySem.W.dataLt_tuple, PySem.W.dataLt_list]
def sortC (cs : List (List Int)) : List (List Int) := cs.mergeSort fun a b => decide (a ≤ b)
theorem srt_T {hp : Hd} (cs : List (List Int)) : srt hp (cs.map T) = (sortC cs).map T := by
  unfold srt sortC
  rw [List.map_mergeSort]
  intro a _ b _
  exact (dataLe_T a b).symm
theorem sortC_perm (cs : List (List Int)) : (sortC cs).Perm cs := List.mergeSort_perm _ _
theorem sortC_sorted (cs : List (List Int)) : (sortC cs).Pairwise (· ≤ ·) := by
  have := List.pairwise_mergeSort (le := fun a b : List Int => decide (a ≤ b)) (fun a b c h1 h2 => by
    simp only [decide_eq_true_eq] at *
    exact List.le_trans h1 h2) (fun a b => by
    simp only [Bool.or_eq_true, decide_eq_true_eq]
    exact List.le_total a b) cs
  exact this.imp fun h => of_decide_eq_true h
theorem sortC_self {cs : List (List Int)} (h : cs.Pairwise (· ≤ ·)) : sortC cs = cs := List.mergeSort_of_pairwise (h.imp fun h => decide_eq_true h)
theorem srtOk_T {hp : Hd} {cs : List (List Int)} (h : ∀ c ∈ cs, c ≠ []) : srtOk hp (cs.map T) = true := by
  unfold srtOk
  rw [Bool.and_eq_true, Bool.and_eq_true, Bool.and_eq_true]
  refine ⟨?_, ?_, ?_, ?_⟩ <;> try rw [List.all_map, List.all_eq_true]
  · intro c _
    show (pyF hp 15 (T c)).isSome = true
    rw [pyF_T (n := 13)]
    rfl
  · intro c _
    show ((cs.map T).all fun b => PySem.W.alike (encD hp (T c)) (encD hp b)) = true
    rw [List.all_map, List.all_eq_true]
    intro b _
    show PySem.W.alike (encD hp (T c)) (encD hp (T b)) = true
    rw [encD_T, encD_T, PySem.W.alike, PySem.W.alike_ints]
  · rw [Bool.or_eq_true]
    refine .inl ?_
    rw [List.all_map, List.all_eq_true]
    intro c hc
    show isTupC (encD hp (T c)) = true
    rw [encD_T]
    cases c with
    | nil => exact absurd rfl (h _ hc)
    | cons x r => rfl
  · intro c _
    show decide ((encD hp (T c)).depth ≤ 40) = true
    rw [encD_T, PyData.depth, depInts]
    rfl
theorem gSrt_T {hp : Hd} {cs : List (List Int)} (h : ∀ c ∈ cs, c ≠ []) : gSrt (cs.map T) hp = some ((sortC cs).map T, hp) := by
  unfold gSrt
  rw [if_pos (srtOk_T h), srt_T]
theorem gSrtO_dic {hp : Hd} {n : Nat} {cs : List (List Int)} (e : hp[n]? = some (.dic (Cd cs))) (h : ∀ c ∈ cs, c ≠ []) : gSrtO (.ref n) hp = some ((sortC cs).map T, hp) := by
  have e1 : seqOfL (.ref n) hp = none := by
    show (match hp[n]? with
      | some (.lst xs) => some xs
      | _ => none) = _
    rw [e]
  have e2 : keysOf (.ref n) hp = some (cs.map T) := by
    show (match hp[n]? with
      | some (.dic kvs) => some (kvs.map fun p : D × D => p.1)
      | _ => none) = _
    rw [e]
    show some (List.map (fun p : D × D => p.1) (Cd cs)) = _
    unfold Cd
    rw [List.map_map]
    rfl
  unfold gSrtO
  rw [e1]
  dsimp only
  rw [e2]
  exact gSrt_T h
theorem cV_of {m : List D → Hd → Option (D × Hd)} {ds : List D} {hp g : Hd} {d : D} (hn : nrs ds = true) (e : m ds [] = some (d, g)) (hd : nr d = true) : cV m ds hp = some (d, hp) := by
  unfold cV
  rw [if_pos hn, e]
  dsimp only
  rw [if_pos hd]
theorem nr_tTs (bs : List (List Int)) : nr (.tup (bs.map T)) = true := nrs_T bs
theorem nrs_cons {d : D} {ds : List D} (h1 : nr d = true) (h2 : nrs ds = true) : nrs (d :: ds) = true := by
  show D.alls _ (d :: ds) = true
  rw [D.alls, show D.all (fun _ => false) d = true from h1, show D.alls (fun _ => false) ds = true from h2]
  rfl
theorem call1_of {fa : AE} {g : List D → Hd → Option (D × Hd)} {ls : Ls} {hp hp1 : Hd} {a : D} (e : fa ls hp = some (a, hp1)) : mAs (mCons fa mNil) (ar 1 g) ls hp = g [a] hp1 := by
  rw [mAs_s, mCons_s, e]
  rfl
theorem call2_of {fa fb : AE} {g : List D → Hd → Option (D × Hd)} {ls : Ls} {hp hp1 hp2 : Hd} {a b : D} (e : fa ls hp = some (a, hp1)) (e2 : fb ls hp1 = some (b, hp2)) : mAs (mCons fa (mCons fb mNil)) (ar 2 g) ls hp = g [a, b] hp2 := by
  rw [mAs_s, mCons_s, e]
  dsimp only
  rw [mCons_s, e2]
  rfl
end Ve
namespace Ve
open PySem PySem.Spec L2 PySem.AutoSeq1
end Ve
namespace Ve
open PySem PySem.Spec L2
def gTupV : List D → Hd → Option (D × Hd)
  | [.tup ds], hp => some (.tup ds, hp)
  | [.wt ds], hp => some (.wt ds, hp)
  | [d], hp => match seqOfL d hp with
    | some ds => some (.tup ds, hp)
    | none => none
  | _, _ => none
section
variable {X : Cx}
theorem c_tuple : CallR X (.type "tuple") (RDs X.K gTupV) := fun pins s σ H xs us Q I r ⟨hp, μ, ds, d, hp', rh, rs, e, q⟩ => by
  unfold gTupV at e
  split at e
  · cases e
    obtain ⟨v, rfl, r1⟩ := rs.one
    obtain ⟨a, vs, rfl, t, r2⟩ := r1.tupE
    exact call_tuple_of pins s σ H _ us Q I r ⟨a, vs, rfl, .inr ⟨t.sq, q _ H μ Ext.refl rh (Rp.tup' t r2)⟩⟩
  · cases e
    obtain ⟨v, rfl, r1⟩ := rs.one
    have r1' := r1
    obtain ⟨a, vs, rfl, t, r2⟩ := r1.wtE
    exact call_tuple_of pins s σ H _ us Q I r ⟨a, vs, rfl, .inr ⟨t.sq, q _ H μ Ext.refl rh r1'⟩⟩
  · split at e
    · rename_i ds' e1
      cases e
      obtain ⟨v, rfl, r1⟩ := rs.one
      obtain ⟨a, vs, rfl, hq, r2⟩ := seqOfL_some rh r1 e1
      refine call_tuple_of pins s σ H _ us Q I r ⟨a, vs, rfl, .inl ⟨hq, fun l h0 => ?_⟩⟩
      have x2 := Ext.laid rh (o := .tup vs) h0
      exact q _ _ μ x2 (rh.laid h0) (Rp.tup upd_same (r2.ext x2))
    · cases e
  · cases e
end
end Ve
namespace Ve
open PySem PySem.Spec L2
def gListO (d : D) (hp : Hd) : Option (List D × Hd) := match tupOf d with
  | some ds => some (ds, hp)
  | none => match seqOfL d hp with
    | some ds => some (ds, hp)
    | none => match keysOf d hp with
      | some ds => some (ds, hp)
      | none => none
section
variable {X : Cx} {e a b : Expr} {fa fb : AE} {fr : AA} {pos p2 : Pos}
def mList (fa : AE) : AA := fun ls hp => match fa ls hp with
  | some (d, hp1) => gListO d hp1
  | none => none
end
end Ve
namespace Ve
open PySem PySem.Spec L2
abbrev TgM := D → Ls → Hd → Option (Ls × Hd)
def tNm (i : Nat) : TgM := fun d ls hp => some (ls.set i (some d), hp)
def tSub (fo fi : AE) : TgM := fun d ls hp => match fo ls hp with
  | some (x, hp1) => match fi ls hp1 with
    | some (y, hp2) => match gSet x y d hp2 with
      | some hp3 => some (ls, hp3)
      | none => none
    | none => none
  | none => none
def tTps : List TgM → List D → Ls → Hd → Option (Ls × Hd)
  | [], [], ls, hp => some (ls, hp)
  | t :: ts, d :: ds, ls, hp => match t d ls hp with
    | some (ls1, hp1) => tTps ts ds ls1 hp1
    | none => none
  | _, _, _, _ => none
def tTp (ts : List TgM) : TgM := fun d ls hp => match tupOf d with
  | some ds => tTps ts ds ls hp
  | none => none
section
variable {X : Cx} {e a b : Expr} {es : List Expr} {fa fb fo fi : AE} {fr : AA} {pos p2 : Pos} {t : TgM} {ts : List TgM}
def sAsgM (t : TgM) (f : AE) : AS := fun ls hp => match f ls hp with
  | some (d, hp1) => match t d ls hp1 with
    | some (ls1, hp2) => some (.nx, ls1, hp2)
    | none => none
  | none => none
end
def notNon : PyData → Bool
  | .none => false
  | _ => true
theorem notNon_ne {p : PyData} (h : notNon p = true) : p ≠ .none := fun e => by subst e; cases h
end Ve
namespace Ve
open PySem PySem.Spec L2
end Ve
namespace Ve
open PySem PySem.Spec L2
mutual
def plainD : D → Bool
  | .non => true
  | .bl _ => true
  | .int _ => true
  | .str _ => true
  | .tup ds => plainDs ds
  | _ => false
def plainDs : List D → Bool
  | [] => true
  | d :: ds => plainD d && plainDs ds
end
mutual
def decD : PyData → Option D
  | .none => some .non
  | .bool b => some (.bl b)
  | .int i => some (.int i)
  | .str x => some (.str x)
  | .tuple xs => (decDs xs).map .tup
  | _ => none
def decDs : List PyData → Option (List D)
  | [] => some []
  | x :: xs => match decD x, decDs xs with
    | some d, some ds => some (d :: ds)
    | _, _ => none
end
theorem dec_mapO {hp : Hd} {n : Nat} (ih : ∀ d p, plainD d = true → pyF hp n d = some p → decD p = some d) : ∀ (ds : List D) (ps : List PyData), plainDs ds = true → mapO (pyF hp n) ds = some ps → decDs ps = some ds
  | [], ps, _, e => by
    rw [mapO] at e
    cases e
    rw [decDs]
  | d :: ds, ps, h, e => by
    rw [plainDs, Bool.and_eq_true] at h
    rw [mapO] at e
    split at e
    · rename_i y ys e1 e2
      cases e
      rw [decDs, ih d y h.1 e1, dec_mapO ih ds ys h.2 e2]
    · cases e
theorem dec_enc {hp : Hd} : ∀ (n : Nat) (d : D) (p : PyData), plainD d = true → pyF hp n d = some p → decD p = some d
  | 0, _, _, _, e => by simp [pyF] at e
  | n + 1, d, p, h, e => by
    cases d <;> simp only [pyF] at e <;> try (simp [plainD] at h; done)
    · cases e; rw [decD]
    · cases e; rw [decD]
    · cases e; rw [decD]
    · cases e; rw [decD]
    · rename_i ds
      rw [plainD] at h
      cases e1 : mapO (pyF hp n) ds with
      | none => rw [e1] at e; cases e
      | some ps =>
        rw [e1] at e
        cases e
        rw [decD, dec_mapO (fun d p => dec_enc n d p) ds ps h e1]
        rfl
def alikeB (ps : List PyData) : Bool := (ps.all fun x => ps.all fun y => PySem.W.alike x y) && ps.all notNon
theorem alikeB_all {ps : List PyData} (h : alikeB ps = true) : PySem.W.AlikeAll ps := by
  unfold alikeB at h
  rw [Bool.and_eq_true, List.all_eq_true, List.all_eq_true] at h
  exact ⟨fun x hx y hy => List.all_eq_true.mp (h.1 x hx) y hy, fun x hx => notNon_ne (h.2 x hx)⟩
def bestD (mx : Bool) (ds : List D) (hp : Hd) : Option D := match mapO (pyF hp 15) ds with
  | some (p :: ps) => if (plainDs ds && (alikeB (p :: ps) && decide (PyData.depthAll (p :: ps) ≤ 40))) = true then decD (if mx = true then PySem.W.maxD p ps else PySem.W.minD p ps) else none
  | _ => none
theorem bestD_some {mx : Bool} {ds : List D} {hp : Hd} {d : D} (h : bestD mx ds hp = some d) : ∃ p ps, mapO (pyF hp 15) ds = some (p :: ps) ∧ plainDs ds = true ∧ PySem.W.AlikeAll (p :: ps) ∧ PyData.depthAll (p :: ps) ≤ 40 ∧ decD (if mx = true then PySem.W.maxD p ps else PySem.W.minD p ps) = some d := by
  unfold bestD at h
  split at h
  · rename_i p ps e
    split at h
    · rename_i hc
      rw [Bool.and_eq_true, Bool.and_eq_true] at hc
      exact ⟨p, ps, e, hc.1, alikeB_all hc.2.1, of_decide_eq_true hc.2.2, h⟩
    · cases h
  · cases h
theorem plainDs_at : ∀ {ds : List D} {i : Nat} {d : D}, plainDs ds = true → ds[i]? = some d → plainD d = true
  | [], _, _, _, e => by simp at e
  | x :: xs, 0, d, h, e => by
    rw [plainDs, Bool.and_eq_true] at h
    simp at e
    rw [← e]
    exact h.1
  | x :: xs, i + 1, d, h, e => by
    rw [plainDs, Bool.and_eq_true] at h
    exact plainDs_at h.2 (by simpa using e)
theorem mapO_at {α β : Type} {f : α → Option β} : ∀ {xs : List α} {ys : List β} {i : Nat} {x : α}, mapO f xs = some ys → xs[i]? = some x → ∃ y, f x = some y
  | [], _, _, _, _, e => by simp at e
  | a :: xs, ys, i, x, h, e => by
    rw [mapO] at h
    split at h
    · rename_i y ys' e1 e2
      cases i with
      | zero =>
        simp at e
        exact ⟨y, by rw [← e]; exact e1⟩
      | succ i => exact mapO_at e2 (by simpa using e)
    · cases h
section
variable {X : Cx} {pins : List (Addr × Obj)} {σ : L2.St} {H : Hp} {s : Shared} {μ : List Addr} {hp : Hd}
theorem best_item (I : Inv X pins σ H s) (rh : RelH X.K H μ hp) {ds : List D} {vs : List V} {us : List Value} {qs : List PyData} (rs : Rps X.K H μ ds vs) (rv : Vals vs us) (em : mapO (pyF hp 15) ds = some qs) (pl : plainDs ds = true) {i : Nat} {v : Value} (hv : us[i]? = some v) {h' : Heap} {p : PyData} {bs : List Addr} (hr : Reads h' v p bs)
    (hk : ∀ b o, s.heap.get? b = some o → h'.get? b = some o) {d : D} (hd : decD p = some d) : ∃ x, RelV x v ∧ Rp X.K H μ d x := by
  have hi := (List.getElem?_eq_some_iff.mp hv).1
  have hlen := rv.length
  have hl2 := rs.len
  have ed : ds[i]? = some ds[i] := List.getElem?_eq_getElem (by omega)
  obtain ⟨x, ex, rx⟩ := rs.get ed
  obtain ⟨u, eu, ru⟩ := rv.get ex
  rw [hv] at eu
  cases eu
  obtain ⟨q, eq⟩ := mapO_at em ed
  obtain ⟨as, ra⟩ := Dp.reads I q _ _ (pyF_dp rh 15 _ q _ eq rx) ru
  have := (Reads.unique (PyProof.Rows.Reads.keeps hk ra) _ _ hr).1
  subst this
  rw [dec_enc 15 _ _ (plainDs_at pl ed) eq] at hd
  cases hd
  exact ⟨x, ru, rx⟩
theorem best_list (hc : X.calm = true) (hu : X.A.units + 64 < cLine) (mx : Bool) (I : Inv X pins σ H s) (rh : RelH X.K H μ hp) {ds : List D} {vs : List V} {a : Addr} (hq : SqL X.K H a vs) (rs : Rps X.K H μ ds vs) {d : D} (e : bestD mx ds hp = some d) {Q : VK} (q : ∀ v, Rp X.K H μ d v → Q v H) :
    wpAny (model X.prog X.w) X.A (call (.builtin (if mx = true then "max" else "min")) [.ref a]) (EP X pins σ Q) X.xe s := by
  obtain ⟨p, ps, em, pl, ha, hdp, hd⟩ := bestD_some e
  obtain ⟨its, rv, ht, hz⟩ := I.list hq
  obtain ⟨as, ra⟩ := Dp.readsAll I (p :: ps) vs its (dpAll_of rh ds (p :: ps) vs em rs) rv
  cases mx with
  | true =>
    refine PySem.W.max_list_data (I.ok.hd hc) ht.isList (by simpa using ra) ha (by omega) fun i v h' tk bs hv hr hk => ?_
    obtain ⟨x, rx, rd⟩ := best_item I rh rs rv em pl (by simpa using hv) hr hk hd
    exact ⟨x, H, I.kept hk, rx, q x rd⟩
  | false =>
    refine PySem.W.min_list_data (I.ok.hd hc) ht.isList (by simpa using ra) ha (by omega) fun i v h' tk bs hv hr hk => ?_
    obtain ⟨x, rx, rd⟩ := best_item I rh rs rv em pl (by simpa using hv) hr hk hd
    exact ⟨x, H, I.kept hk, rx, q x rd⟩
end
def gBestL (mx : Bool) (ds : List D) (hp : Hd) : Option (D × Hd) := match bestD mx ds hp with
  | some d => some (d, hp)
  | none => none
theorem gBestL_some {mx : Bool} {ds : List D} {hp hp' : Hd} {d : D} (h : gBestL mx ds hp = some (d, hp')) : bestD mx ds hp = some d ∧ hp' = hp := by
  unfold gBestL at h
  split at h
  · rename_i e
    cases h
    exact ⟨e, rfl⟩
  · cases h
section
variable {X : Cx}
theorem n_best (mx : Bool) (hc : X.calm = true) (hu : X.A.units + 64 < cLine) : CallR X (.builtin (if mx = true then "max" else "min")) (RN X.K (gBestL mx)) := fun pins s σ H xs us Q I r ⟨hp, μ, ds, vs, p, d, hp', rh, ex, hn, hl, rs, e, q⟩ => by
  obtain ⟨e, rfl⟩ := gBestL_some e
  subst ex
  rw [Vals.ref1 r]
  exact best_list hc hu mx I rh (.inl (.inl hl)) rs e fun v rv => q v H μ Ext.refl rh rv
end
end Ve
namespace Ve
open PySem PySem.Spec L2
def isT (d : D) (_ : Hd) : Bool := (tupOf d).isSome
section
variable {X : Cx} {e : Expr} {es : List Expr} {fr : AA}
def mCatOO (fa fb : AE) : AA := fun ls hp => match fa ls hp with
  | some (x, hp1) => match fb ls hp1 with
    | some (y, hp2) => match lstOf x hp2, lstOf y hp2 with
      | some xs, some ys => if xs.length + ys.length ≤ sizeLine then some (xs ++ ys, hp2) else none
      | _, _ => none
    | none => none
  | none => none
end
end Ve
namespace Ve
open PySem PySem.Spec L2
def rgOk (a b : Int) : Prop := -(2 ^ 62) ≤ a ∧ a < 2 ^ 62 ∧ -(2 ^ 62) ≤ b ∧ b < 2 ^ 62 ∧ (b - a).toNat ≤ 2 ^ 24
instance (a b : Int) : Decidable (rgOk a b) := by unfold rgOk; infer_instance
def rgD (a b : Int) : List D := (List.range (b - a).toNat).map fun k : Nat => D.int (a + (k : Nat))
def mLRg1 (fa : AE) : AA := fun ls hp => match fa ls hp with
  | some (.int j, hp1) => if rgOk 0 j then some (rgD 0 j, hp1) else none
  | _ => none
def mLRg2 (fa fb : AE) : AA := fun ls hp => match fa ls hp with
  | some (.int i, hp1) => match fb ls hp1 with
    | some (.int j, hp2) => if rgOk i j then some (rgD i j, hp2) else none
    | _ => none
  | _ => none
def mTRg1 (fa : AE) : AE := fun ls hp => match mLRg1 fa ls hp with
  | some (ds, hp1) => some (.tup ds, hp1)
  | none => none
def mTRg2 (fa fb : AE) : AE := fun ls hp => match mLRg2 fa fb ls hp with
  | some (ds, hp1) => some (.tup ds, hp1)
  | none => none
end Ve
namespace Ve
open PySem PySem.Spec L2
def reprOk (p : PyData) : Bool := (p.showable && !p.hasDict) && (decide (p.depth ≤ 40) && decide (p.shown.length ≤ sizeLine))
end Ve
namespace Ve
open PySem PySem.Spec L2 PyProof.Rows
section
variable {X : Cx} {a b c d : Expr} {ta tb tc td : TE} {pos : Pos} {fa fb fc fd : AE}
def mChain3 (fa fb fc fd : AE) (g g' g'' : D → D → Hd → Option (D × Hd)) : AE := fun ls hp => match fa ls hp with
  | some (x, hp1) => match fb ls hp1 with
    | some (y, hp2) => match g x y hp2 with
      | some (.bl true, hp3) => match fc ls hp3 with
        | some (z, hp4) => match g' y z hp4 with
          | some (.bl true, hp5) => match fd ls hp5 with
            | some (w, hp6) => g'' z w hp6
            | none => none
          | some (.bl false, hp5) => some (.bl false, hp5)
          | _ => none
        | none => none
      | some (.bl false, hp3) => some (.bl false, hp3)
      | _ => none
    | none => none
  | none => none
end
end Ve
namespace Ve
open PySem PySem.Spec L2
section
variable {ls : Ls} {hp : Hd} {fa fb fc : AE} {ft fu : AT} {fr fl fm : AA} {f g : AS}
theorem sIf_s2 : sIf ft f g ls hp = (match ft ls hp with
  | some (b, hp1) => if b = true then f ls hp1 else g ls hp1
  | none => none) := by
  unfold sIf
  split
  · rename_i e; rw [e]; rfl
  · rename_i e; rw [e]; rfl
  · rename_i e; rw [e]
theorem mIfE_s2 : mIfE ft fa fb ls hp = (match ft ls hp with
  | some (b, hp1) => if b = true then fa ls hp1 else fb ls hp1
  | none => none) := by
  unfold mIfE
  split
  · rename_i e; rw [e]; rfl
  · rename_i e; rw [e]; rfl
  · rename_i e; rw [e]
theorem mAnd_s2 : mAnd ft fu ls hp = (match ft ls hp with
  | some (b, hp1) => if b = true then fu ls hp1 else some (false, hp1)
  | none => none) := by
  unfold mAnd
  split
  · rename_i e; rw [e]; rfl
  · rename_i h
    cases e : ft ls hp with
    | none => rfl
    | some p =>
      obtain ⟨b, hp1⟩ := p
      cases b with
      | true => exact absurd e (h _)
      | false => rfl
theorem mOr_s2 : mOr ft fu ls hp = (match ft ls hp with
  | some (b, hp1) => if b = true then some (true, hp1) else fu ls hp1
  | none => none) := by
  unfold mOr
  split
  · rename_i e; rw [e]; rfl
  · rename_i h
    cases e : ft ls hp with
    | none => rfl
    | some p =>
      obtain ⟨b, hp1⟩ := p
      cases b with
      | false => exact absurd e (h _)
      | true => rfl
theorem mNot_s : mNot ft ls hp = (match ft ls hp with
  | some (b, hp1) => some (!b, hp1)
  | none => none) := rfl
theorem mAndV_s2 : mAndV fa fb ls hp = (match fa ls hp with
  | some (.bl b, hp1) => if b = true then fb ls hp1 else some (.bl false, hp1)
  | _ => none) := by
  unfold mAndV
  cases e : fa ls hp with
  | none => rfl
  | some p =>
    obtain ⟨d, hp1⟩ := p
    cases d <;> try rfl
    rename_i b
    cases b <;> rfl
theorem mOrV_s2 : mOrV fa fb ls hp = (match fa ls hp with
  | some (.bl b, hp1) => if b = true then some (.bl true, hp1) else fb ls hp1
  | _ => none) := by
  unfold mOrV
  cases e : fa ls hp with
  | none => rfl
  | some p =>
    obtain ⟨d, hp1⟩ := p
    cases d <;> try rfl
    rename_i b
    cases b <;> rfl
theorem mNotV_s : mNotV fa ls hp = (match fa ls hp with
  | some (.bl b, hp1) => some (.bl (!b), hp1)
  | _ => none) := rfl
theorem mChain_s2 {g g' : D → D → Hd → Option (D × Hd)} : mChain fa fb fc g g' ls hp = (match fa ls hp with
  | some (x, hp1) => match fb ls hp1 with
    | some (y, hp2) => match g x y hp2 with
      | some (.bl b, hp3) => if b = true then (match fc ls hp3 with
        | some (z, hp4) => g' y z hp4
        | none => none) else some (.bl false, hp3)
      | _ => none
    | none => none
  | none => none) := by
  unfold mChain
  cases e1 : fa ls hp with
  | none => rfl
  | some p1 =>
    obtain ⟨x, hp1⟩ := p1
    dsimp only
    cases e2 : fb ls hp1 with
    | none => rfl
    | some p2 =>
      obtain ⟨y, hp2⟩ := p2
      dsimp only
      cases e3 : g x y hp2 with
      | none => rfl
      | some p3 =>
        obtain ⟨d, hp3⟩ := p3
        cases d <;> try rfl
        rename_i b
        cases b <;> rfl
theorem mChain3_s {fd : AE} {g g' g'' : D → D → Hd → Option (D × Hd)} : mChain3 fa fb fc fd g g' g'' ls hp = (match fa ls hp with
  | some (x, hp1) => match fb ls hp1 with
    | some (y, hp2) => match g x y hp2 with
      | some (.bl true, hp3) => match fc ls hp3 with
        | some (z, hp4) => match g' y z hp4 with
          | some (.bl true, hp5) => match fd ls hp5 with
            | some (w, hp6) => g'' z w hp6
            | none => none
          | some (.bl false, hp5) => some (.bl false, hp5)
          | _ => none
        | none => none
      | some (.bl false, hp3) => some (.bl false, hp3)
      | _ => none
    | none => none
  | none => none) := rfl
theorem mL_s {g : List D → Hd → Option (D × Hd)} : mL fl g ls hp = (match fl ls hp with
  | some (ds, hp1) => g ds hp1
  | none => none) := rfl
theorem m2L_s {g : D → List D → Hd → Option (D × Hd)} : m2L fa fl g ls hp = (match fa ls hp with
  | some (a, hp1) => match fl ls hp1 with
    | some (ds, hp2) => g a ds hp2
    | none => none
  | none => none) := rfl
theorem mMet_s {ck : D → Hd → Bool} {g : D → List D → Hd → Option (D × Hd)} : mMet ck fa fr g ls hp = (match fa ls hp with
  | some (x, hp1) => if ck x hp1 = true then (match fr ls hp1 with
    | some (ds, hp2) => g x ds hp2
    | none => none) else none
  | none => none) := rfl
theorem mExt_s : mExt fa fl ls hp = (match fa ls hp with
  | some (x, hp1) => if isL x hp1 = true then (match fl ls hp1 with
    | some (ds, hp2) => onL x hp2 fun xs => if xs.length + ds.length ≤ sizeLine then some (.non, xs ++ ds) else none
    | none => none) else none
  | none => none) := rfl
theorem mExtO_s : mExtO fa fb ls hp = (match fa ls hp with
  | some (x, hp1) => if isL x hp1 = true then (match fb ls hp1 with
    | some (y, hp2) => (match lstOf y hp2 with
      | some ds => onL x hp2 fun xs => if xs.length + ds.length ≤ sizeLine then some (.non, xs ++ ds) else none
      | none => none)
    | none => none) else none
  | none => none) := rfl
theorem mIsi_s {T : String} : mIsi T fa ls hp = (match fa ls hp with
  | some (x, hp1) => gIsi T [x] hp1
  | none => none) := rfl
theorem mSl_s {a b : Option AE} : mSl fa a b ls hp = (match fa ls hp with
  | some (x, hp1) => match mPo a ls hp1 with
    | some (l, hp2) => match mPo b ls hp2 with
      | some (u, hp3) => gSl x l u hp3
      | none => none
    | none => none
  | none => none) := rfl
theorem mPo_n : mPo none ls hp = some (none, hp) := rfl
theorem mPo_s : mPo (some fa) ls hp = (match fa ls hp with
  | some (.int i, hp1) => some (some i, hp1)
  | _ => none) := rfl
theorem mCat_s : mCat fl fm ls hp = (match fl ls hp with
  | some (xs, hp1) => match fm ls hp1 with
    | some (ys, hp2) => if xs.length + ys.length ≤ sizeLine then some (xs ++ ys, hp2) else none
    | none => none
  | none => none) := rfl
theorem mCatOL_s : mCatOL fa fm ls hp = (match fa ls hp with
  | some (x, hp1) => match fm ls hp1 with
    | some (ys, hp2) => match lstOf x hp2 with
      | some xs => if xs.length + ys.length ≤ sizeLine then some (xs ++ ys, hp2) else none
      | none => none
    | none => none
  | none => none) := rfl
theorem mCatLO_s : mCatLO fl fb ls hp = (match fl ls hp with
  | some (xs, hp1) => match fb ls hp1 with
    | some (y, hp2) => match lstOf y hp2 with
      | some ys => if xs.length + ys.length ≤ sizeLine then some (xs ++ ys, hp2) else none
      | none => none
    | none => none
  | none => none) := rfl
theorem mCatOO_s : mCatOO fa fb ls hp = (match fa ls hp with
  | some (x, hp1) => match fb ls hp1 with
    | some (y, hp2) => match lstOf x hp2, lstOf y hp2 with
      | some xs, some ys => if xs.length + ys.length ≤ sizeLine then some (xs ++ ys, hp2) else none
      | _, _ => none
    | none => none
  | none => none) := rfl
theorem mLRg1_s : mLRg1 fa ls hp = (match fa ls hp with
  | some (.int j, hp1) => if rgOk 0 j then some (rgD 0 j, hp1) else none
  | _ => none) := rfl
theorem mLRg2_s : mLRg2 fa fb ls hp = (match fa ls hp with
  | some (.int i, hp1) => match fb ls hp1 with
    | some (.int j, hp2) => if rgOk i j then some (rgD i j, hp2) else none
    | _ => none
  | _ => none) := rfl
theorem mTRg1_s : mTRg1 fa ls hp = (match mLRg1 fa ls hp with
  | some (ds, hp1) => some (.tup ds, hp1)
  | none => none) := rfl
theorem mTRg2_s : mTRg2 fa fb ls hp = (match mLRg2 fa fb ls hp with
  | some (ds, hp1) => some (.tup ds, hp1)
  | none => none) := rfl
theorem lstOf_ref {n : Nat} {xs : List D} (h : hp[n]? = some (.lst xs)) : lstOf (.ref n) hp = some xs := by
  unfold lstOf
  dsimp only
  rw [h]
theorem mRep_s : mRep fl fb ls hp = (match fl ls hp with
  | some (xs, hp1) => match fb ls hp1 with
    | some (.int k, hp2) => if 0 ≤ k ∧ k < 2 ^ 40 ∧ xs.length * k.toNat ≤ sizeLine then some ((List.replicate k.toNat xs).flatten, hp2) else none
    | _ => none
  | none => none) := rfl
theorem sAsgL_s {ts : List Tg} : sAsgL ts fl ls hp = (match fl ls hp with
  | some (ds, hp1) => match Tg.asgs ts ds ls with
    | some ls1 => some (.nx, ls1, hp1)
    | none => none
  | none => none) := rfl
theorem sPar3_s {i j l : Nat} : sPar3 i j l fr ls hp = (match fr ls hp with
  | some ([a, b, c], hp1) => some (.nx, ((ls.set i (some a)).set j (some b)).set l (some c), hp1)
  | _ => none) := rfl
theorem sAug_s {i : Nat} {g : D → D → Hd → Option (D × Hd)} : sAug i fa g ls hp = (match ls[i]? with
  | some (some x) => match fa ls hp with
    | some (y, hp1) => match g x y hp1 with
      | some (z, hp2) => some (.nx, ls.set i (some z), hp2)
      | none => none
    | none => none
  | _ => none) := rfl
theorem sBrk_s : sBrk ls hp = some (.bk, ls, hp) := rfl
theorem sCnt_s : sCnt ls hp = some (.ct, ls, hp) := rfl
theorem sRetN_s : sRetN ls hp = some (.rt .non, ls, hp) := rfl
theorem tYesD_s : tYesD ls hp = some (true, hp) := rfl
theorem mSorted_s : mSorted fa ls hp = (match fa ls hp with
  | some (d, hp1) => gSrtO d hp1
  | none => none) := rfl
theorem mSortedL_s : mSortedL fl ls hp = (match fl ls hp with
  | some (ds, hp1) => gSrt ds hp1
  | none => none) := rfl
theorem mIS_s : mIS fa ls hp = (match fa ls hp with
  | some (d, hp1) => match itOf d hp1 with
    | some (items, gd) => some (items, gd, hp1)
    | none => none
  | none => none) := rfl
theorem sAsgM_s {t : TgM} : sAsgM t fa ls hp = (match fa ls hp with
  | some (d, hp1) => match t d ls hp1 with
    | some (ls1, hp2) => some (.nx, ls1, hp2)
    | none => none
  | none => none) := rfl
theorem tNm_s {i : Nat} {d : D} : tNm i d ls hp = some (ls.set i (some d), hp) := rfl
theorem tSub_s {d : D} : tSub fa fb d ls hp = (match fa ls hp with
  | some (x, hp1) => match fb ls hp1 with
    | some (y, hp2) => match gSet x y d hp2 with
      | some hp3 => some (ls, hp3)
      | none => none
    | none => none
  | none => none) := rfl
theorem tTp_s {ts : List TgM} {ds : List D} : tTp ts (.tup ds) ls hp = tTps ts ds ls hp := rfl
theorem tTps_nil : tTps [] [] ls hp = some (ls, hp) := rfl
theorem tTps_cons {t : TgM} {ts : List TgM} {d : D} {ds : List D} : tTps (t :: ts) (d :: ds) ls hp = (match t d ls hp with
  | some (ls1, hp1) => tTps ts ds ls1 hp1
  | none => none) := rfl
theorem mList_s : mList fa ls hp = (match fa ls hp with
  | some (d, hp1) => gListO d hp1
  | none => none) := rfl
theorem mIL_s : mIL fl ls hp = (match fl ls hp with
  | some (ds, hp1) => some (ds, [], hp1)
  | none => none) := rfl
theorem mDict0_s : mDict0 ls hp = some (.ref hp.length, hp ++ [.dic []]) := rfl
theorem asg_nm {i : Nat} {d : D} : Tg.asg (.nm i) d ls = some (ls.set i (some d)) := by rw [Tg.asg]
theorem asg_tp {ts : List Tg} {ds : List D} : Tg.asg (.tp ts) (.tup ds) ls = Tg.asgs ts ds ls := by rw [Tg.asg]
theorem asg_tpT {ts : List Tg} {a : List Int} : Tg.asg (.tp ts) (T a) ls = Tg.asgs ts (a.map D.int) ls := by rw [T, Tg.asg]
theorem asgs_nil : Tg.asgs [] [] ls = some ls := by rw [Tg.asgs]
theorem asgs_cons {t : Tg} {ts : List Tg} {d : D} {ds : List D} : Tg.asgs (t :: ts) (d :: ds) ls = (match Tg.asg t d ls with
  | some ls1 => Tg.asgs ts ds ls1
  | none => none) := by rw [Tg.asgs]; try rfl
theorem sForI_s {fi : AI} {t : Tg} {b : AS} : sForI fi t b ls hp = (match fi ls hp with
  | some (items, gd, hp1) => sFor t gd b items ls hp1
  | none => none) := rfl
theorem mR1_of {j : Int} {hp1 : Hd} (e : fr ls hp = some ([.int j], hp1)) (h : -(2 ^ 62) ≤ j ∧ j < 2 ^ 62) : mR1 fr ls hp = some ((List.range j.toNat).map fun i => D.int (i : Nat), [], hp1) := by
  unfold mR1
  rw [e]
  dsimp only
  rw [if_pos h]
theorem mR1_nat {j : Nat} {hp1 : Hd} (e : fr ls hp = some ([.int (j : Nat)], hp1)) (h : j < 2 ^ 62) : mR1 fr ls hp = some ((List.range j).map fun i => D.int (i : Nat), [], hp1) := by
  rw [mR1_of e (by omega)]
  rfl
end
theorem sFor_pre {α : Type} {t : Tg} {b : AS} {gd : Gd} (φ : α → D) (Inv : List α → Ls → Hd → Prop) (hg : ∀ d ls hp, Inv d ls hp → gdOk gd hp = true) : ∀ (items done : List α) (ls : Ls) (hp : Hd), Inv done ls hp →
    (∀ (d : List α) (x : α) (r : List α) ls hp, done ++ items = d ++ x :: r → Inv d ls hp → ∃ ls1 ls2 hp2, t.asg (φ x) ls = some ls1 ∧ (b ls1 hp = some (.nx, ls2, hp2) ∨ b ls1 hp = some (.ct, ls2, hp2)) ∧ Inv (d ++ [x]) ls2 hp2) →
    ∃ ls' hp', sFor t gd b (items.map φ) ls hp = some (.nx, ls', hp') ∧ Inv (done ++ items) ls' hp'
  | [], done, ls, hp, h, _ => ⟨ls, hp, by simp only [List.map_nil, sFor, hg _ _ _ h, if_true], by simpa using h⟩
  | x :: xs, done, ls, hp, h, step => by
    obtain ⟨ls1, ls2, hp2, e1, e2, h2⟩ := step done x xs ls hp rfl h
    obtain ⟨ls', hp', e3, h3⟩ := sFor_pre φ Inv hg xs (done ++ [x]) ls2 hp2 h2 fun d y r ls hp e hi => step d y r ls hp (by rw [← e, List.append_assoc]; rfl) hi
    refine ⟨ls', hp', ?_, by rw [List.append_assoc] at h3; exact h3⟩
    rcases e2 with e2 | e2 <;> simp only [List.map_cons, sFor, hg _ _ _ h, if_true, e1, e2, e3]
theorem sForI_pre {α : Type} {fi : AI} {t : Tg} {b : AS} {gd : Gd} {items : List α} {ls : Ls} {hp hp1 : Hd} (φ : α → D) (Inv : List α → Ls → Hd → Prop) (ei : fi ls hp = some (items.map φ, gd, hp1)) (hg : ∀ d ls hp, Inv d ls hp → gdOk gd hp = true) (h0 : Inv [] ls hp1)
    (step : ∀ (d : List α) (x : α) (r : List α) ls hp, items = d ++ x :: r → Inv d ls hp → ∃ ls1 ls2 hp2, t.asg (φ x) ls = some ls1 ∧ (b ls1 hp = some (.nx, ls2, hp2) ∨ b ls1 hp = some (.ct, ls2, hp2)) ∧ Inv (d ++ [x]) ls2 hp2) :
    ∃ ls' hp', sForI fi t b ls hp = some (.nx, ls', hp') ∧ Inv items ls' hp' := by
  obtain ⟨ls', hp', e, h⟩ := sFor_pre φ Inv hg items [] ls hp1 h0 fun d x r ls hp e hi => step d x r ls hp (by simpa using e) hi
  refine ⟨ls', hp', ?_, by simpa using h⟩
  rw [sForI_s, ei]
  exact e
theorem sForI_rel {α S : Type} {fi : AI} {t : Tg} {b : AS} {gd : Gd} {items : List α} {ls : Ls} {hp hp1 : Hd} (φ : α → D) (Rel : S → Ls → Hd → Prop) (step : S → α → S) (ei : fi ls hp = some (items.map φ, gd, hp1)) (hg : ∀ s ls hp, Rel s ls hp → gdOk gd hp = true) (s0 : S) (h0 : Rel s0 ls hp1)
    (hs : ∀ x ∈ items, ∀ s ls hp, Rel s ls hp → ∃ ls1 ls2 hp2, t.asg (φ x) ls = some ls1 ∧ (b ls1 hp = some (.nx, ls2, hp2) ∨ b ls1 hp = some (.ct, ls2, hp2)) ∧ Rel (step s x) ls2 hp2) :
    ∃ ls' hp', sForI fi t b ls hp = some (.nx, ls', hp') ∧ Rel (items.foldl step s0) ls' hp' :=
  sForI_pre φ (fun d ls hp => Rel (d.foldl step s0) ls hp) ei (fun d ls hp h => hg _ _ _ h) h0 fun d x r ls hp e hi => by
    obtain ⟨ls1, ls2, hp2, a, b, c⟩ := hs x (by rw [e]; simp) _ ls hp hi
    exact ⟨ls1, ls2, hp2, a, b, by rw [List.foldl_append]; exact c⟩
theorem sWhile_rel {S : Type} {c : AT} {b : AS} (Rel : S → Ls → Hd → Prop) (Done : S → Prop) (μ : S → Nat)
    (h : ∀ s ls hp, Rel s ls hp → (c ls hp = some (false, hp) ∧ Done s) ∨ (c ls hp = some (true, hp) ∧ ∃ s' ls2 hp2, (b ls hp = some (.nx, ls2, hp2) ∨ b ls hp = some (.ct, ls2, hp2)) ∧ Rel s' ls2 hp2 ∧ μ s' < μ s)) :
    ∀ (n : Nat) (s : S) (ls : Ls) (hp : Hd), μ s < n → Rel s ls hp → ∃ s' ls' hp', sWhile c b n ls hp = some (.nx, ls', hp') ∧ Rel s' ls' hp' ∧ Done s'
  | 0, s, ls, hp, hn, _ => by omega
  | n + 1, s, ls, hp, hn, hr => by
    rcases h s ls hp hr with ⟨e, d⟩ | ⟨e, s', ls2, hp2, e2, hr2, hm⟩
    · exact ⟨s, ls, hp, by rw [sWhile, e], hr, d⟩
    · obtain ⟨s3, ls3, hp3, e3, hr3, d⟩ := sWhile_rel Rel Done μ h n s' ls2 hp2 (by omega) hr2
      refine ⟨s3, ls3, hp3, ?_, hr3, d⟩
      rcases e2 with e2 | e2 <;> rw [sWhile, e] <;> dsimp only <;> rw [e2] <;> exact e3
theorem mLc_pre {α : Type} {fi : AI} {t : Tg} {own : List Nat} {te : AE} {gd : Gd} {items : List α} {ls : Ls} {hp hp1 : Hd} (φ : α → D) (Inv : List α → List D → Hd → Prop) (ei : fi ls hp = some (items.map φ, gd, hp1)) (hl : items.length ≤ sizeLine) (hg : ∀ d o hp, Inv d o hp → gdOk gd hp = true) (h0 : Inv [] [] hp1)
    (step : ∀ (d : List α) (x : α) (r : List α) (o : List D) hp, items = d ++ x :: r → Inv d o hp → ∃ ls1 y hp2, t.asg (φ x) (wipeL ls own) = some ls1 ∧ te ls1 hp = some (y, hp2) ∧ Inv (d ++ [x]) (o ++ [y]) hp2) :
    ∃ out hp', mLc fi t own tYesD te ls hp = some (out, hp') ∧ Inv items out hp' := by
  have key : ∀ (its done : List α) (o : List D) (hp : Hd), items = done ++ its → Inv done o hp → ∃ out hp', lcGo t gd tYesD te (wipeL ls own) (its.map φ) hp = some (out, hp') ∧ Inv items (o ++ out) hp' := by
    intro its
    induction its with
    | nil =>
      intro done o hp e h
      refine ⟨[], hp, by simp only [List.map_nil, lcGo, hg _ _ _ h, if_true], ?_⟩
      rw [e, List.append_nil, List.append_nil]
      exact h
    | cons x xs ih =>
      intro done o hp e h
      obtain ⟨ls1, y, hp2, e1, e2, h2⟩ := step done x xs o hp e h
      obtain ⟨out, hp', e3, h3⟩ := ih (done ++ [x]) (o ++ [y]) hp2 (by rw [e, List.append_assoc]; rfl) h2
      refine ⟨y :: out, hp', ?_, by rw [List.append_assoc] at h3; exact h3⟩
      simp only [List.map_cons, lcGo, hg _ _ _ h, if_true, e1, tYesD_s, e2, e3]
  obtain ⟨out, hp', e, h⟩ := key items [] [] hp1 rfl h0
  refine ⟨out, hp', ?_, h⟩
  unfold mLc
  rw [ei]
  dsimp only
  rw [if_pos (by rw [List.length_map]; exact hl)]
  exact e
structure EqE {α : Type} (n : Nat) (e : α → D) where
  py : α → PyData
  f : ∀ hp m a, pyF hp (m + n) (e a) = some (py a)
  lay : ∀ a, PyData.canLay0 (py a) = true
  dep : ∀ a, (py a).depth < n
  pos : 0 < n
  eqv : ∀ a b : α, PyData.eqv (py a) (py b) = true ↔ a = b
namespace EqE
variable {α : Type} {n : Nat} {e : α → D}
def int : EqE 1 D.int := ⟨PyData.int, fun _ _ _ => rfl, fun _ => rfl, fun _ => Nat.zero_lt_one, Nat.zero_lt_one, fun a b => by
  show (a == b) = true ↔ a = b
  exact beq_iff_eq⟩
theorem mapO_e (E : EqE n e) {hp : Hd} {m : Nat} : ∀ xs : List α, mapO (pyF hp (m + n)) (xs.map e) = some (xs.map E.py)
  | [] => rfl
  | x :: r => by rw [List.map_cons, mapO, E.f, mapO_e E r]; rfl
theorem canAll (E : EqE n e) : ∀ xs : List α, PyData.canLayAll0 (xs.map E.py) = true
  | [] => rfl
  | x :: r => by rw [List.map_cons, PyData.canLayAll0, E.lay, canAll E r]; rfl
theorem depAll (E : EqE n e) : ∀ xs : List α, PyData.depthAll (xs.map E.py) ≤ n - 1
  | [] => Nat.zero_le _
  | x :: r => by
    have := E.dep x
    have := depAll E r
    rw [List.map_cons, PyData.depthAll]
    omega
theorem eqvAll (E : EqE n e) : ∀ xs ys : List α, PyData.eqvAll (xs.map E.py) (ys.map E.py) = true ↔ xs = ys
  | [], [] => by simp [PyData.eqvAll]
  | [], _ :: _ => by simp [PyData.eqvAll]
  | _ :: _, [] => by simp [PyData.eqvAll]
  | x :: r, y :: s => by
    rw [List.map_cons, List.map_cons, PyData.eqvAll, Bool.and_eq_true, E.eqv, eqvAll E r s]
    simp
def tup (E : EqE n e) : EqE (n + 1) (fun xs : List α => D.tup (xs.map e)) := ⟨fun xs => .tuple (xs.map E.py),
  fun hp m xs => by
    show (mapO (pyF hp (m + n)) (xs.map e)).map PyData.tuple = _
    rw [mapO_e]
    rfl,
  fun xs => by rw [PyData.canLay0]; exact E.canAll xs,
  fun xs => by
    have := E.depAll xs
    rw [PyData.depth]
    have := E.pos
    omega,
  Nat.succ_pos _,
  fun xs ys => by rw [PyData.eqv]; exact E.eqvAll xs ys⟩
theorem shaped (E : EqE n e) (hn : n ≤ 16) (a : α) : SeqAt.shaped (E.py a) = true := by
  unfold SeqAt.shaped
  have := E.dep a
  rw [E.lay, Bool.true_and, decide_eq_true_eq]
  omega
theorem f16 (E : EqE n e) (hn : n ≤ 16) (hp : Hd) (a : α) : pyF hp 16 (e a) = some (E.py a) := by
  have := E.f hp (16 - n) a
  rwa [show 16 - n + n = 16 by omega] at this
theorem eq [DecidableEq α] (E : EqE n e) (hn : n ≤ 16) (hp : Hd) (a b : α) : eqH hp (e a) (e b) = some (decide (a = b)) := by
  unfold eqH
  rw [E.f16 hn, E.f16 hn]
  dsimp only
  rw [E.shaped hn, E.shaped hn]
  simp only [Bool.and_self, if_true, Option.some.injEq]
  rw [Bool.eq_iff_iff, E.eqv, decide_eq_true_eq]
theorem gEq [DecidableEq α] (E : EqE n e) (hn : n ≤ 16) (hp : Hd) (a b : α) : gEq (e a) (e b) hp = some (.bl (decide (a = b)), hp) := by
  unfold Ve.gEq
  rw [E.eq hn]
theorem gNe [DecidableEq α] (E : EqE n e) (hn : n ≤ 16) (hp : Hd) (a b : α) : gNe (e a) (e b) hp = some (.bl (!decide (a = b)), hp) := by
  unfold Ve.gNe
  rw [E.eq hn]
theorem inL [DecidableEq α] (E : EqE n e) (hn : n ≤ 15) (hp : Hd) (a : α) (xs : List α) : inL hp (e a) (xs.map e) = some (decide (a ∈ xs)) := by
  unfold Ve.inL
  have h15 : mapO (pyF hp 15) (xs.map e) = some (xs.map E.py) := by
    have := E.mapO_e (hp := hp) (m := 15 - n) xs
    rwa [show 15 - n + n = 15 by omega] at this
  rw [E.f16 (by omega), h15]
  dsimp only
  have s1 : SeqAt.shaped (.list (xs.map E.py)) = true := by
    unfold SeqAt.shaped
    have := E.depAll xs
    rw [PyData.canLay0, E.canAll, Bool.true_and, decide_eq_true_eq, PyData.depth]
    omega
  rw [E.shaped (by omega), s1]
  simp only [Bool.and_self, if_true, Option.some.injEq, List.any_map]
  rw [Bool.eq_iff_iff, decide_eq_true_eq, List.any_eq_true]
  constructor
  · rintro ⟨x, hx, h⟩
    rw [← (E.eqv x a).mp h]
    exact hx
  · intro h
    exact ⟨a, h, (E.eqv a a).mpr rfl⟩
theorem gIn_lst [DecidableEq α] (E : EqE n e) (hn : n ≤ 15) {hp : Hd} {k : Nat} {xs : List α} (h : hp[k]? = some (.lst (xs.map e))) (a : α) : gIn (e a) (.ref k) hp = some (.bl (decide (a ∈ xs)), hp) := by
  have e1 : inB (e a) (.ref k) hp = some (decide (a ∈ xs)) := by
    rw [← E.inL hn hp a xs]
    unfold inB
    dsimp only
    rw [h]
  unfold gIn
  rw [e1]
end EqE
def eT : EqE 2 T := EqE.int.tup
def TT (bs : List (List Int)) : D := .tup (bs.map T)
def eTT : EqE 3 TT := eT.tup
theorem nr_TT (bs : List (List Int)) : nr (TT bs) = true := nrs_T bs
theorem ixN_i {n : Nat} {i : Int} (h : 0 ≤ i ∧ i < n) : ixN n i = some i.toNat := by
  unfold ixN
  rw [if_pos h.1, if_pos h.2]
theorem gIx_ref {hp : Hd} {n : Nat} {xs : List D} {i : Int} (h : hp[n]? = some (.lst xs)) : gIx (.ref n) (.int i) hp = (match atI xs i with
  | some d => some (d, hp)
  | none => none) := by
  unfold gIx
  dsimp only
  rw [h]
  try rfl
theorem gIx_tupI {hp : Hd} {xs : List D} {i : Int} : gIx (.tup xs) (.int i) hp = (match atI xs i with
  | some d => some (d, hp)
  | none => none) := rfl
theorem gIx_refN {hp : Hd} {n j : Nat} {xs : List D} {x : D} (h : hp[n]? = some (.lst xs)) (e : xs[j]? = some x) : gIx (.ref n) (.int (j : Nat)) hp = some (x, hp) := by
  rw [gIx_ref h, atI_nat e]
theorem gIx_tupN {hp : Hd} {j : Nat} {xs : List D} {x : D} (e : xs[j]? = some x) : gIx (.tup xs) (.int (j : Nat)) hp = some (x, hp) := by
  rw [gIx_tupI, atI_nat e]
theorem gSet_int {hp : Hd} {n : Nat} {xs : List D} {i : Int} {v : D} (h : hp[n]? = some (.lst xs)) (hi : 0 ≤ i ∧ i < xs.length) : gSet (.ref n) (.int i) v hp = some (hp.set n (.lst (xs.set i.toNat v))) := by
  unfold gSet
  dsimp only
  rw [h]
  dsimp only
  rw [ixN_i hi]
theorem gSet_nat {hp : Hd} {n j : Nat} {xs : List D} {v : D} (h : hp[n]? = some (.lst xs)) (hi : j < xs.length) : gSet (.ref n) (.int (j : Nat)) v hp = some (hp.set n (.lst (xs.set j v))) := by
  rw [gSet_int h (by omega)]
  rfl
theorem zipD_map {α β : Type} {f : α → D} {g : β → D} : ∀ (a : List α) (b : List β), zipD (a.map f) (b.map g) = (a.zip b).map fun p => D.tup [f p.1, g p.2]
  | [], _ => by simp [zipD]
  | _ :: _, [] => by simp [zipD]
  | x :: r, y :: s => by simp [zipD, zipD_map r s]
theorem mZip_T {fa fb : AE} {ls : Ls} {hp : Hd} {a b : List Int} (e1 : fa ls hp = some (T a, hp)) (e2 : fb ls hp = some (T b, hp)) : mZip fa fb ls hp = some ((a.zip b).map fun p => D.tup [.int p.1, .int p.2], [], hp) := by
  unfold mZip
  rw [e1]
  dsimp only
  rw [e2]
  dsimp only
  rw [show tupOf (T a) = some (a.map D.int) from rfl, show tupOf (T b) = some (b.map D.int) from rfl]
  dsimp only
  rw [zipD_map]
theorem onL_of {hp : Hd} {n : Nat} {xs ys : List D} {d : D} {g : List D → Option (D × List D)} (h : hp[n]? = some (.lst xs)) (e : g xs = some (d, ys)) : onL (.ref n) hp g = some (d, hp.set n (.lst ys)) := by
  unfold onL
  dsimp only
  rw [h]
  dsimp only
  rw [e]
theorem gAppend_of {hp : Hd} {n : Nat} {xs : List D} {d : D} (h : hp[n]? = some (.lst xs)) (hl : xs.length < 16777216) : gAppend (.ref n) [d] hp = some (.non, hp.set n (.lst (xs ++ [d]))) := by
  unfold gAppend
  dsimp only
  exact onL_of h (by rw [sizeLine_eq, if_pos hl])
end Ve
namespace Ve
open PySem PySem.Spec L2
section
variable {α : Type} [DecidableEq α]
def psh (st : List α × List α) (b : α) : List α × List α := if b ∈ st.1 then st else (st.1 ++ [b], st.2 ++ [b])
structure Mt (P : α → Prop) (N : α → List α) (met wait : List α) : Prop where
  nd : met.Nodup
  pr : ∀ a ∈ met, P a
  wm : ∀ a ∈ wait, a ∈ met
  cl : ∀ a ∈ met, a ∉ wait → ∀ b ∈ N a, b ∈ met
structure Ex (P : α → Prop) (met0 wa : List α) (l : List α) (st : List α × List α) : Prop where
  nd : st.1.Nodup
  pr : ∀ a ∈ st.1, P a
  m0 : ∀ a ∈ met0, a ∈ st.1
  w0 : ∀ a ∈ wa, a ∈ st.2
  wm : ∀ a ∈ st.2, a ∈ st.1
  new : ∀ a ∈ st.1, a ∈ met0 ∨ a ∈ st.2
  cnt : st.2.length + met0.length = wa.length + st.1.length
  done : ∀ b ∈ l, b ∈ st.1
theorem Ex.fold {P : α → Prop} {met0 w0 : List α} : ∀ (l done : List α) (st : List α × List α), Ex P met0 w0 done st → (∀ b ∈ l, P b) → Ex P met0 w0 (done ++ l) (l.foldl psh st)
  | [], done, st, h, _ => by rw [List.append_nil]; exact h
  | b :: l, done, st, h, hp => by
    have hb := hp b List.mem_cons_self
    have h2 : Ex P met0 w0 (done ++ [b]) (psh st b) := by
      unfold psh
      by_cases hm : b ∈ st.1
      · rw [if_pos hm]
        exact ⟨h.nd, h.pr, h.m0, h.w0, h.wm, h.new, h.cnt, fun x hx => by
          rcases List.mem_append.mp hx with hx | hx
          · exact h.done x hx
          · rw [List.mem_singleton.mp hx]; exact hm⟩
      · rw [if_neg hm]
        refine ⟨List.nodup_append.mpr ⟨h.nd, by simp, fun x hx y hy e => ?_⟩, fun a ha => ?_, fun a ha => List.mem_append_left _ (h.m0 a ha), fun a ha => List.mem_append_left _ (h.w0 a ha), fun a ha => ?_, fun a ha => ?_, ?_, fun x hx => ?_⟩
        · rw [List.mem_singleton.mp hy] at e
          rw [e] at hx
          exact hm hx
        · rcases List.mem_append.mp ha with ha | ha
          · exact h.pr a ha
          · rw [List.mem_singleton.mp ha]; exact hb
        · rcases List.mem_append.mp ha with ha | ha
          · exact List.mem_append_left _ (h.wm a ha)
          · exact List.mem_append_right _ ha
        · rcases List.mem_append.mp ha with ha | ha
          · rcases h.new a ha with z | z
            · exact .inl z
            · exact .inr (List.mem_append_left _ z)
          · exact .inr (List.mem_append_right _ ha)
        · have := h.cnt
          simp only [List.length_append, List.length_singleton]
          omega
        · rcases List.mem_append.mp hx with hx | hx
          · exact List.mem_append_left _ (h.done x hx)
          · exact List.mem_append_right _ hx
    have := Ex.fold l (done ++ [b]) (psh st b) h2 fun x hx => hp x (List.mem_cons_of_mem _ hx)
    rw [List.append_assoc] at this
    exact this
theorem Mt.begin (P : α → Prop) (N : α → List α) (a : α) (h : P a) : Mt P N [a] [a] := ⟨by simp, fun x hx => by rw [List.mem_singleton.mp hx]; exact h, fun _ h => h, fun x hx hn => absurd hx hn⟩
theorem nodup_len {l m : List α} (nd : l.Nodup) (h : ∀ a ∈ l, a ∈ m) : l.length ≤ m.length := by
  induction l generalizing m with
  | nil => exact Nat.zero_le _
  | cons a l ih =>
    rw [List.nodup_cons] at nd
    have ha := h a List.mem_cons_self
    have := ih nd.2 (m := m.erase a) fun b hb => (List.mem_erase_of_ne (fun e => nd.1 (by rw [← e]; exact hb))).mpr (h b (List.mem_cons_of_mem _ hb))
    rw [List.length_erase_of_mem ha] at this
    have := List.length_pos_of_mem ha
    rw [List.length_cons]
    omega
theorem Mt.len {P : α → Prop} {N : α → List α} {met wait U : List α} (h : Mt P N met wait) (hU : ∀ a, P a → a ∈ U) : met.length ≤ U.length := nodup_len h.nd fun a ha => hU a (h.pr a ha)
theorem Mt.pop {P : α → Prop} {N : α → List α} {met w : List α} {here : α} (h : Mt P N met (w ++ [here])) (hN : ∀ a b, P a → b ∈ N a → P b) {U : List α} (hU : ∀ a, P a → a ∈ U) :
    Mt P N ((N here).foldl psh (met, w)).1 ((N here).foldl psh (met, w)).2 ∧ (∀ a ∈ met, a ∈ ((N here).foldl psh (met, w)).1) ∧
    (U.length - ((N here).foldl psh (met, w)).1.length) + ((N here).foldl psh (met, w)).2.length < (U.length - met.length) + (w ++ [here]).length := by
  have hh : here ∈ met := h.wm here (by simp)
  have e0 : Ex P met w [] (met, w) := ⟨h.nd, h.pr, fun _ h => h, fun _ h => h, fun a ha => h.wm a (List.mem_append_left _ ha), fun a ha => .inl ha, rfl, fun _ h => by cases h⟩
  have e := e0.fold (N here) [] (met, w) fun b hb => hN here b (h.pr here hh) hb
  rw [List.nil_append] at e
  generalize (N here).foldl psh (met, w) = st at e
  have l1 : st.1.length ≤ U.length := nodup_len e.nd fun a ha => hU a (e.pr a ha)
  have l0 : met.length ≤ st.1.length := nodup_len h.nd e.m0
  refine ⟨⟨e.nd, e.pr, e.wm, fun a ha hw b hb => ?_⟩, e.m0, ?_⟩
  · rcases e.new a ha with z | z
    · by_cases q : a = here
      · subst q
        exact e.done b hb
      · exact e.m0 _ (h.cl a z (fun y => by
          rcases List.mem_append.mp y with y | y
          · exact hw (e.w0 a y)
          · exact q (by simpa using y)) b hb)
    · exact absurd z hw
  · have := e.cnt
    rw [List.length_append, List.length_singleton]
    omega
theorem psh_filter (p : α → Bool) (l : List α) (st : List α × List α) : l.foldl (fun st b => if p b = true ∧ b ∉ st.1 then (st.1 ++ [b], st.2 ++ [b]) else st) st = (l.filter p).foldl psh st := by
  rw [List.foldl_filter]
  congr 1
  funext st b
  unfold psh
  by_cases h1 : p b = true <;> by_cases h2 : b ∈ st.1 <;> simp [h1, h2]
theorem sForI_psh {β : Type} {fi : AI} {t : Tg} {b : AS} {gd : Gd} {ls : Ls} {hp hp1 : Hd} (items : List β) (φ : β → D) (nx : β → α) (p : α → Bool) (Rel : List α × List α → Ls → Hd → Prop) (ei : fi ls hp = some (items.map φ, gd, hp1)) (hg : ∀ s ls hp, Rel s ls hp → gdOk gd hp = true) (st0 : List α × List α) (h0 : Rel st0 ls hp1)
    (hs : ∀ x ∈ items, ∀ st ls hp, Rel st ls hp → (∀ a ∈ st0.1, a ∈ st.1) → st.1.length ≤ st0.1.length + items.length → st.2.length ≤ st0.2.length + items.length → ∃ ls1 ls2 hp2, t.asg (φ x) ls = some ls1 ∧ (b ls1 hp = some (.nx, ls2, hp2) ∨ b ls1 hp = some (.ct, ls2, hp2)) ∧
      Rel (if p (nx x) = true ∧ nx x ∉ st.1 then (st.1 ++ [nx x], st.2 ++ [nx x]) else st) ls2 hp2) :
    ∃ ls' hp', sForI fi t b ls hp = some (.nx, ls', hp') ∧ Rel (((items.map nx).filter p).foldl psh st0) ls' hp' := by
  let f := fun (st : List α × List α) (x : β) => if p (nx x) = true ∧ nx x ∉ st.1 then (st.1 ++ [nx x], st.2 ++ [nx x]) else st
  obtain ⟨ls', hp', e, h, _⟩ := sForI_pre (t := t) (b := b) φ (fun d ls hp => Rel (d.foldl f st0) ls hp ∧ (∀ a ∈ st0.1, a ∈ (d.foldl f st0).1) ∧ (d.foldl f st0).1.length ≤ st0.1.length + d.length ∧ (d.foldl f st0).2.length ≤ st0.2.length + d.length) ei (fun d ls hp h => hg _ _ _ h.1) ⟨h0, fun _ h => h, Nat.le_add_right _ _, Nat.le_add_right _ _⟩ fun d x r ls hp ed ⟨h1, h2, h3, h4⟩ => by
    have hl : d.length + 1 ≤ items.length := by rw [ed, List.length_append, List.length_cons]; omega
    obtain ⟨ls1, ls2, hp2, a, b, c⟩ := hs x (by rw [ed]; simp) _ ls hp h1 h2 (by omega) (by omega)
    refine ⟨ls1, ls2, hp2, a, b, ?_⟩
    rw [List.foldl_append, List.foldl_cons, List.foldl_nil, List.length_append, List.length_singleton]
    generalize d.foldl f st0 = st at *
    refine ⟨c, ?_⟩
    show (∀ a ∈ st0.1, a ∈ (if p (nx x) = true ∧ nx x ∉ st.1 then (st.1 ++ [nx x], st.2 ++ [nx x]) else st).1) ∧ (if p (nx x) = true ∧ nx x ∉ st.1 then (st.1 ++ [nx x], st.2 ++ [nx x]) else st).1.length ≤ _ ∧ (if p (nx x) = true ∧ nx x ∉ st.1 then (st.1 ++ [nx x], st.2 ++ [nx x]) else st).2.length ≤ _
    split
    · refine ⟨fun a ha => List.mem_append_left _ (h2 a ha), ?_, ?_⟩ <;> simp only [List.length_append, List.length_singleton] <;> omega
    · exact ⟨h2, by omega, by omega⟩
  refine ⟨ls', hp', e, ?_⟩
  have : items.foldl f st0 = ((items.map nx).filter p).foldl psh st0 := by
    rw [← psh_filter, List.foldl_map]
  rw [← this]
  exact h
theorem search_while {P : α → Prop} {N : α → List α} (U : List α) (hU : ∀ a, P a → a ∈ U) (hN : ∀ a b, P a → b ∈ N a → P b) {c : AT} {b : AS} (Rel : List α → List α → Ls → Hd → Prop)
    (hc0 : ∀ met ls hp, Rel met [] ls hp → c ls hp = some (false, hp)) (hc1 : ∀ met w here ls hp, Rel met (w ++ [here]) ls hp → c ls hp = some (true, hp))
    (hb : ∀ met w here ls hp, Rel met (w ++ [here]) ls hp → here ∈ met → P here → met.length ≤ U.length → w.length ≤ U.length → (∀ a ∈ met, P a) → ∃ ls2 hp2, b ls hp = some (.nx, ls2, hp2) ∧ Rel ((N here).foldl psh (met, w)).1 ((N here).foldl psh (met, w)).2 ls2 hp2)
    (n : Nat) (a : α) (ha : P a) (ls : Ls) (hp : Hd) (h0 : Rel [a] [a] ls hp) (hn : U.length + 1 < n) : ∃ met ls' hp', sWhile c b n ls hp = some (.nx, ls', hp') ∧ Rel met [] ls' hp' ∧ Mt P N met [] ∧ a ∈ met := by
  have loop := sWhile_rel (S := List α × List α) (c := c) (b := b) (fun st ls hp => Rel st.1 st.2 ls hp ∧ Mt P N st.1 st.2 ∧ a ∈ st.1 ∧ (U.length - st.1.length) + st.2.length ≤ U.length + 1) (fun st => st.2 = []) (fun st => (U.length - st.1.length) + st.2.length) (by
    rintro ⟨met, wait⟩ ls hp ⟨hr, hm, h0, hw⟩
    have hml := hm.len hU
    rcases List.eq_nil_or_concat wait with rfl | ⟨w, here, rfl⟩
    · exact .inl ⟨hc0 met ls hp hr, rfl⟩
    · rw [List.concat_eq_append] at *
      have hh : here ∈ met := hm.wm here (by simp)
      dsimp only at hw hr hm hml
      rw [List.length_append, List.length_singleton] at hw
      obtain ⟨p1, p2, p3⟩ := hm.pop hN hU
      obtain ⟨ls2, hp2, e, hr2⟩ := hb met w here ls hp hr hh (hm.pr here hh) hml (by omega) hm.pr
      refine .inr ⟨hc1 met w here ls hp hr, ((N here).foldl psh (met, w)), ls2, hp2, .inl e, ⟨hr2, p1, p2 a h0, ?_⟩, p3⟩
      rw [List.length_append, List.length_singleton] at p3
      omega) n ([a], [a]) ls hp (by simp only [List.length_singleton]; omega) ⟨h0, Mt.begin _ _ a ha, by simp, by simp only [List.length_singleton]; omega⟩
  obtain ⟨⟨met, wait⟩, ls', hp', e, ⟨hr, hm, h0, _⟩, hd⟩ := loop
  dsimp only at hd hr hm h0
  subst hd
  exact ⟨met, ls', hp', e, hr, hm, h0⟩
inductive Rch (N : α → List α) (a : α) : α → Prop where
  | refl : Rch N a a
  | step {b c : α} : Rch N a b → c ∈ N b → Rch N a c
theorem Rch.closed {N : α → List α} {a : α} {met : List α} (ha : a ∈ met) (cl : ∀ x ∈ met, ∀ b ∈ N x, b ∈ met) : ∀ {b}, Rch N a b → b ∈ met := by
  intro b h
  induction h with
  | refl => exact ha
  | step _ hc ih => exact cl _ ih _ hc
theorem Rch.trans {N : α → List α} {a b c : α} (h1 : Rch N a b) (h2 : Rch N b c) : Rch N a c := by
  induction h2 with
  | refl => exact h1
  | step _ hc ih => exact ih.step hc
theorem Rch.symm {N : α → List α} (hs : ∀ a b, b ∈ N a → a ∈ N b) {a b : α} (h : Rch N a b) : Rch N b a := by
  induction h with
  | refl => exact .refl
  | step _ hc ih => exact Rch.trans (.step .refl (hs _ _ hc)) ih
end
def Gd' (g : List Int → D) (cs : List (List Int)) : List (D × D) := cs.map fun c => (T c, g c)
theorem dKind_Gd (g : List Int → D) (cs : List (List Int)) (a : List Int) : dKind (Gd' g cs) (T a) = true := by
  show ((toKeys (a.map D.int)).isSome && _) = true
  rw [toKeys_ints]
  cases cs <;> rfl
theorem putD_Gd (g : List Int → D) : ∀ (cs : List (List Int)) (a : List Int), putD (Gd' g cs) (T a) (g a) = Gd' g (addC cs a)
  | [], a => rfl
  | c :: cs, a => by
    show putD ((T c, g c) :: Gd' g cs) (T a) (g a) = _
    rw [putD]
    by_cases h : c = a
    · rw [if_pos (same_T.mpr h)]
      subst h
      unfold addC
      rw [if_pos List.mem_cons_self]
      rfl
    · rw [if_neg (fun z => h (same_T.mp z)), putD_Gd g cs a]
      unfold addC
      by_cases h2 : a ∈ cs
      · rw [if_pos h2, if_pos (List.mem_cons_of_mem _ h2)]
        rfl
      · rw [if_neg h2, if_neg (fun z => by
          rcases List.mem_cons.mp z with z | z
          · exact h z.symm
          · exact h2 z)]
        rfl
theorem gSet_Gd {hp : Hd} {n : Nat} {a : List Int} {g : List Int → D} {cs : List (List Int)} (h : hp[n]? = some (.dic (Gd' g cs))) (hn : a ∉ cs) (hl : cs.length < sizeLine) : gSet (.ref n) (T a) (g a) hp = some (hp.set n (.dic (Gd' g (cs ++ [a])))) := by
  unfold gSet
  dsimp only
  rw [h]
  dsimp only
  have hz : (Gd' g cs).length < sizeLine := by
    unfold Gd'
    rw [List.length_map]
    exact hl
  rw [dKind_Gd, decide_eq_true hz, Bool.and_self, if_pos rfl, putD_Gd]
  unfold addC
  rw [if_neg hn]
theorem head_ok (lo hi : Nat) (hlo : lo ≤ 63) (hhi : hi ≤ 63) {ls : Ls} {ns : List Int} (h0 : ls[0]? = some (some (.scr ns))) (hp : Hd) :
    ∃ N : Nat, N ≤ 63 ∧ mR1 (mCons (mAs (mCons (mC (.int (lo : Nat))) (mCons (mAs (mCons (mC (.int (hi : Nat))) (mCons (mAs (mCons (mVar 0) mNil) gLen) mNil)) gMin2) mNil)) gMax2) mNil) ls hp = some ((List.range N).map fun i => D.int (i : Nat), [], hp) := by
  let j : Int := if (if (ns.length : Int) < (hi : Nat) then (ns.length : Int) else (hi : Nat)) > (lo : Nat) then (if (ns.length : Int) < (hi : Nat) then (ns.length : Int) else (hi : Nat)) else (lo : Nat)
  have hj : 0 ≤ j ∧ j ≤ 63 := by
    simp only [j]
    split <;> split <;> omega
  refine ⟨j.toNat, by omega, ?_⟩
  rw [mR1_of (j := j) ?_ (by omega)]
  simp only [mCons_s, mAs_s, mC_s, mVar_s, h0, mNil_s, gLen, gMin2, gMax2]
  rfl
def ddp (cs : List (List Int)) : List (List Int) := cs.foldl addC []
theorem addC_mem {cs : List (List Int)} {a b : List Int} : b ∈ addC cs a ↔ b ∈ cs ∨ b = a := by
  unfold addC
  split
  · rename_i h
    exact ⟨fun z => .inl z, fun z => z.elim id fun e => by rw [e]; exact h⟩
  · rw [List.mem_append, List.mem_singleton]
theorem foldl_addC_mem {b : List Int} : ∀ (cs acc : List (List Int)), b ∈ cs.foldl addC acc ↔ b ∈ acc ∨ b ∈ cs
  | [], acc => by simp
  | c :: cs, acc => by
    rw [List.foldl_cons, foldl_addC_mem cs, addC_mem, List.mem_cons]
    exact ⟨fun h => by rcases h with (h | h) | h <;> simp [h], fun h => by rcases h with h | h | h <;> simp [h]⟩
theorem ddp_mem {b : List Int} {cs : List (List Int)} : b ∈ ddp cs ↔ b ∈ cs := by
  unfold ddp
  rw [foldl_addC_mem]
  simp
theorem addC_nodup {cs : List (List Int)} {a : List Int} (h : cs.Nodup) : (addC cs a).Nodup := by
  unfold addC
  split
  · exact h
  · rename_i hn
    exact List.nodup_append.mpr ⟨h, by simp, fun x hx y hy e => hn (by rw [← List.mem_singleton.mp hy, ← e]; exact hx)⟩
theorem foldl_addC_nodup : ∀ (cs acc : List (List Int)), acc.Nodup → (cs.foldl addC acc).Nodup
  | [], acc, h => h
  | c :: cs, acc, h => foldl_addC_nodup cs _ (addC_nodup h)
theorem ddp_nodup (cs : List (List Int)) : (ddp cs).Nodup := foldl_addC_nodup cs [] List.nodup_nil
theorem foldl_addC_len : ∀ (cs acc : List (List Int)), (cs.foldl addC acc).length ≤ acc.length + cs.length
  | [], acc => Nat.le_refl _
  | c :: cs, acc => by
    have h1 := foldl_addC_len cs (addC acc c)
    have h2 : (addC acc c).length ≤ acc.length + 1 := by
      unfold addC
      split
      · omega
      · rw [List.length_append]; exact Nat.le_refl _
    rw [List.foldl_cons, List.length_cons]
    omega
theorem ddp_len (cs : List (List Int)) : (ddp cs).length ≤ cs.length := by
  have := foldl_addC_len cs []
  simpa [ddp] using this
end Ve
namespace Ve
open PySem PySem.Spec L2
def BG : List (List (List Int)) := [[[0, 0, 0]], [[0, 0, 0], [0, 1, 0], [0, 2, 0], [1, 0, 0], [1, 2, 0], [2, 0, 0], [2, 1, 0], [2, 2, 0]],
  [[0, 0, 0], [0, 0, 1], [0, 0, 2], [0, 1, 0], [0, 1, 1], [0, 1, 2], [0, 2, 0], [0, 2, 1], [0, 2, 2], [1, 0, 0], [1, 0, 1], [1, 0, 2], [1, 1, 0], [1, 1, 2], [1, 2, 0], [1, 2, 1], [1, 2, 2], [2, 0, 0], [2, 0, 1], [2, 0, 2], [2, 1, 0], [2, 1, 1], [2, 1, 2], [2, 2, 0], [2, 2, 1], [2, 2, 2]],
  [[0, 0, 1], [0, 1, 0], [0, 1, 1], [0, 1, 2], [0, 2, 1], [1, 0, 0], [1, 0, 1], [1, 0, 2], [1, 1, 0], [1, 1, 2], [1, 2, 0], [1, 2, 1], [1, 2, 2], [2, 0, 1], [2, 1, 0], [2, 1, 1], [2, 1, 2], [2, 2, 1]]]
theorem nrO_Ts (bs : List (List Int)) : nrO (.lst (bs.map T)) = true := nrs_T bs
def nb (c : List Int) (d : Int) : List Int := match c with
  | [x, y, z] => if d = 0 then [x + 1, y, z] else if d = 1 then [x + -1, y, z] else if d = 2 then [x, y + 1, z] else if d = 3 then [x, y + -1, z] else if d = 4 then [x, y, z + 1] else [x, y, z + -1]
  | _ => c
def opp (d : Int) : Int := if d = 0 then 1 else if d = 1 then 0 else if d = 2 then 3 else if d = 3 then 2 else if d = 4 then 5 else 4
theorem six {d : Int} (h : 0 ≤ d ∧ d < 6) : d = 0 ∨ d = 1 ∨ d = 2 ∨ d = 3 ∨ d = 4 ∨ d = 5 := by omega
theorem opp_in {d : Int} (h : 0 ≤ d ∧ d < 6) : 0 ≤ opp d ∧ opp d < 6 := by
  rcases six h with rfl | rfl | rfl | rfl | rfl | rfl <;> decide
theorem nb_opp {x y z d : Int} (h : 0 ≤ d ∧ d < 6) : nb (nb [x, y, z] d) (opp d) = [x, y, z] := by
  rcases six h with rfl | rfl | rfl | rfl | rfl | rfl <;> simp [nb, opp] <;> omega
theorem nrs_Ti (c : List Int) (d : Int) : nrs [T c, .int d] = true := nrs_cons (nr_T c) rfl
def Cb (B : Int) (c : List Int) : Prop := ∃ x y z : Int, c = [x, y, z] ∧ (-B ≤ x ∧ x ≤ B) ∧ (-B ≤ y ∧ y ≤ B) ∧ (-B ≤ z ∧ z ≤ B)
theorem Cb.mono {B B' : Int} {c : List Int} (h : Cb B c) (hb : B ≤ B') : Cb B' c := by
  obtain ⟨x, y, z, e, h1, h2, h3⟩ := h
  exact ⟨x, y, z, e, by omega, by omega, by omega⟩
theorem Cb.nb {B : Int} {c : List Int} {d : Int} (h : Cb B c) (hd : 0 ≤ d ∧ d < 6) : Cb (B + 1) (nb c d) := by
  obtain ⟨x, y, z, rfl, h1, h2, h3⟩ := h
  rcases six hd with rfl | rfl | rfl | rfl | rfl | rfl
  · exact ⟨x + 1, y, z, rfl, by omega, by omega, by omega⟩
  · exact ⟨x + -1, y, z, rfl, by omega, by omega, by omega⟩
  · exact ⟨x, y + 1, z, rfl, by omega, by omega, by omega⟩
  · exact ⟨x, y + -1, z, rfl, by omega, by omega, by omega⟩
  · exact ⟨x, y, z + 1, rfl, by omega, by omega, by omega⟩
  · exact ⟨x, y, z + -1, rfl, by omega, by omega, by omega⟩
theorem Cb.ne {B : Int} {c : List Int} (h : Cb B c) : c ≠ [] := by
  obtain ⟨x, y, z, rfl, _⟩ := h
  exact fun z => by cases z
def Conn (cs : List (List Int)) : Prop := ∀ S : List Int → Prop, (∃ c ∈ cs, S c) → (∀ a ∈ cs, ∀ d, (0 ≤ d ∧ d < 6) → S a → nb a d ∈ cs → S (nb a d)) → ∀ c ∈ cs, S c
theorem conn_one (c : List Int) : Conn [c] := fun S ⟨a, ha, sa⟩ _ b hb => by
  have e1 : a = c := by simpa using ha
  have e2 : b = c := by simpa using hb
  rw [e2, ← e1]
  exact sa
theorem conn_add {cs : List (List Int)} {B : Int} (h : Conn cs) {a : List Int} (ha : a ∈ cs) (hB : Cb B a) {d : Int} (hd : 0 ≤ d ∧ d < 6) : Conn (cs ++ [nb a d]) := by
  intro S hs cl
  have cl' : ∀ a ∈ cs, ∀ d, (0 ≤ d ∧ d < 6) → S a → nb a d ∈ cs → S (nb a d) := fun a ha d hd sa hn => cl a (List.mem_append_left _ ha) d hd sa (List.mem_append_left _ hn)
  have all : ∃ c ∈ cs, S c := by
    obtain ⟨c, hc, sc⟩ := hs
    rcases List.mem_append.mp hc with hc | hc
    · exact ⟨c, hc, sc⟩
    · have e : c = nb a d := by simpa using hc
      subst e
      obtain ⟨x, y, z, rfl, _⟩ := hB
      have q := nb_opp (x := x) (y := y) (z := z) hd
      have := cl _ (List.mem_append_right _ hc) (opp d) (opp_in hd) sc (by rw [q]; exact List.mem_append_left _ ha)
      rw [q] at this
      exact ⟨_, ha, this⟩
  have all2 := h S all cl'
  intro c hc
  rcases List.mem_append.mp hc with hc | hc
  · exact all2 c hc
  · have e : c = nb a d := by simpa using hc
    subst e
    exact cl a (List.mem_append_left _ ha) d hd (all2 a ha) (List.mem_append_right _ hc)
theorem conn_congr {cs ds : List (List Int)} (h : Conn cs) (e : ∀ c, c ∈ cs ↔ c ∈ ds) : Conn ds := fun S ⟨a, ha, sa⟩ cl c hc =>
  h S ⟨a, (e a).mpr ha, sa⟩ (fun a ha d hd sa hn => cl a ((e a).mp ha) d hd sa ((e _).mp hn)) c ((e c).mpr hc)
def grB : List (List Int) → List (List Int) → Bool
  | _, [] => true
  | acc, c :: r => (acc.any fun a => [0, 1, 2, 3, 4, 5].any fun d => nb a d == c) && grB (acc ++ [c]) r
theorem conn_grB {B : Int} : ∀ (r acc : List (List Int)), Conn acc → (∀ c ∈ acc, Cb B c) → (∀ c ∈ r, Cb B c) → grB acc r = true → Conn (acc ++ r)
  | [], acc, h, _, _, _ => by rw [List.append_nil]; exact h
  | c :: r, acc, h, ha, hr, g => by
    unfold grB at g
    rw [Bool.and_eq_true, List.any_eq_true] at g
    obtain ⟨⟨a, ha2, g1⟩, g2⟩ := g
    rw [List.any_eq_true] at g1
    obtain ⟨d, hd, g1⟩ := g1
    have e := eq_of_beq g1
    have hd6 : 0 ≤ d ∧ d < 6 := by
      simp at hd
      omega
    subst e
    have := conn_grB r (acc ++ [nb a d]) (conn_add h ha2 (ha a ha2) hd6) (fun c hc => by
      rcases List.mem_append.mp hc with hc | hc
      · exact ha c hc
      · have e : c = nb a d := by simpa using hc
        rw [e]
        exact hr _ List.mem_cons_self) (fun c hc => hr c (List.mem_cons_of_mem _ hc)) g2
    rw [List.append_assoc] at this
    exact this
def cbB (B : Int) (c : List Int) : Bool := match c with
  | [x, y, z] => decide ((-B ≤ x ∧ x ≤ B) ∧ (-B ≤ y ∧ y ≤ B) ∧ (-B ≤ z ∧ z ≤ B))
  | _ => false
theorem cb_of {B : Int} {c : List Int} (h : cbB B c = true) : Cb B c := by
  unfold cbB at h
  split at h
  · exact ⟨_, _, _, rfl, of_decide_eq_true h⟩
  · cases h
structure BodyS (B : Int) (cs : List (List Int)) : Prop where
  nd : cs.Nodup
  cb : ∀ c ∈ cs, Cb B c
  conn : Conn cs
  ne : cs ≠ []
  few : cs.length ≤ 30
def P18 : List (List Int) := [[0, 0, 1], [0, 1, 1], [0, 1, 0], [0, 1, 2], [0, 2, 1], [1, 0, 1], [1, 0, 0], [1, 0, 2], [1, 1, 0], [1, 1, 2], [1, 2, 0], [1, 2, 1], [1, 2, 2], [2, 0, 1], [2, 1, 0], [2, 1, 1], [2, 1, 2], [2, 2, 1]]
theorem bgs_cb : (BG.all fun bs => bs.all (cbB 2) && decide (bs.length ≤ 30) && decide bs.Nodup && decide (bs ≠ [])) = true := by decide +kernel
theorem bgs_conn : ((BG.take 3).all fun bs => grB (bs.take 1) (bs.drop 1)) = true := by decide +kernel
theorem p18 : (grB (P18.take 1) (P18.drop 1) && P18.all (fun c => (BG.getD 3 []).contains c) && (BG.getD 3 []).all (fun c => P18.contains c) && P18.all (cbB 2)) = true := by decide +kernel
theorem begun_bodyS {bs : List (List Int)} (h : bs ∈ BG) : BodyS 2 bs := by
  have h1 := List.all_eq_true.mp bgs_cb bs h
  rw [Bool.and_eq_true, Bool.and_eq_true, Bool.and_eq_true] at h1
  obtain ⟨⟨⟨h1, h2⟩, h3⟩, h4⟩ := h1
  have cb : ∀ c ∈ bs, Cb 2 c := fun c hc => cb_of (List.all_eq_true.mp h1 c hc)
  refine ⟨of_decide_eq_true h3, cb, ?_, of_decide_eq_true h4, of_decide_eq_true h2⟩
  have first : ∀ {cs : List (List Int)}, cs ≠ [] → (∀ c ∈ cs, Cb 2 c) → grB (cs.take 1) (cs.drop 1) = true → Conn cs := by
    intro cs hne hc g
    cases cs with
    | nil => exact absurd rfl hne
    | cons c r => exact conn_grB r [c] (conn_one c) (fun x hx => hc x (by rw [show x = c by simpa using hx]; exact List.mem_cons_self)) (fun x hx => hc x (List.mem_cons_of_mem _ hx)) g
  have hm : bs ∈ BG.take 3 ∨ bs = BG.getD 3 [] := by
    have h : bs ∈ BG.take 3 ++ [BG.getD 3 []] := h
    rcases List.mem_append.mp h with h | h
    · exact .inl h
    · exact .inr (by simpa using h)
  rcases hm with hm | hm
  · exact first (of_decide_eq_true h4) cb (List.all_eq_true.mp bgs_conn bs hm)
  · have p := p18
    rw [Bool.and_eq_true, Bool.and_eq_true, Bool.and_eq_true] at p
    obtain ⟨⟨⟨p1, p2⟩, p3⟩, p4⟩ := p
    have c18 := first (cs := P18) (by decide) (fun c hc => cb_of (List.all_eq_true.mp p4 c hc)) p1
    subst hm
    exact conn_congr c18 fun c => ⟨fun hc => by simpa using List.all_eq_true.mp p2 c hc, fun hc => by simpa using List.all_eq_true.mp p3 c hc⟩
theorem BodyS.mono {B B' : Int} {cs : List (List Int)} (h : BodyS B cs) (hb : B ≤ B') : BodyS B' cs := ⟨h.nd, fun c hc => (h.cb c hc).mono hb, h.conn, h.ne, h.few⟩
theorem BodyS.nes {B : Int} {cs : List (List Int)} (h : BodyS B cs) : ∀ c ∈ cs, c ≠ [] := fun c hc => (h.cb c hc).ne
theorem BodyS.add {B : Int} {cs : List (List Int)} (h : BodyS B cs) {a : List Int} (ha : a ∈ cs) {d : Int} (hd : 0 ≤ d ∧ d < 6) (hl : cs.length < 30) : BodyS (B + 1) (addC cs (nb a d)) := by
  unfold addC
  split
  · exact h.mono (by omega)
  · rename_i hn
    refine ⟨List.nodup_append.mpr ⟨h.nd, by simp, fun x hx y hy => ?_⟩, fun c hc => ?_, conn_add h.conn ha (h.cb a ha) hd, by simp, by rw [List.length_append]; simp; omega⟩
    · have : y = nb a d := by simpa using hy
      subst this
      intro e
      subst e
      exact hn hx
    · rcases List.mem_append.mp hc with hc | hc
      · exact (h.cb c hc).mono (by omega)
      · have : c = nb a d := by simpa using hc
        subst this
        exact (h.cb a ha).nb hd
theorem mem_addC {cs : List (List Int)} {a : List Int} : a ∈ addC cs a := by
  unfold addC
  split
  · assumption
  · simp
theorem mVar_of {ls : Ls} {hp : Hd} {i : Nat} {d : D} (h : ls[i]? = some (some d)) : mVar i ls hp = some (d, hp) := by
  rw [mVar_s, h]
theorem mSorted_dic {fa : AE} {ls : Ls} {hp hp1 : Hd} {n : Nat} {cs : List (List Int)} (e : fa ls hp = some (.ref n, hp1)) (h : hp1[n]? = some (.dic (Cd cs))) (hn : ∀ c ∈ cs, c ≠ []) : mSorted fa ls hp = some ((sortC cs).map T, hp1) := by
  unfold mSorted
  rw [e]
  exact gSrtO_dic h hn
theorem gIx_lst0 {hp : Hd} {n : Nat} {xs : List D} {x : D} (h : hp[n]? = some (.lst xs)) (e : xs[0]? = some x) : gIx (.ref n) (.int 0) hp = some (x, hp) := by
  have : atI xs ((0 : Nat) : Int) = some x := atI_nat e
  show (match hp[n]? with
    | some (.lst ds) => match atI ds 0 with
      | some d => some (d, hp)
      | none => none
    | some o => match dicOf o with
      | some kvs => if dKind kvs (.int 0) = true then match look kvs (.int 0) with
        | some d => some (d, hp)
        | none => none else none
      | none => none
    | none => none) = _
  rw [h]
  dsimp only
  rw [show atI xs 0 = some x from this]
def mv (a b c : Int) (l : List Int) : List Int := match l with
  | [x, y, z] => [x + a, y + b, z + c]
  | l => l
theorem mv_nb (a b c x y z d : Int) : nb (mv a b c [x, y, z]) d = mv a b c (nb [x, y, z] d) := by
  unfold nb
  by_cases h0 : d = 0
  · simp [h0, mv]; omega
  · by_cases h1 : d = 1
    · simp [h1, mv]; omega
    · by_cases h2 : d = 2
      · simp [h2, mv]; omega
      · by_cases h3 : d = 3
        · simp [h3, mv]; omega
        · by_cases h4 : d = 4
          · simp [h4, mv]; omega
          · simp [h0, h1, h2, h3, h4, mv]; omega
theorem mv_inj {a b c B : Int} {l m : List Int} (hl : Cb B l) (hm : Cb B m) (h : mv a b c l = mv a b c m) : l = m := by
  obtain ⟨x, y, z, rfl, _⟩ := hl
  obtain ⟨x', y', z', rfl, _⟩ := hm
  simp [mv] at h
  simp
  omega
theorem conn_map {cs : List (List Int)} {a b c B : Int} (h : Conn cs) (hb : ∀ l ∈ cs, Cb B l) : Conn (cs.map (mv a b c)) := by
  intro S ⟨l, hl, sl⟩ cl m hm
  obtain ⟨l0, hl0, rfl⟩ := List.mem_map.mp hl
  obtain ⟨m0, hm0, rfl⟩ := List.mem_map.mp hm
  refine h (fun l => S (mv a b c l)) ⟨l0, hl0, sl⟩ (fun l hl d hd sl hn => ?_) m0 hm0
  obtain ⟨x, y, z, rfl, _⟩ := hb l hl
  have := cl (mv a b c [x, y, z]) (List.mem_map.mpr ⟨_, hl, rfl⟩) d hd sl (by rw [mv_nb]; exact List.mem_map.mpr ⟨_, hn, rfl⟩)
  rw [mv_nb] at this
  exact this
structure Bod (B : Int) (bs : List (List Int)) : Prop where
  srt : bs.Pairwise (· < ·)
  cb : ∀ c ∈ bs, Cb B c
  conn : Conn bs
  ne : bs ≠ []
  few : bs.length ≤ 30
theorem lt_of {a b : List Int} (h : a ≤ b) (hne : a ≠ b) : a < b := by
  rcases Decidable.em (a < b) with h2 | h2
  · exact h2
  · exact absurd (List.le_antisymm h (List.not_lt.mp h2)) hne
theorem nodup_of_lt {bs : List (List Int)} (h : bs.Pairwise (· < ·)) : bs.Nodup := h.imp fun {a b} h e => by
  subst e
  exact List.lt_irrefl a h
theorem BodyS.told {B : Int} {cs : List (List Int)} (h : BodyS B cs) {a b c M : Int} (ha : -M ≤ a ∧ a ≤ M) (hb : -M ≤ b ∧ b ≤ M) (hc : -M ≤ c ∧ c ≤ M) : Bod (B + M) (sortC (cs.map (mv a b c))) := by
  have pm := sortC_perm (cs.map (mv a b c))
  have nd : (cs.map (mv a b c)).Nodup := by
    refine List.pairwise_map.mpr (List.Pairwise.imp_of_mem (fun {x y} hx hy hne e => hne (mv_inj (h.cb x hx) (h.cb y hy) e)) h.nd)
  refine ⟨?_, fun l hl => ?_, conn_congr (conn_map h.conn h.cb) fun l => pm.mem_iff.symm, fun e => ?_, by rw [pm.length_eq, List.length_map]; exact h.few⟩
  · have nd2 : (sortC (cs.map (mv a b c))).Nodup := pm.nodup_iff.mpr nd
    exact (List.Pairwise.and (sortC_sorted _) nd2).imp fun ⟨h1, h2⟩ => lt_of h1 h2
  · obtain ⟨m, hm, rfl⟩ := List.mem_map.mp (pm.mem_iff.mp hl)
    obtain ⟨x, y, z, rfl, h1, h2, h3⟩ := h.cb m hm
    exact ⟨x + a, y + b, z + c, rfl, by omega, by omega, by omega⟩
  · have := pm.length_eq
    rw [e, List.length_map] at this
    exact h.ne (List.eq_nil_of_length_eq_zero this.symm)
def D4 : List Int := [0, 3, -7, 60]
theorem d4_in {v : Int} (h : v ∈ D4) : -60 ≤ v ∧ v ≤ 60 := by
  simp [D4] at h
  omega
def Spr (W : Int) (bs : List (List Int)) : Prop := ∀ l ∈ bs, ∀ m ∈ bs, ∀ i : Nat, l.getD i 0 - m.getD i 0 ≤ W
theorem nodup_le : ∀ (l m : List (List Int)), l.Nodup → (∀ a ∈ l, a ∈ m) → l.length ≤ m.length
  | [], m, _, _ => Nat.zero_le _
  | a :: l, m, nd, h => by
    rw [List.nodup_cons] at nd
    have ha := h a List.mem_cons_self
    have ih := nodup_le l (m.erase a) nd.2 fun b hb => (List.mem_erase_of_ne (fun e => nd.1 (by rw [← e]; exact hb))).mpr (h b (List.mem_cons_of_mem _ hb))
    rw [List.length_erase_of_mem ha] at ih
    have := List.length_pos_of_mem ha
    rw [List.length_cons]
    omega
theorem gIx_tup {hp : Hd} {ds : List D} {d : D} {j : Nat} (e : ds[j]? = some d) : gIx (.tup ds) (.int (j : Nat)) hp = some (d, hp) := by
  have : atI ds (j : Int) = some d := atI_nat e
  show (match atI ds (j : Int) with
    | some d => some (d, hp)
    | none => none) = _
  rw [this]
theorem zip_lt : ∀ {l : List (List Int)}, l.Pairwise (· < ·) → ∀ p ∈ l.zip (l.drop 1), p.1 < p.2
  | [], _, p, h => by simp at h
  | [a], _, p, h => by simp at h
  | a :: b :: r, hp, p, h => by
    rw [List.pairwise_cons] at hp
    have h : p ∈ (a, b) :: (b :: r).zip r := h
    rcases List.mem_cons.mp h with z | z
    · rw [z]
      exact hp.1 b List.mem_cons_self
    · exact zip_lt hp.2 p z
theorem zipD_T : ∀ as bs : List (List Int), zipD (as.map T) (bs.map T) = (as.zip bs).map fun p => D.tup [T p.1, T p.2]
  | [], _ => by simp [zipD]
  | _ :: _, [] => by simp [zipD]
  | a :: as, b :: bs => by
    rw [List.map_cons, List.map_cons, zipD, zipD_T as bs, List.zip_cons_cons, List.map_cons]
theorem cutD_one {l : List (List Int)} (h : l ≠ []) : cutD (l.map T) (some 1) none = (l.drop 1).map T := by
  unfold cutD
  have hp : 0 < l.length := List.length_pos_iff.mpr h
  have e : HT.sIx (l.map T).length 0 (some 1) = 1 := by
    have := HT.sIx_nat (l.map T).length 0 1
    rw [List.length_map] at this ⊢
    rw [show ((1 : Nat) : Int) = 1 from rfl] at this
    rw [this]
    omega
  rw [e, HT.sIx_none, ← List.map_drop, List.take_of_length_le (by rw [List.length_map, List.length_drop, List.length_map]; omega)]
def Three (bs : List (List Int)) : Prop := ∀ c ∈ bs, ∃ x y z, c = [x, y, z]
theorem three_of {B : Int} {bs : List (List Int)} (h : ∀ c ∈ bs, Cb B c) : Three bs := fun c hc => by
  obtain ⟨x, y, z, e, _⟩ := h c hc
  exact ⟨x, y, z, e⟩
theorem nrs_tTs (bs : List (List Int)) : nrs [.tup (bs.map T)] = true := nrs_cons (nr_tTs bs) rfl
def mnC (bs : List (List Int)) (i : Nat) : Int := match bs.map fun l => l.getD i 0 with
  | a :: r => minI a r
  | [] => 0
theorem mnC_is {bs : List (List Int)} (h : bs ≠ []) (i : Nat) : (∃ l ∈ bs, l.getD i 0 = mnC bs i) ∧ ∀ l ∈ bs, mnC bs i ≤ l.getD i 0 := by
  have key : mnC bs i ∈ bs.map (fun l => l.getD i 0) ∧ ∀ v ∈ bs.map (fun l => l.getD i 0), mnC bs i ≤ v := by
    unfold mnC
    cases e : bs.map fun l => l.getD i 0 with
    | nil => exact absurd (List.map_eq_nil_iff.mp e) h
    | cons a r =>
      obtain ⟨h1, h2, h3⟩ := minI_is r a
      refine ⟨?_, fun v hv => ?_⟩
      · rcases h1 with z | z
        · show minI a r ∈ a :: r
          rw [z]; exact List.mem_cons_self
        · exact List.mem_cons_of_mem _ z
      · rcases List.mem_cons.mp hv with z | z
        · rw [z]; exact h2
        · exact h3 v z
  obtain ⟨h1, h2⟩ := key
  obtain ⟨l, hl, e⟩ := List.mem_map.mp h1
  exact ⟨⟨l, hl, e⟩, fun l hl => h2 _ (List.mem_map.mpr ⟨l, hl, rfl⟩)⟩
theorem mnC_eq {bs : List (List Int)} {i : Nat} {m : Int} (h1 : ∃ l ∈ bs, l.getD i 0 = m) (h2 : ∀ l ∈ bs, m ≤ l.getD i 0) : mnC bs i = m := by
  obtain ⟨l, hl, e⟩ := h1
  obtain ⟨⟨l', hl', e'⟩, h4⟩ := mnC_is (List.ne_nil_of_mem hl) i
  have := h4 l hl
  have := h2 l' hl'
  omega
def HM (bs : List (List Int)) : List (List Int) := bs.map (mv (-(mnC bs 0)) (-(mnC bs 1)) (-(mnC bs 2)))
theorem mnC_mv {a b c : Int} {bs : List (List Int)} (h3 : Three bs) (hne : bs ≠ []) : mnC (bs.map (mv a b c)) 0 = mnC bs 0 + a ∧ mnC (bs.map (mv a b c)) 1 = mnC bs 1 + b ∧ mnC (bs.map (mv a b c)) 2 = mnC bs 2 + c := by
  have key : ∀ (i : Nat) (s : Int), (∀ x y z : Int, (mv a b c [x, y, z]).getD i 0 = ([x, y, z] : List Int).getD i 0 + s) → mnC (bs.map (mv a b c)) i = mnC bs i + s := fun i s hs => by
    obtain ⟨⟨l, hl, e⟩, h2⟩ := mnC_is hne i
    refine mnC_eq ⟨_, List.mem_map.mpr ⟨l, hl, rfl⟩, ?_⟩ fun m hm => ?_
    · obtain ⟨x, y, z, rfl⟩ := h3 l hl
      rw [hs, e]
    · obtain ⟨m0, hm0, rfl⟩ := List.mem_map.mp hm
      have := h2 m0 hm0
      obtain ⟨x, y, z, rfl⟩ := h3 m0 hm0
      rw [hs]
      omega
  exact ⟨key 0 a fun x y z => rfl, key 1 b fun x y z => rfl, key 2 c fun x y z => rfl⟩
theorem HM_mv {a b c : Int} {bs : List (List Int)} (h3 : Three bs) (hne : bs ≠ []) : HM (bs.map (mv a b c)) = HM bs := by
  obtain ⟨e0, e1, e2⟩ := mnC_mv (a := a) (b := b) (c := c) h3 hne
  unfold HM
  rw [e0, e1, e2, List.map_map]
  refine List.map_congr_left fun l hl => ?_
  obtain ⟨x, y, z, rfl⟩ := h3 l hl
  simp [mv]
  omega
theorem three_map {a b c : Int} {bs : List (List Int)} (h : Three bs) : Three (bs.map (mv a b c)) := fun l hl => by
  obtain ⟨m, hm, rfl⟩ := List.mem_map.mp hl
  obtain ⟨x, y, z, rfl⟩ := h m hm
  exact ⟨_, _, _, rfl⟩
theorem three_HM {bs : List (List Int)} (h : Three bs) : Three (HM bs) := three_map h
theorem three_ne {bs : List (List Int)} (h : Three bs) : ∀ c ∈ bs, c ≠ [] := fun c hc => by
  obtain ⟨x, y, z, rfl⟩ := h c hc
  exact fun z => by cases z
theorem gIx_T {hp : Hd} {l : List Int} {i : Nat} (h : ∃ x y z, l = [x, y, z]) (hi : i < 3) : gIx (T l) (.int (i : Nat)) hp = some (.int (l.getD i 0), hp) := by
  obtain ⟨x, y, z, rfl⟩ := h
  rcases i with _ | _ | _ | i
  · exact gIx_tup (j := 0) rfl
  · exact gIx_tup (j := 1) rfl
  · exact gIx_tup (j := 2) rfl
  · omega
theorem gMinL_mn {hp : Hd} {bs : List (List Int)} (hne : bs ≠ []) (i : Nat) : gMinL (bs.map fun l => D.int (l.getD i 0)) hp = some (.int (mnC bs i), hp) := by
  unfold gMinL minD mnC
  have e : (bs.map fun l => D.int (l.getD i 0)) = (bs.map fun l => l.getD i 0).map D.int := by rw [List.map_map]; rfl
  rw [e, ints?_map]
  cases e2 : bs.map fun l => l.getD i 0 with
  | nil => exact absurd (List.map_eq_nil_iff.mp e2) hne
  | cons a r => rfl
theorem mR1_three {fr : AA} {ls : Ls} {hp : Hd} (e : fr ls hp = some ([.int 3], hp)) : mR1 fr ls hp = some ((List.range 3).map fun i => D.int (i : Nat), [], hp) := by
  unfold mR1
  rw [e]
  rfl
def SP : List (List Int) := [[0, 2, 4], [0, 3, 5], [0, 4, 3], [0, 5, 2], [1, 2, 5], [1, 3, 4], [1, 4, 2], [1, 5, 3], [2, 0, 5], [2, 1, 4], [2, 4, 0], [2, 5, 1], [3, 0, 4], [3, 1, 5], [3, 4, 1], [3, 5, 0], [4, 0, 2], [4, 1, 3], [4, 2, 1], [4, 3, 0], [5, 0, 3], [5, 1, 2], [5, 2, 0], [5, 3, 1]]
def gz (x : List Int) (d : Int) : Int := if d % 2 = 0 then x.getD (d / 2).toNat 0 else x.getD (d / 2).toNat 0 + 1 - 2 * (x.getD (d / 2).toNat 0 % 2)
theorem spIn : (SP.all fun x => x.all fun d => [0, 1, 2, 3, 4, 5].contains d) = true := by decide +kernel
theorem spMem {x : List Int} (hx : x ∈ SP) {d : Int} (hd : d ∈ x) : d ∈ [0, 1, 2, 3, 4, 5] := by
  have h := spIn
  rw [List.all_eq_true] at h
  have h2 := h x hx
  rw [List.all_eq_true] at h2
  have h3 := h2 d hd
  simpa using h3
def bth (y x : List Int) : List Int := x.map (gz y)
def spC (s c : List Int) : List Int := (c.zip s).foldl (fun m p => m.set (p.2 / 2).toNat (p.1 * (1 - 2 * (p.2 % 2)))) [0, 0, 0]
theorem sp_form {s : List Int} (hs : s ∈ SP) (x y z : Int) : ∃ a b c, spC s [x, y, z] = [a, b, c] := by
  simp only [SP, List.mem_cons, List.not_mem_nil, or_false] at hs
  rcases hs with rfl | rfl | rfl | rfl | rfl | rfl | rfl | rfl | rfl | rfl | rfl | rfl | rfl | rfl | rfl | rfl | rfl | rfl | rfl | rfl | rfl | rfl | rfl | rfl <;> exact ⟨_, _, _, rfl⟩
theorem sp_id (x y z : Int) : spC [0, 2, 4] [x, y, z] = [x, y, z] := by simp [spC]
theorem sp_mv {s : List Int} (hs : s ∈ SP) (a b c x y z : Int) : spC s (mv a b c [x, y, z]) = mv ((spC s [a, b, c]).getD 0 0) ((spC s [a, b, c]).getD 1 0) ((spC s [a, b, c]).getD 2 0) (spC s [x, y, z]) := by
  simp only [SP, List.mem_cons, List.not_mem_nil, or_false] at hs
  rcases hs with rfl | rfl | rfl | rfl | rfl | rfl | rfl | rfl | rfl | rfl | rfl | rfl | rfl | rfl | rfl | rfl | rfl | rfl | rfl | rfl | rfl | rfl | rfl | rfl <;> simp [spC, mv] <;> omega
theorem sortC_eq_of_perm {xs ys : List (List Int)} (h : xs.Perm ys) : sortC xs = sortC ys :=
  ((sortC_perm xs).trans (h.trans (sortC_perm ys).symm)).eq_of_pairwise (fun a b _ _ h1 h2 => List.le_antisymm h1 h2) (sortC_sorted xs) (sortC_sorted ys)
theorem mv_le (a b c : Int) (x y z x' y' z' : Int) (h : ([x, y, z] : List Int) ≤ [x', y', z']) : mv a b c [x, y, z] ≤ mv a b c [x', y', z'] := by
  simp [mv, List.cons_le_cons_iff] at h ⊢
  omega
theorem sortC_mv {a b c : Int} {ys : List (List Int)} (h : Three ys) : sortC (ys.map (mv a b c)) = (sortC ys).map (mv a b c) := by
  refine ((sortC_perm _).trans ((sortC_perm ys).symm.map _)).eq_of_pairwise (fun a b _ _ h1 h2 => List.le_antisymm h1 h2) (sortC_sorted _) ?_
  refine List.pairwise_map.mpr ((sortC_sorted ys).imp_of_mem fun {l m} hl hm hle => ?_)
  obtain ⟨x, y, z, rfl⟩ := h l ((sortC_perm ys).mem_iff.mp hl)
  obtain ⟨x', y', z', rfl⟩ := h m ((sortC_perm ys).mem_iff.mp hm)
  exact mv_le a b c x y z x' y' z' hle
theorem mnC_perm {xs ys : List (List Int)} (h : xs.Perm ys) (i : Nat) : mnC xs i = mnC ys i := by
  cases xs with
  | nil => rw [h.nil_eq]
  | cons a r =>
    obtain ⟨⟨l, hl, e⟩, h2⟩ := mnC_is (List.cons_ne_nil a r) i
    exact (mnC_eq ⟨l, h.mem_iff.mp hl, e⟩ fun m hm => h2 m (h.mem_iff.mpr hm)).symm
theorem three_sort {ys : List (List Int)} (h : Three ys) : Three (sortC ys) := fun c hc => h c ((sortC_perm ys).mem_iff.mp hc)
theorem HM_sort {ys : List (List Int)} (h : Three ys) : HM (sortC ys) = sortC (HM ys) := by
  unfold HM
  rw [sortC_mv h, mnC_perm (sortC_perm ys), mnC_perm (sortC_perm ys), mnC_perm (sortC_perm ys)]
def SPUN (s : List Int) (bs : List (List Int)) : List (List Int) := HM (sortC (bs.map (spC s)))
theorem three_sp {s : List Int} (hs : s ∈ SP) {bs : List (List Int)} (h : Three bs) : Three (bs.map (spC s)) := fun l hl => by
  obtain ⟨m, hm, rfl⟩ := List.mem_map.mp hl
  obtain ⟨x, y, z, rfl⟩ := h m hm
  exact sp_form hs x y z
def nxB (bs : List (List Int)) (a : List Int) : List (List Int) := ((List.range 6).map fun d : Nat => nb a (d : Int)).filter fun b => decide (b ∈ bs)
theorem nxB_in {bs : List (List Int)} {a b : List Int} (h : b ∈ nxB bs a) : b ∈ bs := by
  have := (List.mem_filter.mp h).2
  simpa using this
end Ve
namespace Ve
open PySem PySem.Spec L2
theorem plainDs_I : ∀ xs : List Int, plainDs (xs.map D.int) = true
  | [] => by rw [List.map_nil, plainDs]
  | x :: xs => by
    rw [List.map_cons, plainDs, plainDs_I xs, plainD]
    rfl
end Ve
namespace Ve
open PySem PySem.Spec L2
end Ve
namespace L2
open PySem PySem.Spec PyProof.Rows
end L2
namespace L2
open PySem PySem.Spec PyProof.Rows
end L2
namespace Ve
open PySem PySem.Spec L2 PyProof.Rows
def insS (k : Int) : List Int → List Int
  | [] => [k]
  | x :: r => if k < x then k :: x :: r else if k = x then x :: r else x :: insS k r
def srtS (ns : List Int) : List Int := ns.foldr insS []
theorem mem_insS {k j : Int} : ∀ {l : List Int}, j ∈ insS k l ↔ j = k ∨ j ∈ l
  | [] => by simp [insS]
  | x :: r => by
    unfold insS
    split
    · simp
    · split
      · rename_i h
        subst h
        simp
      · simp only [List.mem_cons, mem_insS (l := r)]
        constructor
        · rintro (h | h | h)
          · exact .inr (.inl h)
          · exact .inl h
          · exact .inr (.inr h)
        · rintro (h | h | h)
          · exact .inr (.inl h)
          · exact .inl h
          · exact .inr (.inr h)
theorem insS_lt {k : Int} : ∀ {l : List Int}, l.Pairwise (· < ·) → (insS k l).Pairwise (· < ·)
  | [], _ => List.pairwise_singleton _ _
  | x :: r, h => by
    obtain ⟨h1, h2⟩ := List.pairwise_cons.mp h
    unfold insS
    split
    · rename_i hk
      refine List.pairwise_cons.mpr ⟨fun y hy => ?_, h⟩
      rcases List.mem_cons.mp hy with z | z
      · rw [z]; exact hk
      · have := h1 y z
        omega
    · split
      · exact h
      · refine List.pairwise_cons.mpr ⟨fun y hy => ?_, insS_lt h2⟩
        rcases mem_insS.mp hy with z | z
        · omega
        · exact h1 y z
theorem mem_srtS {j : Int} : ∀ {l : List Int}, j ∈ srtS l ↔ j ∈ l
  | [] => by simp [srtS]
  | x :: r => by
    show j ∈ insS x (srtS r) ↔ _
    rw [mem_insS, mem_srtS (l := r), List.mem_cons]
theorem srtS_lt : ∀ {l : List Int}, (srtS l).Pairwise (· < ·)
  | [] => List.Pairwise.nil
  | x :: r => insS_lt (srtS_lt (l := r))
theorem lt_unique : ∀ {a b : List Int}, a.Pairwise (· < ·) → b.Pairwise (· < ·) → (∀ k, k ∈ a ↔ k ∈ b) → a = b
  | [], [], _, _, _ => rfl
  | [], y :: b, _, _, h => by have := (h y).mpr List.mem_cons_self; cases this
  | x :: a, [], _, _, h => by have := (h x).mp List.mem_cons_self; cases this
  | x :: a, y :: b, ha, hb, h => by
    obtain ⟨ha1, ha2⟩ := List.pairwise_cons.mp ha
    obtain ⟨hb1, hb2⟩ := List.pairwise_cons.mp hb
    have exy : x = y := by
      rcases List.mem_cons.mp ((h x).mp List.mem_cons_self) with z | z
      · exact z
      · rcases List.mem_cons.mp ((h y).mpr List.mem_cons_self) with z2 | z2
        · exact z2.symm
        · have q1 := hb1 x z
          have q2 := ha1 y z2
          omega
    subst exy
    refine congrArg (x :: ·) (lt_unique ha2 hb2 fun k => ?_)
    have := h k
    rw [List.mem_cons, List.mem_cons] at this
    constructor
    · intro hk
      rcases this.mp (.inr hk) with z | z
      · have := ha1 k hk; omega
      · exact z
    · intro hk
      rcases this.mpr (.inr hk) with z | z
      · have := hb1 k hk; omega
      · exact z
theorem lt_nodup {a : List Int} (h : a.Pairwise (· < ·)) : a.Nodup := h.imp fun h => by omega
theorem nodup_len_eq {a b : List Int} (ha : a.Nodup) (hb : b.Nodup) (h : ∀ k, k ∈ a ↔ k ∈ b) : a.length = b.length := by
  have le : ∀ {a b : List Int}, a.Nodup → (∀ k, k ∈ a → k ∈ b) → a.length ≤ b.length := by
    intro a
    induction a with
    | nil => intro b _ _; exact Nat.zero_le _
    | cons x r ih =>
      intro b hn hm
      obtain ⟨n1, n2⟩ := List.nodup_cons.mp hn
      have hx := hm x List.mem_cons_self
      have := ih (b := b.erase x) n2 fun k hk => (List.mem_erase_of_ne (fun z => n1 (by rw [← z]; exact hk))).mpr (hm k (List.mem_cons_of_mem _ hk))
      have h3 := List.length_erase_of_mem hx
      have h4 := List.length_pos_of_mem hx
      rw [List.length_cons]
      omega
  exact Nat.le_antisymm (le ha fun k => (h k).mp) (le hb fun k => (h k).mpr)
def intsD : List D → Option (List Int)
  | [] => some []
  | .int i :: r => (intsD r).map (i :: ·)
  | _ :: _ => none
theorem intsD_map : ∀ ns : List Int, intsD (ns.map D.int) = some ns
  | [] => rfl
  | n :: ns => by
    show (intsD (ns.map D.int)).map (n :: ·) = _
    rw [intsD_map ns]
    rfl
theorem intsD_some : ∀ {ds : List D} {ns : List Int}, intsD ds = some ns → ds = ns.map D.int
  | [], ns, h => by cases h; rfl
  | d :: ds, ns, h => by
    cases d <;> try (cases h; done)
    rename_i i
    replace h : (intsD ds).map (i :: ·) = some ns := h
    rw [Option.map_eq_some_iff] at h
    obtain ⟨ms, e1, e2⟩ := h
    subst e2
    rw [intsD_some e1]
    rfl
theorem Rps.intsE' {K : PySem.W.Frag} {H : Hp} {μ : List Addr} : ∀ {ns : List Int} {vs : List V}, Rps K H μ (ns.map D.int) vs → vs = ns.map V.int
  | [], vs, h => by
    rw [List.map_nil, Rps] at h
    exact h
  | n :: ns, vs, h => by
    rw [List.map_cons, Rps] at h
    obtain ⟨v, r, e, h1, h2⟩ := h
    rw [e, h1.intE, Rps.intsE' h2]
    rfl
end Ve
namespace Ve
open PySem PySem.Spec L2
end Ve
namespace Ve
open PySem PySem.Spec L2
theorem def_of {n : Nat} {b : AS} {ds : List D} {hp hp' : Hd} {ls' : Ls} {d : D} (e : b (stD n ds) hp = some (.rt d, ls', hp')) : mDef n b ds hp = some (d, hp') := by
  rw [mDef_s, e]
theorem ret_of {fa : AE} {ls : Ls} {hp hp' : Hd} {d : D} (e : fa ls hp = some (d, hp')) : sRet fa ls hp = some (.rt d, ls, hp') := by
  rw [sRet_s, e]
theorem as_of {fr : AA} {g : List D → Hd → Option (D × Hd)} {ls : Ls} {hp hp1 : Hd} {ds : List D} {r : Option (D × Hd)} (e : fr ls hp = some (ds, hp1)) (e2 : g ds hp1 = r) : mAs fr g ls hp = r := by
  rw [mAs_s, e]
  exact e2
theorem call_of {k : Nat} {fr : AA} {g : List D → Hd → Option (D × Hd)} {ls : Ls} {hp hp1 : Hd} {ds : List D} {r : Option (D × Hd)} (e : fr ls hp = some (ds, hp1)) (h : ds.length = k) (e2 : g ds hp1 = r) : mAs fr (ar k g) ls hp = r := by
  rw [mAs_s, e]
  dsimp only
  rw [ar_s, if_pos h]
  exact e2
theorem cons_of {fa : AE} {fr : AA} {ls : Ls} {hp hp1 hp2 : Hd} {d : D} {ds : List D} (e : fa ls hp = some (d, hp1)) (e2 : fr ls hp1 = some (ds, hp2)) : mCons fa fr ls hp = some (d :: ds, hp2) := by
  rw [mCons_s, e]
  dsimp only
  rw [e2]
theorem tup_of {fr : AA} {ls : Ls} {hp hp1 : Hd} {ds : List D} (e : fr ls hp = some (ds, hp1)) (h : ds.length ≤ 1000) : mTup fr ls hp = some (.tup ds, hp1) := by
  rw [mTup_s, e]
  dsimp only
  rw [if_pos (by rw [sizeLine_eq]; omega)]
theorem m2_ev {fa fb : AE} {g : D → D → Hd → Option (D × Hd)} {ls : Ls} {hp hp1 hp2 : Hd} {a b : D} {r : Option (D × Hd)} (e1 : fa ls hp = some (a, hp1)) (e2 : fb ls hp1 = some (b, hp2)) (e3 : g a b hp2 = r) : m2 fa fb g ls hp = r := (m2_of e1 e2).trans e3
theorem mC_of {d : D} {ls : Ls} {hp : Hd} : mC d ls hp = some (d, hp) := rfl
theorem nil_of {ls : Ls} {hp : Hd} : mNil ls hp = some ([], hp) := rfl
theorem c1V_of {m : List D → Hd → Option (D × Hd)} {ds : List D} {hp : Hd} {n : Nat} {o o' : O} {d : D} {g : Hd} (e : hp[n]? = some o) (hn : nrs ds = true) (ho : nrO o = true) (em : m (.ref 0 :: ds) [o] = some (d, o' :: g)) (hd : nr d = true) (ho' : nrO o' = true) : c1V m (.ref n :: ds) hp = some (d, hp.set n o') := by
  unfold c1V
  dsimp only
  rw [e]
  dsimp only
  rw [if_pos (by rw [hn, ho]; rfl), em]
  dsimp only
  rw [if_pos (by rw [hd, ho']; rfl)]
abbrev Sd := Nat × Nat
def pI (p : Sd) : List Int := [(p.1 : Int), (p.2 : Int)]
theorem pI_lt {p q : Sd} : pI p < pI q ↔ p.1 < q.1 ∨ (p.1 = q.1 ∧ p.2 < q.2) := by
  unfold pI
  rw [List.cons_lt_cons_iff, List.cons_lt_cons_iff]
  simp only [List.not_lt_nil, and_false, or_false]
  omega
def sds (n : Nat) : List Sd := (List.range n).flatMap fun f => (List.range 4).map fun i => (f, i)
theorem mem_sds {n : Nat} {p : Sd} : p ∈ sds n ↔ p.1 < n ∧ p.2 < 4 := by
  unfold sds
  rw [List.mem_flatMap]
  constructor
  · rintro ⟨f, hf, h⟩
    obtain ⟨i, hi, rfl⟩ := List.mem_map.mp h
    exact ⟨List.mem_range.mp hf, List.mem_range.mp hi⟩
  · intro ⟨h1, h2⟩
    exact ⟨p.1, List.mem_range.mpr h1, List.mem_map.mpr ⟨p.2, List.mem_range.mpr h2, rfl⟩⟩
theorem sds_succ (n : Nat) : sds (n + 1) = sds n ++ (List.range 4).map fun i => (n, i) := by
  unfold sds
  rw [List.range_succ (n := n), List.flatMap_append]
  simp
theorem sds_length : ∀ n, (sds n).length = 4 * n
  | 0 => rfl
  | n + 1 => by
    rw [sds_succ, List.length_append, sds_length n, List.length_map, List.length_range]
    omega
theorem sds_nodup : ∀ n, (sds n).Nodup
  | 0 => List.nodup_nil
  | n + 1 => by
    rw [sds_succ]
    refine List.nodup_append.mpr ⟨sds_nodup n, by simp [List.range_succ], fun a ha b hb e => ?_⟩
    subst e
    obtain ⟨i, _, rfl⟩ := List.mem_map.mp hb
    have := (mem_sds.mp ha).1
    simp at this
abbrev PJ := Nat → Nat → Option Sd
def oD : Option Sd → D
  | none => .non
  | some p => T (pI p)
def prow (P : PJ) (f : Nat) : List D := (List.range 4).map fun i => oD (P f i)
def upd1 (P : PJ) (a : Sd) (v : Option Sd) : PJ := fun f i => if (f, i) = a then v else P f i
theorem prow_len (P : PJ) (f : Nat) : (prow P f).length = 4 := by simp [prow]
theorem prow_at (P : PJ) (f : Nat) {i : Nat} (h : i < 4) : (prow P f)[i]? = some (oD (P f i)) := by simp [prow, h]
theorem prow_set (P : PJ) (a : Sd) (v : Option Sd) : (prow P a.1).set a.2 (oD v) = prow (upd1 P a v) a.1 := by
  refine List.ext_getElem? fun k => ?_
  rw [List.getElem?_set, prow_len]
  by_cases hk : k < 4
  · rw [prow_at _ _ hk, prow_at _ _ hk]
    by_cases e : a.2 = k
    · subst e
      rw [if_pos rfl, if_pos hk]
      show _ = some (oD (if (a.1, a.2) = a then v else P a.1 a.2))
      rw [if_pos rfl]
    · rw [if_neg e]
      show _ = some (oD (if (a.1, k) = a then v else P a.1 k))
      rw [if_neg (fun z => e (by rw [← z]))]
  · have h1 : (prow P a.1)[k]? = none := List.getElem?_eq_none (by rw [prow_len]; omega)
    have h2 : (prow (upd1 P a v) a.1)[k]? = none := List.getElem?_eq_none (by rw [prow_len]; omega)
    rw [h1, h2]
    split
    · rw [if_neg (by omega)]
    · rfl
theorem prow_ne (P : PJ) {a : Sd} (v : Option Sd) {f : Nat} (h : f ≠ a.1) : prow (upd1 P a v) f = prow P f := by
  unfold prow
  congr 1
  funext i
  show oD (if (f, i) = a then v else P f i) = _
  rw [if_neg (fun z => h (by rw [← z]))]
structure RowsAt (hp : Hd) (r0 R n : Nat) (P : PJ) : Prop where
  lst : hp[R]? = some (.lst ((List.range n).map fun f => D.ref (r0 + f)))
  row : ∀ f, f < n → hp[r0 + f]? = some (.lst (prow P f))
theorem RowsAt.old {hp l : Hd} {r0 R n : Nat} {P : PJ} (h : RowsAt hp r0 R n P) : RowsAt (hp ++ l) r0 R n P := ⟨hget_old h.lst, fun f hf => hget_old (h.row f hf)⟩
theorem RowsAt.set {hp : Hd} {r0 R n k : Nat} {P : PJ} {o : O} (h : RowsAt hp r0 R n P) (hR : k ≠ R) (hr : ∀ f, f < n → k ≠ r0 + f) : RowsAt (hp.set k o) r0 R n P := ⟨hset_ne hR h.lst, fun f hf => hset_ne (hr f hf) (h.row f hf)⟩
theorem RowsAt.put {hp : Hd} {r0 R n : Nat} {P : PJ} (h : RowsAt hp r0 R n P) {a : Sd} (v : Option Sd) (ha : a.1 < n) (hR : r0 + a.1 ≠ R) : RowsAt (hp.set (r0 + a.1) (.lst ((prow P a.1).set a.2 (oD v)))) r0 R n (upd1 P a v) := by
  refine ⟨hset_ne hR h.lst, fun f hf => ?_⟩
  by_cases e : f = a.1
  · subst e
    rw [hset_same (h.row _ hf), prow_set]
  · rw [prow_ne P v e]
    exact hset_ne (by omega) (h.row f hf)
theorem RowsAt.at_ {hp : Hd} {r0 R n f : Nat} {P : PJ} (h : RowsAt hp r0 R n P) (hf : f < n) : gIx (.ref R) (.int (f : Nat)) hp = some (.ref (r0 + f), hp) :=
  gIx_refN (j := f) h.lst (x := .ref (r0 + f)) (by rw [List.getElem?_map, List.getElem?_range hf]; rfl)
def upJ (P : PJ) (a b : Sd) : PJ := fun f i => if (f, i) = a then some b else if (f, i) = b then some a else P f i
theorem upd_two (P : PJ) {a b : Sd} (h : a ≠ b) : upd1 (upd1 P a (some b)) b (some a) = upJ P a b := by
  funext f i
  unfold upd1 upJ
  by_cases e1 : (f, i) = a
  · rw [if_neg (fun z => h (e1.symm.trans z)), if_pos e1, if_pos e1]
  · rw [if_neg e1, if_neg e1]
theorem RowsAt.two {hp : Hd} {r0 R n : Nat} {P : PJ} (h : RowsAt hp r0 R n P) {a b : Sd} (hab : a ≠ b) (ha : a.1 < n) (hb : b.1 < n) (hR : ∀ f, f < n → r0 + f ≠ R) (ha2 : a.2 < 4) (hb2 : b.2 < 4) :
    ∃ hp1 hp2, gSet (.ref (r0 + a.1)) (.int (a.2 : Nat)) (T (pI b)) hp = some hp1 ∧ RowsAt hp1 r0 R n (upd1 P a (some b)) ∧ gSet (.ref (r0 + b.1)) (.int (b.2 : Nat)) (T (pI a)) hp1 = some hp2 ∧ RowsAt hp2 r0 R n (upJ P a b) ∧ (∀ k, (∀ f, f < n → k ≠ r0 + f) → hp2[k]? = hp[k]?) ∧ hp2.length = hp.length := by
  have h1 := h.put (some b) ha (hR _ ha)
  have h2 := h1.put (some a) hb (hR _ hb)
  rw [upd_two P hab] at h2
  refine ⟨_, _, gSet_nat (h.row _ ha) (by rw [prow_len]; exact ha2), h1, gSet_nat (h1.row _ hb) (by rw [prow_len]; exact hb2), h2, fun k hk => ?_, by rw [List.length_set, List.length_set]⟩
  rw [List.getElem?_set_ne (Ne.symm (hk _ hb)), List.getElem?_set_ne (Ne.symm (hk _ ha))]
structure Skin (n : Nat) (J : Nat → Nat → Sd) : Prop where
  pos : 0 < n
  rng : ∀ f i, f < n → i < 4 → (J f i).1 < n ∧ (J f i).2 < 4
  inv : ∀ f i, f < n → i < 4 → J (J f i).1 (J f i).2 = (f, i)
  ne : ∀ f i, f < n → i < 4 → J f i ≠ (f, i)
  con : ∀ S : Nat → Prop, S 0 → (∀ f i, f < n → i < 4 → S f → S (J f i).1) → ∀ f, f < n → S f
def sms (n : Nat) (J : Nat → Nat → Sd) : List Sd := (sds n).filter fun p => decide (pI p < pI (J p.1 p.2))
theorem mem_sms {n : Nat} {J : Nat → Nat → Sd} {p : Sd} : p ∈ sms n J ↔ (p.1 < n ∧ p.2 < 4) ∧ pI p < pI (J p.1 p.2) := by
  unfold sms
  rw [List.mem_filter, mem_sds, decide_eq_true_eq]
theorem sms_nodup (n : Nat) (J : Nat → Nat → Sd) : (sms n J).Nodup := (sds_nodup n).filter _
theorem Skin.sms_length {n : Nat} {J : Nat → Nat → Sd} (h : Skin n J) : (sms n J).length = 2 * n := by
  let A := sms n J
  let B := (sds n).filter fun p => !decide (pI p < pI (J p.1 p.2))
  have hAB : A.length + B.length = 4 * n := by
    rw [← sds_length n]
    show ((sds n).filter fun p => decide (pI p < pI (J p.1 p.2))).length + ((sds n).filter fun p => !decide (pI p < pI (J p.1 p.2))).length = _
    induction sds n with
    | nil => rfl
    | cons x l ih =>
      rw [List.filter_cons, List.filter_cons]
      by_cases q : pI x < pI (J x.1 x.2)
      · simp [q] at ih ⊢
        omega
      · simp [q] at ih ⊢
        omega
  let g : Sd → Sd := fun p => J p.1 p.2
  have inj : ∀ {l : List Sd}, l.Nodup → (∀ x ∈ l, x ∈ sds n) → (l.map g).Nodup := by
    intro l hl hm
    refine List.Pairwise.map g (R := fun a b => a ∈ l ∧ b ∈ l ∧ a ≠ b) (fun a b ⟨ha, hb, hab⟩ e => hab ?_) ?_
    · have ha := mem_sds.mp (hm a ha)
      have hb := mem_sds.mp (hm b hb)
      have e1 := h.inv a.1 a.2 ha.1 ha.2
      have e2 := h.inv b.1 b.2 hb.1 hb.2
      have e3 : J a.1 a.2 = J b.1 b.2 := e
      rw [e3, e2] at e1
      exact e1.symm
    · exact List.Pairwise.imp_of_mem (fun ha hb hab => ⟨ha, hb, hab⟩) hl
  have memA : ∀ x ∈ A, x ∈ sds n := fun x hx => (List.mem_filter.mp hx).1
  have memB : ∀ x ∈ B, x ∈ sds n := fun x hx => (List.mem_filter.mp hx).1
  have l1 : A.length ≤ B.length := by
    have := nodup_len (inj (sms_nodup n J) memA) (m := B) fun y hy => by
      obtain ⟨x, hx, rfl⟩ := List.mem_map.mp hy
      obtain ⟨⟨h1, h2⟩, h3⟩ := mem_sms.mp hx
      obtain ⟨r1, r2⟩ := h.rng x.1 x.2 h1 h2
      refine List.mem_filter.mpr ⟨mem_sds.mpr ⟨r1, r2⟩, ?_⟩
      show (!decide (pI (J x.1 x.2) < pI (J (J x.1 x.2).1 (J x.1 x.2).2))) = true
      rw [h.inv x.1 x.2 h1 h2]
      rw [pI_lt] at h3
      simp only [Bool.not_eq_true', decide_eq_false_iff_not, pI_lt]
      omega
    rwa [List.length_map] at this
  have l2 : B.length ≤ A.length := by
    have := nodup_len (inj ((sds_nodup n).filter _) memB) (m := A) fun y hy => by
      obtain ⟨x, hx, rfl⟩ := List.mem_map.mp hy
      obtain ⟨hs, h3⟩ := List.mem_filter.mp hx
      obtain ⟨h1, h2⟩ := mem_sds.mp hs
      obtain ⟨r1, r2⟩ := h.rng x.1 x.2 h1 h2
      refine mem_sms.mpr ⟨⟨r1, r2⟩, ?_⟩
      show pI (J x.1 x.2) < pI (J (J x.1 x.2).1 (J x.1 x.2).2)
      rw [h.inv x.1 x.2 h1 h2]
      have hne := h.ne x.1 x.2 h1 h2
      simp only [Bool.not_eq_true', decide_eq_false_iff_not, pI_lt] at h3
      rw [pI_lt]
      have : ¬ ((J x.1 x.2).1 = x.1 ∧ (J x.1 x.2).2 = x.2) := fun ⟨z1, z2⟩ => hne (Prod.ext z1 z2)
      show (J x.1 x.2).1 < x.1 ∨ (J x.1 x.2).1 = x.1 ∧ (J x.1 x.2).2 < x.2
      omega
    rwa [List.length_map] at this
  show A.length = 2 * n
  omega
end Ve
namespace Ve
open PySem PySem.Spec L2
end Ve
namespace Ve
open PySem PySem.Spec L2
def joinG (L : List Int) (a b : Nat) : List Int := L.map fun z => if z = max (L.getD a 0) (L.getD b 0) then min (L.getD a 0) (L.getD b 0) else z
theorem joinG_len (L : List Int) (a b : Nat) : (joinG L a b).length = L.length := by unfold joinG; rw [List.length_map]
def smAt (n : Nat) (J : Nat → Nat → Sd) (k : Int) : Sd := (sms n J).getD k.toNat (0, 0)
def grpS (n : Nat) (J : Nat → Nat → Sd) (L : List Int) (k : Int) : List Int := joinG L (smAt n J k).1 (J (smAt n J k).1 (smAt n J k).2).1
theorem smAt_mem {n : Nat} {J : Nat → Nat → Sd} {k : Int} (h : 0 ≤ k ∧ k < (sms n J).length) : smAt n J k ∈ sms n J := by
  unfold smAt
  rw [List.getD_eq_getElem?_getD, List.getElem?_eq_getElem (by omega)]
  exact List.getElem_mem _
end Ve
namespace Ve
open PySem PySem.Spec L2
def manyB (n : Nat) (J : Nat → Nat → Sd) (ks L : List Int) (lot : Int) : Nat := (ks.filter fun k => L.getD (smAt n J k).1 0 == lot).length
end Ve
namespace Ve
open PySem PySem.Spec L2
end Ve
namespace Ve
open PySem PySem.Spec L2
theorem or_f {fa fb : AT} {ls : Ls} {hp hp1 : Hd} {r : Option (Bool × Hd)} (e : fa ls hp = some (false, hp1)) (e2 : fb ls hp1 = r) : mOr fa fb ls hp = r := by
  rw [mOr_s2, e]
  exact e2
end Ve
namespace Ve
open PySem PySem.Spec L2
theorem all_cons {α : Type} {P : α → Prop} {x : α} {l : List α} (h1 : P x) (h2 : ∀ y ∈ l, P y) : ∀ y ∈ x :: l, P y := fun y hy => by
  rcases List.mem_cons.mp hy with z | z
  · rw [z]; exact h1
  · exact h2 y z
theorem all_nil {α : Type} {P : α → Prop} : ∀ y ∈ ([] : List α), P y := fun y hy => by cases hy
end Ve
namespace Ve
open PySem PySem.Spec L2
end Ve
namespace Ve
open PySem PySem.Spec L2
end Ve
namespace L2
open PySem PySem.Spec PyProof.Rows
def EnS (h : Heap) (e it : Addr) (i : Nat) : Prop := (∃ old, IsEnum h e it ((i : Nat) : Int) old) ∨ ∃ old T f oT, PySem.IsEnumHeld h e it ((i : Nat) : Int) old T f ∧ h.get? T = some oT ∧ T ≠ e ∧ T ≠ it
theorem EnS.keep {h h' : Heap} {e it : Addr} {i : Nat} (x : EnS h e it i) (k : ∀ b o, b = e ∨ b = it → h.get? b = some o → h'.get? b = some o) (there : ∀ b o, h.get? b = some o → ∃ u, h'.get? b = some u) : EnS h' e it i := by
  rcases x with ⟨old, he⟩ | ⟨old, T, f, oT, he, hT, r1, r2⟩
  · exact .inl ⟨old, k _ _ (.inl rfl) he⟩
  · obtain ⟨u, hu⟩ := there T oT hT
    exact .inr ⟨old, T, f, u, k _ _ (.inl rfl) he, hu, r1, r2⟩
theorem EnS.get {h : Heap} {e it : Addr} {i : Nat} (x : EnS h e it i) : ∃ o, h.get? e = some o ∧ o.cls = .type "enumerate" := by
  rcases x with ⟨old, he⟩ | ⟨old, T, f, oT, he, _⟩
  · exact ⟨_, he, rfl⟩
  · exact ⟨_, he, rfl⟩
end L2
namespace L2
open PySem PySem.Spec PyProof.Rows
end L2
namespace Ve
open PySem PySem.Spec L2
end Ve
namespace Ve
open PySem PySem.Spec L2
end Ve
namespace Ve
open PySem PySem.Spec L2
structure Pl where
  x : Int
  y : Int
  t : Int
def dX (k : Int) : Int := if k = 0 then 1 else if k = 2 then -1 else 0
def dY (k : Int) : Int := if k = 1 then 1 else if k = 3 then -1 else 0
def nxt (p : Pl) (i j : Int) : Pl := ⟨p.x + dX ((i + p.t) % 4), p.y + dY ((i + p.t) % 4), ((i + p.t) % 4 + 2 - j) % 4⟩
theorem nxt_t (p : Pl) (i j : Int) : 0 ≤ (nxt p i j).t ∧ (nxt p i j).t < 4 := by
  show 0 ≤ ((i + p.t) % 4 + 2 - j) % 4 ∧ ((i + p.t) % 4 + 2 - j) % 4 < 4
  omega
theorem four {k : Int} (h : 0 ≤ k ∧ k < 4) : k = 0 ∨ k = 1 ∨ k = 2 ∨ k = 3 := by omega
theorem nxt_back {p : Pl} {i j : Int} (hp : 0 ≤ p.t ∧ p.t < 4) (hi : 0 ≤ i ∧ i < 4) (hj : 0 ≤ j ∧ j < 4) : nxt (nxt p i j) j i = p := by
  obtain ⟨x, y, t⟩ := p
  obtain ⟨k, hk⟩ : ∃ k, (i + t) % 4 = k := ⟨_, rfl⟩
  have hk2 : (j + (k + 2 - j) % 4) % 4 = (k + 2) % 4 := by omega
  show Pl.mk (x + dX ((i + t) % 4) + dX ((j + ((i + t) % 4 + 2 - j) % 4) % 4)) (y + dY ((i + t) % 4) + dY ((j + ((i + t) % 4 + 2 - j) % 4) % 4)) (((j + ((i + t) % 4 + 2 - j) % 4) % 4 + 2 - i) % 4) = ⟨x, y, t⟩
  rw [hk, hk2]
  have ht : ((k + 2) % 4 + 2 - i) % 4 = t := by
    dsimp only at hp
    omega
  rw [ht]
  rcases four (show 0 ≤ k ∧ k < 4 by omega) with rfl | rfl | rfl | rfl <;> simp [dX, dY] <;> omega
def mo (r a b : Int) (p : Pl) : Pl := if r = 0 then ⟨p.x + a, p.y + b, p.t⟩ else if r = 1 then ⟨-p.y + a, p.x + b, (p.t + 1) % 4⟩ else if r = 2 then ⟨-p.x + a, -p.y + b, (p.t + 2) % 4⟩ else ⟨p.y + a, -p.x + b, (p.t + 3) % 4⟩
theorem mo_t {r a b : Int} {p : Pl} (h : 0 ≤ p.t ∧ p.t < 4) : 0 ≤ (mo r a b p).t ∧ (mo r a b p).t < 4 := by
  unfold mo
  split
  · exact h
  · split
    · dsimp only; omega
    · split <;> (dsimp only; omega)
theorem nxt_mo {r a b i j : Int} {p : Pl} (hr : 0 ≤ r ∧ r < 4) : nxt (mo r a b p) i j = mo r a b (nxt p i j) := by
  obtain ⟨x, y, t⟩ := p
  obtain ⟨k, hk⟩ : ∃ k, (i + t) % 4 = k := ⟨_, rfl⟩
  have k4 : 0 ≤ k ∧ k < 4 := by omega
  have key : ∀ x' y' t', nxt ⟨x', y', t'⟩ i j = ⟨x' + dX ((i + t') % 4), y' + dY ((i + t') % 4), ((i + t') % 4 + 2 - j) % 4⟩ := fun _ _ _ => rfl
  rcases four hr with rfl | rfl | rfl | rfl
  · simp only [mo, if_true, key]
    congr 1 <;> omega
  · have e : (i + (t + 1) % 4) % 4 = (k + 1) % 4 := by omega
    simp only [mo, key, hk, e, show ¬ ((1 : Int) = 0) by decide, if_false, if_true]
    have e2 : ((k + 1) % 4 + 2 - j) % 4 = ((k + 2 - j) % 4 + 1) % 4 := by omega
    rw [e2]
    rcases four k4 with rfl | rfl | rfl | rfl <;> simp [dX, dY] <;> omega
  · have e : (i + (t + 2) % 4) % 4 = (k + 2) % 4 := by omega
    simp only [mo, key, hk, e, show ¬ ((2 : Int) = 0) by decide, show ¬ ((2 : Int) = 1) by decide, if_false, if_true]
    have e2 : ((k + 2) % 4 + 2 - j) % 4 = ((k + 2 - j) % 4 + 2) % 4 := by omega
    rw [e2]
    rcases four k4 with rfl | rfl | rfl | rfl <;> simp [dX, dY] <;> omega
  · have e : (i + (t + 3) % 4) % 4 = (k + 3) % 4 := by omega
    simp only [mo, key, hk, e, show ¬ ((3 : Int) = 0) by decide, show ¬ ((3 : Int) = 1) by decide, show ¬ ((3 : Int) = 2) by decide, if_false, if_true]
    have e2 : ((k + 3) % 4 + 2 - j) % 4 = ((k + 2 - j) % 4 + 3) % 4 := by omega
    rw [e2]
    rcases four k4 with rfl | rfl | rfl | rfl <;> simp [dX, dY] <;> omega
theorem mo_to {p q : Pl} (hp : 0 ≤ p.t ∧ p.t < 4) (hq : 0 ≤ q.t ∧ q.t < 4) : ∃ r a b, (0 ≤ r ∧ r < 4) ∧ mo r a b p = q := by
  obtain ⟨x, y, t⟩ := p
  obtain ⟨x2, y2, t2⟩ := q
  dsimp only at hp hq
  obtain ⟨r, hr⟩ : ∃ r, (t2 - t) % 4 = r := ⟨_, rfl⟩
  rcases four (show 0 ≤ r ∧ r < 4 by omega) with rfl | rfl | rfl | rfl
  · exact ⟨0, x2 - x, y2 - y, by decide, by simp only [mo, if_true]; congr 1 <;> omega⟩
  · exact ⟨1, x2 + y, y2 - x, by decide, by simp only [mo, show ¬ ((1 : Int) = 0) by decide, if_false, if_true]; congr 1 <;> omega⟩
  · exact ⟨2, x2 + x, y2 + y, by decide, by simp only [mo, show ¬ ((2 : Int) = 0) by decide, show ¬ ((2 : Int) = 1) by decide, if_false, if_true]; congr 1 <;> omega⟩
  · exact ⟨3, x2 - y, y2 + x, by decide, by simp only [mo, show ¬ ((3 : Int) = 0) by decide, show ¬ ((3 : Int) = 1) by decide, show ¬ ((3 : Int) = 2) by decide, if_false]; congr 1 <;> omega⟩
inductive Cn (A : Nat → Nat → Prop) (a : Nat) : Nat → Prop where
  | refl : Cn A a a
  | step {b c : Nat} : Cn A a b → A b c → Cn A a c
theorem Cn.trans {A : Nat → Nat → Prop} {a b c : Nat} (h1 : Cn A a b) (h2 : Cn A b c) : Cn A a c := by
  induction h2 with
  | refl => exact h1
  | step _ hc ih => exact ih.step hc
theorem Cn.symm {A : Nat → Nat → Prop} (hs : ∀ a b, A a b → A b a) {a b : Nat} (h : Cn A a b) : Cn A b a := by
  induction h with
  | refl => exact .refl
  | step _ hc ih => exact Cn.trans (.step .refl (hs _ _ hc)) ih
theorem Cn.mono {A B : Nat → Nat → Prop} (h : ∀ a b, A a b → B a b) {a b : Nat} (c : Cn A a b) : Cn B a b := by
  induction c with
  | refl => exact .refl
  | step _ hc ih => exact ih.step (h _ _ hc)
theorem Cn.closed {A : Nat → Nat → Prop} {a b : Nat} {S : Nat → Prop} (ha : S a) (cl : ∀ x y, S x → A x y → S y) (h : Cn A a b) : S b := by
  induction h with
  | refl => exact ha
  | step _ hc ih => exact cl _ _ ih hc
section
variable {n : Nat} {J : Nat → Nat → Sd}
def oth (J : Nat → Nat → Sd) (p : Sd) : Sd := J p.1 p.2
def Adj (n : Nat) (J : Nat → Nat → Sd) (E : List Int) (b c : Nat) : Prop := ∃ k ∈ E, (b = (smAt n J k).1 ∧ c = (oth J (smAt n J k)).1) ∨ (c = (smAt n J k).1 ∧ b = (oth J (smAt n J k)).1)
theorem Adj.symm {E : List Int} : ∀ a b, Adj n J E a b → Adj n J E b a := fun a b ⟨k, hk, h⟩ => ⟨k, hk, h.symm⟩
def Bes (Pt : Nat → Pl) (J : Nat → Nat → Sd) (p : Sd) : Prop := nxt (Pt p.1) p.2 (oth J p).2 = Pt (oth J p).1
def Inb (n : Nat) (E : List Int) : Prop := ∀ k ∈ E, 0 ≤ k ∧ k < (2 * n : Nat)
structure Frs (n : Nat) (J : Nat → Nat → Sd) (L E : List Int) : Prop where
  len : L.length = n
  inb : Inb n E
  pot : ∃ Pt : Nat → Pl, (∀ f, 0 ≤ (Pt f).t ∧ (Pt f).t < 4) ∧ ∀ k ∈ E, Bes Pt J (smAt n J k)
  same : ∀ k ∈ E, L.getD (smAt n J k).1 0 = L.getD (oth J (smAt n J k)).1 0
  conn : ∀ f g, f < n → g < n → L.getD f 0 = L.getD g 0 → Cn (Adj n J E) f g
theorem Skin.sm (sk : Skin n J) {k : Int} (h : 0 ≤ k ∧ k < (2 * n : Nat)) : (smAt n J k).1 < n ∧ (smAt n J k).2 < 4 ∧ (oth J (smAt n J k)).1 < n ∧ (oth J (smAt n J k)).2 < 4 := by
  have h2 : 0 ≤ k ∧ k < (sms n J).length := by rw [sk.sms_length]; exact h
  obtain ⟨⟨a, b⟩, _⟩ := mem_sms.mp (smAt_mem h2)
  obtain ⟨c, d⟩ := sk.rng _ _ a b
  exact ⟨a, b, c, d⟩
theorem Frs.start (n : Nat) (J : Nat → Nat → Sd) : Frs n J ((List.range n).map fun k : Nat => (k : Int)) [] := by
  have e : ∀ f, f < n → ((List.range n).map fun k : Nat => (k : Int)).getD f 0 = (f : Int) := fun f hf => by
    rw [List.getD_eq_getElem?_getD, List.getElem?_map, List.getElem?_range hf]
    rfl
  refine ⟨by rw [List.length_map, List.length_range], (fun k h => absurd h List.not_mem_nil), ⟨fun _ => ⟨0, 0, 0⟩, (fun _ => (by decide : (0 : Int) ≤ 0 ∧ (0 : Int) < 4)), (fun k h => absurd h List.not_mem_nil)⟩, (fun k h => absurd h List.not_mem_nil), fun f g hf hg h => ?_⟩
  rw [e f hf, e g hg] at h
  have : f = g := by omega
  rw [this]
  exact .refl
def joinL (L : List Int) (a b : Nat) : List Int := L.map fun z => if z = L.getD a 0 then L.getD b 0 else z
theorem joinL_at {L : List Int} {a b f : Nat} (h : f < L.length) : (joinL L a b).getD f 0 = if L.getD f 0 = L.getD a 0 then L.getD b 0 else L.getD f 0 := by
  have e1 : (joinL L a b).getD f 0 = ((joinL L a b)[f]?).getD 0 := List.getD_eq_getElem?_getD
  have e2 : L.getD f 0 = L[f] := by rw [List.getD_eq_getElem?_getD, List.getElem?_eq_getElem h]; rfl
  rw [e1, e2]
  unfold joinL
  rw [List.getElem?_map, List.getElem?_eq_getElem h]
  rfl
theorem Frs.put {L E : List Int} (h : Frs n J L E) (sk : Skin n J) {k : Int} (hk : 0 ≤ k ∧ k < (2 * n : Nat)) (hne : L.getD (smAt n J k).1 0 ≠ L.getD (oth J (smAt n J k)).1 0) : Frs n J (joinL L (smAt n J k).1 (oth J (smAt n J k)).1) (E ++ [k]) := by
  obtain ⟨hf, hi, hg, hj⟩ := sk.sm hk
  obtain ⟨Pt, ht, hb⟩ := h.pot
  have at_ : ∀ a, a < n → (joinL L (smAt n J k).1 (oth J (smAt n J k)).1).getD a 0 = if L.getD a 0 = L.getD (smAt n J k).1 0 then L.getD (oth J (smAt n J k)).1 0 else L.getD a 0 := fun a ha => joinL_at (by rw [h.len]; exact ha)
  have ends : ∀ e ∈ E, (smAt n J e).1 < n ∧ (oth J (smAt n J e)).1 < n := fun e he => let ⟨a, _, b, _⟩ := sk.sm (h.inb e he); ⟨a, b⟩
  obtain ⟨r, a, b, hr, em⟩ := mo_to (ht (smAt n J k).1) (nxt_t (Pt (oth J (smAt n J k)).1) (oth J (smAt n J k)).2 (smAt n J k).2)
  refine ⟨by unfold joinL; rw [List.length_map]; exact h.len, fun e he => ?_, ⟨fun f => if L.getD f 0 = L.getD (smAt n J k).1 0 then mo r a b (Pt f) else Pt f, fun f => ?_, fun e he => ?_⟩, fun e he => ?_, fun f g hf' hg' e => ?_⟩
  · rcases List.mem_append.mp he with z | z
    · exact h.inb e z
    · rw [List.mem_singleton.mp z]; exact hk
  · dsimp only
    split
    · exact mo_t (ht f)
    · exact ht f
  · rcases List.mem_append.mp he with z | z
    · have s := h.same e z
      have q := hb e z
      unfold Bes at q ⊢
      dsimp only
      by_cases c : L.getD (smAt n J e).1 0 = L.getD (smAt n J k).1 0
      · rw [if_pos c, if_pos (s.symm.trans c), nxt_mo hr, q]
      · rw [if_neg c, if_neg (fun z => c (s.trans z)), q]
    · rw [List.mem_singleton.mp z]
      unfold Bes
      dsimp only
      rw [if_pos rfl, if_neg (Ne.symm hne), em]
      exact nxt_back (ht _) (by omega) (by omega)
  · rcases List.mem_append.mp he with z | z
    · obtain ⟨e1, e2⟩ := ends e z
      rw [at_ _ e1, at_ _ e2, h.same e z]
    · rw [List.mem_singleton.mp z, at_ _ hf, at_ _ hg, if_pos rfl, if_neg (Ne.symm hne)]
  · have mono : ∀ x y, Adj n J E x y → Adj n J (E ++ [k]) x y := fun x y ⟨e, he, q⟩ => ⟨e, List.mem_append_left _ he, q⟩
    have edge : Cn (Adj n J (E ++ [k])) (smAt n J k).1 (oth J (smAt n J k)).1 := .step .refl ⟨k, by simp, .inl ⟨rfl, rfl⟩⟩
    rw [at_ f hf', at_ g hg'] at e
    by_cases c1 : L.getD f 0 = L.getD (smAt n J k).1 0 <;> by_cases c2 : L.getD g 0 = L.getD (smAt n J k).1 0
    · exact (h.conn f g hf' hg' (c1.trans c2.symm)).mono mono
    · rw [if_pos c1, if_neg c2] at e
      exact (((h.conn f _ hf' hf c1).mono mono).trans edge).trans ((h.conn _ g hg hg' e).mono mono)
    · rw [if_neg c1, if_pos c2] at e
      exact (((h.conn f _ hf' hg e).mono mono).trans (edge.symm Adj.symm)).trans ((h.conn _ g hf hg' c2.symm).mono mono)
    · rw [if_neg c1, if_neg c2] at e
      exact (h.conn f g hf' hg' e).mono mono
theorem Frs.all {L E : List Int} (h : Frs n J L E) (sk : Skin n J) (done : ∀ k : Int, 0 ≤ k → k < (2 * n : Nat) → L.getD (smAt n J k).1 0 = L.getD (oth J (smAt n J k)).1 0) : ∀ f, f < n → L.getD f 0 = L.getD 0 0 := by
  have side : ∀ p : Sd, p.1 < n → p.2 < 4 → L.getD p.1 0 = L.getD (oth J p).1 0 := by
    have one : ∀ p : Sd, p ∈ sms n J → L.getD p.1 0 = L.getD (oth J p).1 0 := fun p hp => by
      obtain ⟨k, hk, e⟩ := List.mem_iff_getElem.mp hp
      have e2 : smAt n J (k : Nat) = p := by
        unfold smAt
        rw [Int.toNat_natCast, List.getD_eq_getElem?_getD, List.getElem?_eq_getElem hk, e]
        rfl
      have := done (k : Nat) (by omega) (by rw [sk.sms_length] at hk; omega)
      rw [e2] at this
      exact this
    intro p h1 h2
    by_cases c : pI p < pI (oth J p)
    · exact one p (mem_sms.mpr ⟨⟨h1, h2⟩, c⟩)
    · obtain ⟨r1, r2⟩ := sk.rng _ _ h1 h2
      have inv : oth J (oth J p) = p := sk.inv _ _ h1 h2
      have ne := sk.ne _ _ h1 h2
      have : oth J p ∈ sms n J := mem_sms.mpr ⟨⟨r1, r2⟩, by
        show pI (oth J p) < pI (oth J (oth J p))
        rw [inv]
        rw [pI_lt] at c ⊢
        have : ¬ ((oth J p).1 = p.1 ∧ (oth J p).2 = p.2) := fun ⟨z1, z2⟩ => ne (Prod.ext z1 z2)
        omega⟩
      have q := one _ this
      rw [inv] at q
      exact q.symm
  exact sk.con (fun f => L.getD f 0 = L.getD 0 0) rfl fun f i hf hi h => (side (f, i) hf hi).symm.trans h
structure Tre (n : Nat) (J : Nat → Nat → Sd) (E : List Int) : Prop where
  inb : Inb n E
  pot : ∀ f0, ∃ Pt : Nat → Pl, Pt f0 = ⟨0, 0, 0⟩ ∧ (∀ f, 0 ≤ (Pt f).t ∧ (Pt f).t < 4) ∧ ∀ k ∈ E, Bes Pt J (smAt n J k)
  conn : ∀ f g, f < n → g < n → Cn (Adj n J E) f g
theorem Bes.back {Pt : Nat → Pl} {p : Sd} (h : Bes Pt J p) (ht : ∀ f, 0 ≤ (Pt f).t ∧ (Pt f).t < 4) (h2 : p.2 < 4) (h3 : (oth J p).2 < 4) : nxt (Pt (oth J p).1) (oth J p).2 p.2 = Pt p.1 := by
  unfold Bes at h
  rw [← h]
  exact nxt_back (ht _) (by omega) (by omega)
end
end Ve
namespace Ve
open PySem PySem.Spec L2
end Ve
namespace Ve
open PySem PySem.Spec L2
end Ve
namespace Ve
open PySem PySem.Spec L2
section
variable {n : Nat} {J : Nat → Nat → Sd} {E : List Int}
def stp (n : Nat) (J : Nat → Nat → Sd) (K : List Nat) (k : Int) : List Nat :=
  if (smAt n J k).1 ∈ K ∧ (oth J (smAt n J k)).1 ∉ K then K ++ [(oth J (smAt n J k)).1] else if (oth J (smAt n J k)).1 ∈ K ∧ (smAt n J k).1 ∉ K then K ++ [(smAt n J k).1] else K
theorem stp_sub (K : List Nat) (k : Int) : ∀ f ∈ K, f ∈ stp n J K k := fun f hf => by
  unfold stp
  split
  · exact List.mem_append_left _ hf
  · split
    · exact List.mem_append_left _ hf
    · exact hf
theorem stp_nodup {K : List Nat} (k : Int) (h : K.Nodup) : (stp n J K k).Nodup := by
  unfold stp
  split
  · rename_i c
    exact List.nodup_append.mpr ⟨h, by simp, fun a ha b hb e => c.2 (by rw [← List.mem_singleton.mp hb, ← e]; exact ha)⟩
  · split
    · rename_i c
      exact List.nodup_append.mpr ⟨h, by simp, fun a ha b hb e => c.2 (by rw [← List.mem_singleton.mp hb, ← e]; exact ha)⟩
    · exact h
theorem stp_lt (sk : Skin n J) {K : List Nat} {k : Int} (hk : 0 ≤ k ∧ k < (2 * n : Nat)) (h : ∀ f ∈ K, f < n) : ∀ f ∈ stp n J K k, f < n := fun f hf => by
  obtain ⟨a, _, b, _⟩ := sk.sm hk
  unfold stp at hf
  split at hf
  · rcases List.mem_append.mp hf with z | z
    · exact h f z
    · rw [List.mem_singleton.mp z]; exact b
  · split at hf
    · rcases List.mem_append.mp hf with z | z
      · exact h f z
      · rw [List.mem_singleton.mp z]; exact a
    · exact h f hf
theorem Tre.full (tr : Tre n J E) {K : List Nat} {f0 : Nat} (h0 : f0 ∈ K) (hK : ∀ f ∈ K, f < n) (cl : ∀ k ∈ E, ((smAt n J k).1 ∈ K ↔ (oth J (smAt n J k)).1 ∈ K)) : ∀ f, f < n → f ∈ K := fun f hf =>
  (tr.conn f0 f (hK f0 h0) hf).closed (S := fun x => x ∈ K) h0 fun x y hx ⟨k, hk, h⟩ => by
    rcases h with ⟨a, b⟩ | ⟨a, b⟩
    · rw [b]; exact (cl k hk).mp (by rw [← a]; exact hx)
    · rw [a]; exact (cl k hk).mpr (by rw [← b]; exact hx)
structure Met (n : Nat) (f0 : Nat) (K : List Nat) : Prop where
  nd : K.Nodup
  lt : ∀ f ∈ K, f < n
  has : f0 ∈ K
theorem Met.stp (sk : Skin n J) {f0 : Nat} {K : List Nat} {k : Int} (hk : 0 ≤ k ∧ k < (2 * n : Nat)) (h : Met n f0 K) : Met n f0 (stp n J K k) := ⟨stp_nodup k h.nd, stp_lt sk hk h.lt, stp_sub K k f0 h.has⟩
theorem Met.fold (sk : Skin n J) {f0 : Nat} : ∀ (E : List Int) (K : List Nat), Inb n E → Met n f0 K → Met n f0 (E.foldl (Ve.stp n J) K)
  | [], K, _, h => h
  | k :: E, K, hi, h => Met.fold sk E _ (fun z hz => hi z (List.mem_cons_of_mem _ hz)) (h.stp sk (hi k List.mem_cons_self))
theorem Met.len {f0 : Nat} {K : List Nat} (h : Met n f0 K) : K.length ≤ n := by
  have := nodup_len h.nd (m := List.range n) fun f hf => List.mem_range.mpr (h.lt f hf)
  rwa [List.length_range] at this
def tb1 (n : Nat) (J : Nat → Nat → Sd) (k : Int) (f : Nat) : List Nat := (if (smAt n J k).1 = f then [(smAt n J k).2] else []) ++ (if (oth J (smAt n J k)).1 = f then [(oth J (smAt n J k)).2] else [])
def tbl (n : Nat) (J : Nat → Nat → Sd) (E : List Int) (f : Nat) : List Nat := E.flatMap fun k => tb1 n J k f
end
end Ve
set_option maxHeartbeats 1000000
namespace L2
open PySem PySem.Spec PyProof.Rows
end L2
namespace Ve
open PySem PySem.Spec L2
end Ve
namespace Ve
open PySem PySem.Spec L2
theorem perm_same {α : Type} [DecidableEq α] : ∀ {a b : List α}, a.Nodup → b.Nodup → (∀ k, k ∈ a ↔ k ∈ b) → a.Perm b
  | [], b, _, _, h => by
    cases b with
    | nil => exact List.Perm.nil
    | cons y b => exact absurd ((h y).mpr List.mem_cons_self) (by simp)
  | x :: a, b, ha, hb, h => by
    obtain ⟨hx, ha2⟩ := List.nodup_cons.mp ha
    have xb := (h x).mp List.mem_cons_self
    refine ((perm_same ha2 (hb.erase x) fun k => ?_).cons x).trans (List.perm_cons_erase xb).symm
    rw [hb.mem_erase_iff]
    constructor
    · intro hk
      exact ⟨fun e => hx (e ▸ hk), (h k).mp (List.mem_cons_of_mem _ hk)⟩
    · rintro ⟨h1, h2⟩
      rcases List.mem_cons.mp ((h k).mpr h2) with z | z
      · exact absurd z h1
      · exact z
end Ve
namespace Ve
open PySem PySem.Spec L2
end Ve
namespace Ve
open PySem PySem.Spec L2
open PySem.W (Tup Datum DatumOrd listLt minOf minD_map)
structure Tot {α : Type} (lt : α → α → Bool) : Prop where
  irr : ∀ a, lt a a = false
  tra : ∀ a b c, lt a b = true → lt b c = true → lt a c = true
  tri : ∀ a b, lt a b = false → lt b a = false → a = b
theorem Tot.int : Tot (DatumOrd.lt : Int → Int → Bool) :=
  ⟨fun a => decide_eq_false (Int.lt_irrefl a), fun a b c h1 h2 => decide_eq_true (Int.lt_trans (of_decide_eq_true h1) (of_decide_eq_true h2)), fun a b h1 h2 => by
    have h1 := of_decide_eq_false h1
    have h2 := of_decide_eq_false h2
    omega⟩
section
variable {α : Type} [DecidableEq α] [DatumOrd α]
theorem Tot.list (h : Tot (DatumOrd.lt : α → α → Bool)) : Tot (listLt : List α → List α → Bool) := by
  refine ⟨fun a => ?_, ?_, ?_⟩
  · induction a with
    | nil => rfl
    | cons x xs ih => rw [listLt, if_pos rfl, ih]
  · intro a
    induction a with
    | nil =>
      intro b c h1 h2
      cases b with
      | nil => cases h1
      | cons y ys => cases c with
        | nil => cases h2
        | cons z zs => rfl
    | cons x xs ih =>
      intro b c h1 h2
      cases b with
      | nil => cases h1
      | cons y ys => cases c with
        | nil => cases h2
        | cons z zs =>
          rw [listLt] at h1 h2 ⊢
          by_cases e1 : x = y
          · rw [if_pos e1] at h1
            by_cases e2 : y = z
            · rw [if_pos e2] at h2
              rw [if_pos (e1.trans e2)]
              exact ih _ _ h1 h2
            · rw [if_neg e2] at h2
              rw [if_neg (by rw [e1]; exact e2), e1]
              exact h2
          · rw [if_neg e1] at h1
            by_cases e2 : y = z
            · rw [if_neg (by rw [← e2]; exact e1), ← e2]
              exact h1
            · rw [if_neg e2] at h2
              have q := h.tra _ _ _ h1 h2
              rw [if_neg (fun e => by rw [e, h.irr] at q; cases q)]
              exact q
  · intro a
    induction a with
    | nil =>
      intro b h1 h2
      cases b with
      | nil => rfl
      | cons y ys => cases h1
    | cons x xs ih =>
      intro b h1 h2
      cases b with
      | nil => cases h2
      | cons y ys =>
        rw [listLt] at h1 h2
        by_cases e : x = y
        · rw [if_pos e] at h1
          rw [if_pos e.symm] at h2
          rw [e, ih _ h1 h2]
        · rw [if_neg e] at h1
          rw [if_neg (fun z => e z.symm)] at h2
          exact absurd (h.tri _ _ h1 h2) e
theorem Tot.tup (h : Tot (DatumOrd.lt : α → α → Bool)) : Tot (DatumOrd.lt : Tup α → Tup α → Bool) := by
  have l := h.list
  refine ⟨fun a => l.irr a.items, fun a b c h1 h2 => l.tra _ _ _ h1 h2, fun a b h1 h2 => ?_⟩
  have := l.tri _ _ h1 h2
  cases a
  cases b
  exact congrArg Tup.mk this
theorem minOf_mem (x : α) : ∀ xs : List α, minOf x xs ∈ x :: xs := fun xs => by
  unfold minOf
  induction xs generalizing x with
  | nil => exact List.mem_cons_self
  | cons y ys ih =>
    rw [List.foldl_cons]
    by_cases h : DatumOrd.lt y x = true
    · rw [if_pos h]
      exact List.mem_cons_of_mem _ (ih y)
    · rw [if_neg h]
      rcases List.mem_cons.mp (ih x) with z | z
      · rw [z]; exact List.mem_cons_self
      · exact List.mem_cons_of_mem _ (List.mem_cons_of_mem _ z)
theorem minOf_le (h : Tot (DatumOrd.lt : α → α → Bool)) (x : α) : ∀ xs : List α, ∀ y ∈ x :: xs, DatumOrd.lt y (minOf x xs) = false := fun xs => by
  unfold minOf
  induction xs generalizing x with
  | nil =>
    intro y hy
    rw [List.mem_singleton.mp hy]
    exact h.irr x
  | cons y ys ih =>
    intro w hw
    rw [List.foldl_cons]
    by_cases c : DatumOrd.lt y x = true
    · rw [if_pos c]
      have q := ih y
      rcases List.mem_cons.mp hw with z | z
      · subst z
        cases e : DatumOrd.lt w (List.foldl (fun a y => if DatumOrd.lt y a = true then y else a) y ys) with
        | false => rfl
        | true =>
          have := h.tra _ _ _ c e
          rw [q y List.mem_cons_self] at this
          cases this
      · exact q w z
    · rw [if_neg c]
      have q := ih x
      rcases List.mem_cons.mp hw with z | z
      · rw [z]; exact q x List.mem_cons_self
      · rcases List.mem_cons.mp z with z | z
        · subst z
          cases e : DatumOrd.lt w (List.foldl (fun a y => if DatumOrd.lt y a = true then y else a) x ys) with
          | false => rfl
          | true =>
            have q2 := q x List.mem_cons_self
            have c' : DatumOrd.lt w x = false := by simpa using c
            cases e2 : DatumOrd.lt (List.foldl (fun a y => if DatumOrd.lt y a = true then y else a) x ys) x with
            | false =>
              have := h.tri _ _ q2 e2
              rw [← this, c'] at e
              cases e
            | true =>
              have := h.tra _ _ _ e e2
              rw [c'] at this
              cases this
        · exact q w (List.mem_cons_of_mem _ z)
theorem minOf_same (h : Tot (DatumOrd.lt : α → α → Bool)) {x y : α} {xs ys : List α} (e : ∀ k, k ∈ x :: xs ↔ k ∈ y :: ys) : minOf x xs = minOf y ys :=
  h.tri _ _ (minOf_le h y ys _ ((e _).mp (minOf_mem x xs))) (minOf_le h x xs _ ((e _).mpr (minOf_mem y ys)))
end
abbrev T2 := Tup (Tup Int)
def toT2 (b : List (List Int)) : T2 := ⟨b.map fun a => ⟨a⟩⟩
def ofT2 (t : T2) : List (List Int) := t.items.map fun a => a.items
theorem of_to (b : List (List Int)) : ofT2 (toT2 b) = b := by
  unfold ofT2 toT2
  rw [List.map_map]
  exact List.map_id' b
theorem tot2 : Tot (DatumOrd.lt : T2 → T2 → Bool) := Tot.int.tup.tup
def minT : List (List (List Int)) → List (List Int)
  | [] => []
  | b :: bs => ofT2 (minOf (toT2 b) (bs.map toT2))
theorem minT_same {l l' : List (List (List Int))} (hn : l ≠ []) (e : ∀ k, k ∈ l ↔ k ∈ l') : minT l = minT l' := by
  cases l with
  | nil => exact absurd rfl hn
  | cons b bs =>
    cases l' with
    | nil => exact absurd ((e b).mp List.mem_cons_self) (by simp)
    | cons c cs =>
      show ofT2 (minOf (toT2 b) (bs.map toT2)) = ofT2 (minOf (toT2 c) (cs.map toT2))
      rw [minOf_same tot2 (fun k => ?_)]
      have : ∀ (x : List (List Int)) (xs : List (List (List Int))), k ∈ toT2 x :: xs.map toT2 ↔ ∃ a ∈ x :: xs, toT2 a = k := fun x xs => by
        rw [← List.map_cons, List.mem_map]
      rw [this, this]
      exact ⟨fun ⟨a, h1, h2⟩ => ⟨a, (e a).mp h1, h2⟩, fun ⟨a, h1, h2⟩ => ⟨a, (e a).mpr h1, h2⟩⟩
theorem toD_T2 (b : List (List Int)) : Datum.toD (toT2 b) = PyData.tuple (b.map fun a => PyData.tuple (a.map PyData.int)) := by
  show PyData.tuple ((b.map fun a => (⟨a⟩ : Tup Int)).map Datum.toD) = _
  rw [List.map_map]
  rfl
theorem mapO_TT {hp : Hd} {n : Nat} : ∀ bs : List (List (List Int)), mapO (pyF hp (n + 3)) (bs.map TT) = some (bs.map fun b => Datum.toD (toT2 b))
  | [] => rfl
  | b :: bs => by
    have e : pyF hp (n + 3) (TT b) = some (Datum.toD (toT2 b)) := by
      rw [toD_T2]
      show (mapO (pyF hp (n + 2)) (b.map T)).map PyData.tuple = _
      rw [mapO_T]
      rfl
    rw [List.map_cons, List.map_cons, mapO, e, mapO_TT bs]
theorem plainDs_T : ∀ b : List (List Int), plainDs (b.map T) = true
  | [] => rfl
  | a :: b => by
    show (plainDs (a.map D.int) && plainDs (b.map T)) = true
    rw [plainDs_I, plainDs_T b]
    rfl
theorem plainDs_TT : ∀ bs : List (List (List Int)), plainDs (bs.map TT) = true
  | [] => rfl
  | b :: bs => by
    show (plainDs (b.map T) && plainDs (bs.map TT)) = true
    rw [plainDs_T, plainDs_TT bs]
    rfl
theorem pyF_TT {hp : Hd} {n : Nat} (b : List (List Int)) : pyF hp (n + 3) (TT b) = some (Datum.toD (toT2 b)) := by
  rw [toD_T2]
  show (mapO (pyF hp (n + 2)) (b.map T)).map PyData.tuple = _
  rw [mapO_T]
  rfl
theorem to_of (t : T2) : toT2 (ofT2 t) = t := by
  cases t with
  | mk items =>
    unfold toT2 ofT2
    congr 1
    rw [List.map_map]
    exact List.map_id' items
theorem decD_T2 (t : T2) : decD (Datum.toD t) = some (TT (ofT2 t)) := by
  have e := pyF_TT (hp := []) (n := 12) (ofT2 t)
  rw [to_of] at e
  exact dec_enc 15 _ _ (plainDs_T (ofT2 t)) e
theorem alikeB_T2 (l : List T2) : alikeB (l.map Datum.toD) = true := by
  unfold alikeB
  rw [Bool.and_eq_true, List.all_eq_true, List.all_eq_true]
  refine ⟨fun x hx => ?_, fun x hx => ?_⟩
  · rw [List.all_eq_true]
    intro y hy
    obtain ⟨a, _, rfl⟩ := List.mem_map.mp hx
    obtain ⟨b, _, rfl⟩ := List.mem_map.mp hy
    exact DatumOrd.alike a b
  · obtain ⟨a, _, rfl⟩ := List.mem_map.mp hx
    rfl
theorem gBestL_TT {hp : Hd} {l : List (List (List Int))} (hn : l ≠ []) : gBestL false (l.map TT) hp = some (TT (minT l), hp) := by
  cases l with
  | nil => exact absurd rfl hn
  | cons b bs =>
    have e : bestD false ((b :: bs).map TT) hp = some (TT (minT (b :: bs))) := by
      unfold bestD
      rw [mapO_TT (n := 12)]
      have em : ((b :: bs).map fun b => Datum.toD (toT2 b)) = ((b :: bs).map toT2).map Datum.toD := by rw [List.map_map]; rfl
      have d := PySem.W.depthAll_map ((b :: bs).map toT2)
      have ha := alikeB_T2 ((b :: bs).map toT2)
      rw [em]
      show (if (plainDs ((b :: bs).map TT) && (alikeB (((b :: bs).map toT2).map Datum.toD) && decide (PyData.depthAll (((b :: bs).map toT2).map Datum.toD) ≤ 40))) = true then decD (PySem.W.minD (Datum.toD (toT2 b)) ((bs.map toT2).map Datum.toD)) else none) = _
      have d2 : Datum.depth T2 ≤ 40 := by decide
      rw [plainDs_TT, ha, decide_eq_true (Nat.le_trans d d2), if_pos (by rfl), minD_map, decD_T2]
      rfl
    unfold gBestL
    rw [e]
end Ve
namespace Ve
open PySem PySem.Spec L2
def Two (cs : List (List Int)) : Prop := ∀ c ∈ cs, ∃ x y : Int, c = [x, y]
def sub2 (a b : Int) (c : List Int) : List Int := [c.getD 0 0 - a, c.getD 1 0 - b]
def hm (cs : List (List Int)) : List (List Int) := sortC (cs.map (sub2 (mnC cs 0) (mnC cs 1)))
def Rm (A B : List (List Int)) : Prop := ∃ a b, A.Perm (B.map (sub2 a b))
theorem Rm.home (B : List (List Int)) : Rm (Ve.hm B) B := ⟨_, _, sortC_perm _⟩
end Ve
namespace L2
open PySem PySem.Spec PyProof.Rows
end L2
namespace Ve
open PySem PySem.Spec L2
end Ve
namespace Ve
open PySem PySem.Spec L2
theorem srtS_nodup (L : List Int) : (srtS L).Nodup := lt_nodup srtS_lt
theorem getD_mem' {L : List Int} {a : Nat} (h : a < L.length) : L.getD a 0 ∈ L := by
  rw [List.getD_eq_getElem?_getD, List.getElem?_eq_getElem h]
  exact List.getElem_mem h
theorem srtS_range (n : Nat) : (srtS ((List.range n).map fun k : Nat => (k : Int))).length = n := by
  have nd : ((List.range n).map fun k : Nat => (k : Int)).Nodup := by
    show List.Pairwise (· ≠ ·) _
    rw [List.pairwise_map]
    exact (List.pairwise_lt_range (n := n)).imp fun h => by omega
  rw [nodup_len_eq (srtS_nodup _) nd fun k => mem_srtS, List.length_map, List.length_range]
theorem srtS_one {L : List Int} {n : Nat} (hl : L.length = n) (hn : 0 < n) (h : ∀ f, f < n → L.getD f 0 = L.getD 0 0) : (srtS L).length = 1 := by
  have := nodup_len_eq (srtS_nodup L) (show [L.getD 0 0].Nodup by simp) fun k => by
    rw [mem_srtS, List.mem_singleton]
    constructor
    · intro hk
      obtain ⟨j, hj, e⟩ := List.mem_iff_getElem.mp hk
      rw [← e, ← h j (by omega), List.getD_eq_getElem?_getD, List.getElem?_eq_getElem hj]
      rfl
    · rintro rfl
      exact getD_mem' (by omega)
  exact this
section
variable {n : Nat} {J : Nat → Nat → Sd} {E : List Int}
theorem joinG_at {L : List Int} {a b f : Nat} (h : f < L.length) : (joinG L a b).getD f 0 = if L.getD f 0 = max (L.getD a 0) (L.getD b 0) then min (L.getD a 0) (L.getD b 0) else L.getD f 0 := by
  have e1 : (joinG L a b).getD f 0 = ((joinG L a b)[f]?).getD 0 := List.getD_eq_getElem?_getD
  have e2 : L.getD f 0 = L[f] := by rw [List.getD_eq_getElem?_getD, List.getElem?_eq_getElem h]; rfl
  rw [e1, e2]
  unfold joinG
  rw [List.getElem?_map, List.getElem?_eq_getElem h]
  rfl
structure Gps (n : Nat) (J : Nat → Nat → Sd) (ks L : List Int) : Prop where
  len : L.length = n
  pos : ∀ f, f < n → 0 ≤ L.getD f 0
  zero : L.getD 0 0 = 0
  same : ∀ k ∈ ks, L.getD (smAt n J k).1 0 = L.getD (oth J (smAt n J k)).1 0
theorem Gps.put (sk : Skin n J) {ks L : List Int} {k : Int} (hks : Inb n ks) (hk : 0 ≤ k ∧ k < (2 * n : Nat)) (h : Gps n J ks L) : Gps n J (ks ++ [k]) (grpS n J L k) := by
  obtain ⟨s1, _, s3, _⟩ := sk.sm hk
  have pa := h.pos _ s1
  have pb := h.pos _ s3
  have l0 := sk.pos
  have at_ : ∀ f, f < n → (grpS n J L k).getD f 0 = if L.getD f 0 = max (L.getD (smAt n J k).1 0) (L.getD (oth J (smAt n J k)).1 0) then min (L.getD (smAt n J k).1 0) (L.getD (oth J (smAt n J k)).1 0) else L.getD f 0 := fun f hf => joinG_at (by rw [h.len]; exact hf)
  refine ⟨(joinG_len _ _ _).trans h.len, fun f hf => ?_, ?_, fun k' hk' => ?_⟩
  · rw [at_ f hf]
    have := h.pos f hf
    split <;> omega
  · rw [at_ 0 l0, h.zero]
    split <;> omega
  · rcases List.mem_append.mp hk' with z | z
    · obtain ⟨t1, _, t3, _⟩ := sk.sm (hks k' z)
      rw [at_ _ t1, at_ _ t3, h.same k' z]
    · rw [List.mem_singleton.mp z, at_ _ s1, at_ _ s3]
      split <;> split <;> omega
end
end Ve
set_option maxHeartbeats 1000000
namespace PySem
end PySem
namespace L2
open PySem PySem.Spec PyProof.Rows PySem.W
end L2
namespace Ve
open PySem PySem.Spec L2
end Ve
set_option maxHeartbeats 1000000
namespace Ve
open PySem PySem.Spec L2 PyProof.Rows
end Ve
namespace Ve
open PySem PySem.Spec L2
open PySem.W (Tup Datum DatumOrd listLt)
end Ve
namespace Ve
open PySem PySem.Spec L2
def rel (u v : Int) (L : List Int) : List Int := L.map fun z => if z = u then v else z
theorem rel_len (u v : Int) (L : List Int) : (rel u v L).length = L.length := by unfold rel; rw [List.length_map]
theorem rel_self (u : Int) (L : List Int) : rel u u L = L := by
  unfold rel
  have : (fun z : Int => if z = u then u else z) = id := by
    funext z
    by_cases h : z = u
    · rw [if_pos h, h]; rfl
    · rw [if_neg h]; rfl
  rw [this, List.map_id]
theorem rel_at {u v : Int} {L : List Int} {f : Nat} (h : f < L.length) : (rel u v L).getD f 0 = if L.getD f 0 = u then v else L.getD f 0 := by
  have e2 : L.getD f 0 = L[f] := by rw [List.getD_eq_getElem?_getD, List.getElem?_eq_getElem h]; rfl
  rw [e2, List.getD_eq_getElem?_getD]
  unfold rel
  rw [List.getElem?_map, List.getElem?_eq_getElem h]
  rfl
theorem count_rel_v {u v : Int} (h : u ≠ v) : ∀ L : List Int, (rel u v L).count v = L.count u + L.count v
  | [] => rfl
  | z :: L => by
    have ih := count_rel_v h L
    unfold rel at ih ⊢
    rw [List.map_cons, List.count_cons, List.count_cons, List.count_cons, ih]
    by_cases c : z = u
    · subst c
      have : (z == v) = false := by simpa using h
      simp [this]
      omega
    · by_cases c2 : z = v
      · subst c2
        have : (z == u) = false := by simpa using c
        simp [c, this]
        omega
      · have h1 : (z == u) = false := by simpa using c
        have h2 : (z == v) = false := by simpa using c2
        simp [c, h1, h2]
theorem count_rel_o {u v w : Int} (h1 : w ≠ u) (h2 : w ≠ v) : ∀ L : List Int, (rel u v L).count w = L.count w
  | [] => rfl
  | z :: L => by
    have ih := count_rel_o h1 h2 L
    unfold rel at ih ⊢
    rw [List.map_cons, List.count_cons, List.count_cons, ih]
    by_cases c : z = u
    · subst c
      have a1 : (v == w) = false := by simpa using Ne.symm h2
      have a2 : (z == w) = false := by simpa using Ne.symm h1
      simp [a1, a2]
    · simp [c]
theorem mem_rel {u v w : Int} {L : List Int} (h : u ≠ v) (hu : u ∈ L) : w ∈ rel u v L ↔ w ≠ u ∧ (w ∈ L ∨ w = v) := by
  unfold rel
  rw [List.mem_map]
  constructor
  · rintro ⟨z, hz, e⟩
    by_cases c : z = u
    · rw [if_pos c] at e
      rw [← e]
      exact ⟨h.symm, .inr rfl⟩
    · rw [if_neg c] at e
      rw [← e]
      exact ⟨c, .inl hz⟩
  · rintro ⟨h1, h2 | h2⟩
    · exact ⟨w, h2, if_neg h1⟩
    · exact ⟨u, hu, by rw [if_pos rfl, h2]⟩
theorem srtS_rel {u v : Int} {L : List Int} (h : u ≠ v) (hu : u ∈ L) (hv : v ∈ L) : (srtS (rel u v L)).length + 1 = (srtS L).length := by
  have ma : u ∈ srtS L := mem_srtS.mpr hu
  have e := nodup_len_eq (srtS_nodup (rel u v L)) ((srtS_nodup L).erase u) fun k => by
    rw [mem_srtS, (srtS_nodup L).mem_erase_iff, mem_srtS, mem_rel h hu]
    constructor
    · rintro ⟨h1, h2 | h2⟩
      · exact ⟨h1, h2⟩
      · rw [h2]; exact ⟨h.symm, hv⟩
    · rintro ⟨h1, h2⟩
      exact ⟨h1, .inl h2⟩
  rw [e, List.length_erase_of_mem ma]
  have := List.length_pos_of_mem ma
  omega
section
variable {n : Nat} {J : Nat → Nat → Sd}
theorem manyB_app (ks : List Int) (k : Int) (L : List Int) (w : Int) : manyB n J (ks ++ [k]) L w = manyB n J ks L w + (if L.getD (smAt n J k).1 0 = w then 1 else 0) := by
  unfold manyB
  rw [List.filter_append, List.length_append]
  congr 1
  by_cases c : L.getD (smAt n J k).1 0 = w
  · rw [if_pos c, List.filter_cons_of_pos (by simpa using c)]; rfl
  · rw [if_neg c, List.filter_cons_of_neg (by simpa using c)]; rfl
theorem manyB_rel_v {u v : Int} (h : u ≠ v) {L : List Int} : ∀ ks : List Int, (∀ k ∈ ks, (smAt n J k).1 < L.length) → manyB n J ks (rel u v L) v = manyB n J ks L u + manyB n J ks L v
  | [], _ => rfl
  | k :: ks, hk => by
    have ih := manyB_rel_v h ks fun z hz => hk z (List.mem_cons_of_mem _ hz)
    unfold manyB at ih ⊢
    have hl := hk k List.mem_cons_self
    rw [List.filter_cons, List.filter_cons, List.filter_cons, rel_at hl]
    by_cases c : L.getD (smAt n J k).1 0 = u
    · have c2 : ¬ L.getD (smAt n J k).1 0 = v := fun z => h (c.symm.trans z)
      rw [if_pos c]
      simp only [beq_self_eq_true, if_true, beq_iff_eq]
      rw [if_pos c, if_neg c2, List.length_cons, List.length_cons, ih]
      omega
    · rw [if_neg c]
      simp only [beq_iff_eq]
      rw [if_neg c]
      by_cases c2 : L.getD (smAt n J k).1 0 = v
      · rw [if_pos c2, if_pos c2, List.length_cons, List.length_cons, ih]; omega
      · rw [if_neg c2, if_neg c2, ih]
theorem manyB_rel_o {u v w : Int} (h1 : w ≠ u) (h2 : w ≠ v) {L : List Int} (ks : List Int) (hk : ∀ k ∈ ks, (smAt n J k).1 < L.length) : manyB n J ks (rel u v L) w = manyB n J ks L w := by
  unfold manyB
  congr 1
  refine List.filter_congr fun k hkm => ?_
  rw [rel_at (hk k hkm)]
  by_cases c : L.getD (smAt n J k).1 0 = u
  · rw [if_pos c, c]
    have a1 : (v == w) = false := by simpa using Ne.symm h2
    have a2 : (u == w) = false := by simpa using Ne.symm h1
    rw [a1, a2]
  · rw [if_neg c]
structure Fo (n : Nat) (J : Nat → Nat → Sd) (ks L : List Int) : Prop where
  len : L.length = n
  inb : Inb n ks
  same : ∀ k ∈ ks, L.getD (smAt n J k).1 0 = L.getD (oth J (smAt n J k)).1 0
  conn : ∀ f g, f < n → g < n → L.getD f 0 = L.getD g 0 → Cn (Adj n J ks) f g
  cnt : ∀ v ∈ L, L.count v ≤ manyB n J ks L v + 1
  pot : ∃ Pt : Nat → Pl, (∀ f, 0 ≤ (Pt f).t ∧ (Pt f).t < 4) ∧ ∀ k ∈ ks, manyB n J ks L (L.getD (smAt n J k).1 0) < L.count (L.getD (smAt n J k).1 0) → Bes Pt J (smAt n J k)
  exc : n < ks.length + (srtS L).length ↔ ∃ v ∈ L, L.count v ≤ manyB n J ks L v
  le : n ≤ ks.length + (srtS L).length
theorem range_at0 {n f : Nat} (hf : f < n) : ((List.range n).map fun k : Nat => (k : Int)).getD f 0 = (f : Int) := by
  rw [List.getD_eq_getElem?_getD, List.getElem?_map, List.getElem?_range hf]
  rfl
theorem Fo.start (n : Nat) (J : Nat → Nat → Sd) : Fo n J [] ((List.range n).map fun k : Nat => (k : Int)) := by
  have nd : ((List.range n).map fun k : Nat => (k : Int)).Nodup := by
    show List.Pairwise (· ≠ ·) _
    rw [List.pairwise_map]
    exact (List.pairwise_lt_range (n := n)).imp fun h => by omega
  refine ⟨by rw [List.length_map, List.length_range], (fun k h => absurd h List.not_mem_nil), (fun k h => absurd h List.not_mem_nil), fun f g hf hg h => ?_, fun v hv => ?_, ⟨fun _ => ⟨0, 0, 0⟩, (fun _ => (by decide : (0 : Int) ≤ 0 ∧ (0 : Int) < 4)), (fun k h => absurd h List.not_mem_nil)⟩, ?_, ?_⟩
  · rw [range_at0 hf, range_at0 hg] at h
    have : f = g := by omega
    rw [this]
    exact .refl
  · have := List.nodup_iff_count.mp nd v
    omega
  · rw [srtS_range]
    constructor
    · intro h
      simp at h
    · rintro ⟨v, hv, h⟩
      have := List.count_pos_iff.mpr hv
      have h0 : manyB n J [] ((List.range n).map fun k : Nat => (k : Int)) v = 0 := rfl
      omega
  · rw [srtS_range]; simp
theorem Fo.put {ks L : List Int} (h : Fo n J ks L) (sk : Skin n J) {k : Int} (hk : 0 ≤ k ∧ k < (2 * n : Nat)) {u v : Int} (huv : (u = L.getD (smAt n J k).1 0 ∧ v = L.getD (oth J (smAt n J k)).1 0) ∨ (u = L.getD (oth J (smAt n J k)).1 0 ∧ v = L.getD (smAt n J k).1 0)) :
    Fo n J (ks ++ [k]) (rel u v L) := by
  obtain ⟨hf, hi, hg, hj⟩ := sk.sm hk
  have hlt : ∀ e ∈ ks, (smAt n J e).1 < L.length := fun e he => by rw [h.len]; exact (sk.sm (h.inb e he)).1
  have inb' : Inb n (ks ++ [k]) := fun e he => by
    rcases List.mem_append.mp he with z | z
    · exact h.inb e z
    · rw [List.mem_singleton.mp z]; exact hk
  have mono : ∀ x y, Adj n J ks x y → Adj n J (ks ++ [k]) x y := fun x y ⟨e, he, q⟩ => ⟨e, List.mem_append_left _ he, q⟩
  have edge : Cn (Adj n J (ks ++ [k])) (smAt n J k).1 (oth J (smAt n J k)).1 := .step .refl ⟨k, by simp, .inl ⟨rfl, rfl⟩⟩
  have mf : L.getD (smAt n J k).1 0 ∈ L := getD_mem' (by rw [h.len]; exact hf)
  have mg : L.getD (oth J (smAt n J k)).1 0 ∈ L := getD_mem' (by rw [h.len]; exact hg)
  obtain ⟨Pt, ht, hb⟩ := h.pot
  by_cases hne : L.getD (smAt n J k).1 0 = L.getD (oth J (smAt n J k)).1 0
  · have euv : u = v := by rcases huv with ⟨rfl, rfl⟩ | ⟨rfl, rfl⟩ <;> first | exact hne | exact hne.symm
    rw [euv, rel_self]
    have same' : ∀ e ∈ ks ++ [k], L.getD (smAt n J e).1 0 = L.getD (oth J (smAt n J e)).1 0 := fun e he => by
      rcases List.mem_append.mp he with z | z
      · exact h.same e z
      · rw [List.mem_singleton.mp z]; exact hne
    refine ⟨h.len, inb', same', fun f g a b e => (h.conn f g a b e).mono mono, fun w hw => ?_, ⟨Pt, ht, fun e he hm => ?_⟩, ?_, ?_⟩
    · rw [manyB_app]
      have := h.cnt w hw
      omega
    · rw [manyB_app] at hm
      rcases List.mem_append.mp he with z | z
      · by_cases c : L.getD (smAt n J k).1 0 = L.getD (smAt n J e).1 0
        · rw [if_pos c] at hm
          have := h.cnt _ (getD_mem' (hlt e z))
          omega
        · rw [if_neg c] at hm
          exact hb e z hm
      · rw [List.mem_singleton.mp z, if_pos rfl] at hm
        have := h.cnt _ mf
        omega
    · rw [List.length_append, List.length_singleton]
      have := h.le
      refine ⟨fun _ => ⟨_, mf, ?_⟩, fun _ => by omega⟩
      rw [manyB_app, if_pos rfl]
      exact h.cnt _ mf
    · rw [List.length_append, List.length_singleton]
      have := h.le
      omega
  · have une : u ≠ v := by rcases huv with ⟨rfl, rfl⟩ | ⟨rfl, rfl⟩ <;> first | exact hne | exact fun z => hne z.symm
    have hu : u ∈ L := by rcases huv with ⟨rfl, rfl⟩ | ⟨rfl, rfl⟩ <;> assumption
    have hv : v ∈ L := by rcases huv with ⟨rfl, rfl⟩ | ⟨rfl, rfl⟩ <;> assumption
    have at_ : ∀ a, a < n → (rel u v L).getD a 0 = if L.getD a 0 = u then v else L.getD a 0 := fun a ha => rel_at (by rw [h.len]; exact ha)
    have fu : (rel u v L).getD (smAt n J k).1 0 = v := by
      rw [at_ _ hf]
      rcases huv with ⟨a, b⟩ | ⟨a, b⟩
      · rw [if_pos a.symm]
      · rw [← b, if_neg (fun z => une z.symm)]
    have gu : (rel u v L).getD (oth J (smAt n J k)).1 0 = v := by
      rw [at_ _ hg]
      rcases huv with ⟨a, b⟩ | ⟨a, b⟩
      · rw [← b, if_neg (fun z => une z.symm)]
      · rw [if_pos a.symm]
    have ends : ∀ e ∈ ks, (smAt n J e).1 < n ∧ (oth J (smAt n J e)).1 < n := fun e he => let ⟨a, _, b, _⟩ := sk.sm (h.inb e he); ⟨a, b⟩
    have cv := count_rel_v une L
    have mv : manyB n J (ks ++ [k]) (rel u v L) v = manyB n J ks L u + manyB n J ks L v + 1 := by
      rw [manyB_app, fu, if_pos rfl, manyB_rel_v une ks hlt]
    have mo' : ∀ w, w ≠ u → w ≠ v → manyB n J (ks ++ [k]) (rel u v L) w = manyB n J ks L w := fun w h1 h2 => by
      rw [manyB_app, fu, if_neg (fun z => h2 z.symm), manyB_rel_o h1 h2 ks hlt]
      rfl
    have cu := h.cnt u hu
    have cv0 := h.cnt v hv
    obtain ⟨r, a, b, hr, em⟩ := mo_to (ht (smAt n J k).1) (nxt_t (Pt (oth J (smAt n J k)).1) (oth J (smAt n J k)).2 (smAt n J k).2)
    refine ⟨(rel_len _ _ _).trans h.len, inb', fun e he => ?_, fun f g hf' hg' e => ?_, fun w hw => ?_, ⟨fun f => if L.getD f 0 = L.getD (smAt n J k).1 0 then mo r a b (Pt f) else Pt f, fun f => ?_, fun e he hm => ?_⟩, ?_, ?_⟩
    · rcases List.mem_append.mp he with z | z
      · obtain ⟨e1, e2⟩ := ends e z
        rw [at_ _ e1, at_ _ e2, h.same e z]
      · rw [List.mem_singleton.mp z, fu, gu]
    · rw [at_ f hf', at_ g hg'] at e
      have key : ∀ x, x < n → L.getD x 0 = u ∨ L.getD x 0 = v → Cn (Adj n J (ks ++ [k])) x (smAt n J k).1 := fun x hx hxx => by
        have : L.getD x 0 = L.getD (smAt n J k).1 0 ∨ L.getD x 0 = L.getD (oth J (smAt n J k)).1 0 := by
          rcases huv with ⟨p, q⟩ | ⟨p, q⟩ <;> rcases hxx with w | w
          · exact .inl (w.trans p)
          · exact .inr (w.trans q)
          · exact .inr (w.trans p)
          · exact .inl (w.trans q)
        rcases this with w | w
        · exact (h.conn x _ hx hf w).mono mono
        · exact ((h.conn x _ hx hg w).mono mono).trans (edge.symm Adj.symm)
      by_cases c1 : L.getD f 0 = u <;> by_cases c2 : L.getD g 0 = u
      · exact (h.conn f g hf' hg' (c1.trans c2.symm)).mono mono
      · rw [if_pos c1, if_neg c2] at e
        exact (key f hf' (.inl c1)).trans ((key g hg' (.inr e.symm)).symm Adj.symm)
      · rw [if_neg c1, if_pos c2] at e
        exact (key f hf' (.inr e)).trans ((key g hg' (.inl c2)).symm Adj.symm)
      · rw [if_neg c1, if_neg c2] at e
        exact (h.conn f g hf' hg' e).mono mono
    · obtain ⟨w1, w2⟩ := (mem_rel une hu).mp hw
      by_cases c : w = v
      · rw [c, cv, mv]; omega
      · rw [count_rel_o w1 c, mo' w w1 c]
        exact h.cnt w (w2.resolve_right c)
    · dsimp only
      split
      · exact mo_t (ht f)
      · exact ht f
    · rcases List.mem_append.mp he with z | z
      · obtain ⟨e1, e2⟩ := ends e z
        have q : Bes Pt J (smAt n J e) := by
          refine hb e z ?_
          rw [at_ _ e1] at hm
          by_cases c1 : L.getD (smAt n J e).1 0 = u
          · rw [if_pos c1, cv, mv] at hm
            rw [c1]; omega
          · rw [if_neg c1] at hm
            by_cases c2 : L.getD (smAt n J e).1 0 = v
            · rw [c2, cv, mv] at hm
              rw [c2]; omega
            · rw [count_rel_o c1 c2, mo' _ c1 c2] at hm
              exact hm
        have s := h.same e z
        unfold Bes at q ⊢
        dsimp only
        by_cases c : L.getD (smAt n J e).1 0 = L.getD (smAt n J k).1 0
        · rw [if_pos c, if_pos (s.symm.trans c), nxt_mo hr, q]
        · rw [if_neg c, if_neg (fun z => c (s.trans z)), q]
      · rw [List.mem_singleton.mp z]
        unfold Bes
        dsimp only
        rw [if_pos rfl, if_neg (fun z => hne z.symm), em]
        exact nxt_back (ht _) (by omega) (by omega)
    · have sl := srtS_rel une hu hv
      rw [List.length_append, List.length_singleton]
      have e0 : (n < ks.length + 1 + (srtS (rel u v L)).length) ↔ n < ks.length + (srtS L).length := by omega
      rw [e0, h.exc]
      constructor
      · rintro ⟨w, hw, hc⟩
        by_cases c1 : w = u ∨ w = v
        · refine ⟨v, (mem_rel une hu).mpr ⟨une.symm, .inr rfl⟩, ?_⟩
          rw [cv, mv]
          rcases c1 with rfl | rfl <;> omega
        · have c2 : w ≠ u := fun z => c1 (.inl z)
          have c3 : w ≠ v := fun z => c1 (.inr z)
          exact ⟨w, (mem_rel une hu).mpr ⟨c2, .inl hw⟩, by rw [count_rel_o c2 c3, mo' w c2 c3]; exact hc⟩
      · rintro ⟨w, hw, hc⟩
        obtain ⟨w1, w2⟩ := (mem_rel une hu).mp hw
        by_cases c : w = v
        · rw [c, cv, mv] at hc
          by_cases d : L.count u ≤ manyB n J ks L u
          · exact ⟨u, hu, d⟩
          · exact ⟨v, hv, by omega⟩
        · rw [count_rel_o w1 c, mo' w w1 c] at hc
          exact ⟨w, w2.resolve_right c, hc⟩
    · have sl := srtS_rel une hu hv
      rw [List.length_append, List.length_singleton]
      have := h.le
      omega
theorem Fo.putG {ks L : List Int} (h : Fo n J ks L) (sk : Skin n J) {k : Int} (hk : 0 ≤ k ∧ k < (2 * n : Nat)) : Fo n J (ks ++ [k]) (grpS n J L k) := by
  show Fo n J (ks ++ [k]) (rel (max (L.getD (smAt n J k).1 0) (L.getD (oth J (smAt n J k)).1 0)) (min (L.getD (smAt n J k).1 0) (L.getD (oth J (smAt n J k)).1 0)) L)
  refine h.put sk hk ?_
  by_cases c : L.getD (smAt n J k).1 0 ≤ L.getD (oth J (smAt n J k)).1 0
  · exact .inr ⟨by omega, by omega⟩
  · exact .inl ⟨by omega, by omega⟩
theorem fo_fold (sk : Skin n J) : ∀ (ks ks0 L : List Int), Inb n ks → Fo n J ks0 L → Fo n J (ks0 ++ ks) (ks.foldl (grpS n J) L)
  | [], ks0, L, _, h => by rw [List.append_nil]; exact h
  | k :: ks, ks0, L, hi, h => by
    have := fo_fold sk ks (ks0 ++ [k]) (grpS n J L k) (fun z hz => hi z (List.mem_cons_of_mem _ hz)) (h.putG sk (hi k List.mem_cons_self))
    rw [List.append_assoc] at this
    exact this
def hngS (n : Nat) (J : Nat → Nat → Sd) (L : List Int) (k : Int) : List Int := joinL L (smAt n J k).1 (oth J (smAt n J k)).1
def hngI (n : Nat) (J : Nat → Nat → Sd) (ks : List Int) : List Int := ks.foldl (hngS n J) ((List.range n).map fun k : Nat => (k : Int))
theorem Fo.putL {ks L : List Int} (h : Fo n J ks L) (sk : Skin n J) {k : Int} (hk : 0 ≤ k ∧ k < (2 * n : Nat)) : Fo n J (ks ++ [k]) (hngS n J L k) :=
  h.put sk hk (.inl ⟨rfl, rfl⟩)
theorem fo_foldL (sk : Skin n J) : ∀ (ks ks0 L : List Int), Inb n ks → Fo n J ks0 L → Fo n J (ks0 ++ ks) (ks.foldl (hngS n J) L)
  | [], ks0, L, _, h => by rw [List.append_nil]; exact h
  | k :: ks, ks0, L, hi, h => by
    have := fo_foldL sk ks (ks0 ++ [k]) (hngS n J L k) (fun z hz => hi z (List.mem_cons_of_mem _ hz)) (h.putL sk (hi k List.mem_cons_self))
    rw [List.append_assoc] at this
    exact this
theorem hngI_fo (sk : Skin n J) {ks : List Int} (hi : Inb n ks) : Fo n J ks (hngI n J ks) := fo_foldL sk ks [] _ hi (Fo.start n J)
theorem Fo.lab {ks L : List Int} (h : Fo n J ks L) {f g : Nat} (c : Cn (Adj n J ks) f g) : L.getD f 0 = L.getD g 0 :=
  c.closed (S := fun x => L.getD f 0 = L.getD x 0) rfl fun x y hx ⟨k, hk, q⟩ => by
    have s := h.same k hk
    rcases q with ⟨rfl, rfl⟩ | ⟨rfl, rfl⟩
    · exact hx.trans s
    · exact hx.trans s.symm
end
end Ve
namespace Ve
open PySem PySem.Spec L2
section
variable {n : Nat} {J : Nat → Nat → Sd}
theorem Adj.of_mem {E E' : List Int} (h : ∀ k ∈ E, k ∈ E') : ∀ a b, Adj n J E a b → Adj n J E' a b := fun a b ⟨k, hk, q⟩ => ⟨k, h k hk, q⟩
def Hang (n : Nat) (J : Nat → Nat → Sd) (E : List Int) : Prop := ∀ f, f < n → Cn (Adj n J E) 0 f
theorem Hang.two {E : List Int} (h : Hang n J E) {f g : Nat} (hf : f < n) (hg : g < n) : Cn (Adj n J E) f g := ((h f hf).symm Adj.symm).trans (h g hg)
theorem Hang.mono {E E' : List Int} (h : Hang n J E) (s : ∀ k ∈ E, k ∈ E') : Hang n J E' := fun f hf => (h f hf).mono (Adj.of_mem s)
theorem Fo.one {ks L : List Int} (h : Fo n J ks L) (h0 : 0 < n) (c : Hang n J ks) : (srtS L).length = 1 := srtS_one h.len h0 fun f hf => (h.lab (c f hf)).symm
theorem Fo.hang {ks L : List Int} (h : Fo n J ks L) (h0 : 0 < n) (c : (srtS L).length = 1) : Hang n J ks := fun f hf => by
  refine h.conn 0 f h0 hf ?_
  have m0 := mem_srtS.mpr (getD_mem' (L := L) (a := 0) (by rw [h.len]; exact h0))
  have m1 := mem_srtS.mpr (getD_mem' (L := L) (a := f) (by rw [h.len]; exact hf))
  match hh : srtS L with
  | [] => rw [hh] at m0; cases m0
  | [x] =>
    rw [hh] at m0 m1
    rw [List.mem_singleton.mp m0, List.mem_singleton.mp m1]
  | x :: y :: r => rw [hh] at c; simp at c
theorem fo_mono (sk : Skin n J) : ∀ (r ks L : List Int), Inb n r → Fo n J ks L → n < ks.length + (srtS L).length → n < (ks ++ r).length + (srtS (r.foldl (grpS n J) L)).length
  | [], ks, L, _, _, h => by rw [List.append_nil]; exact h
  | k :: r, ks, L, hi, h, e => by
    have hk := hi k List.mem_cons_self
    have hp := h.putG sk hk
    have ⟨hf, _, hg, _⟩ := sk.sm hk
    have := fo_mono sk r (ks ++ [k]) (grpS n J L k) (fun z hz => hi z (List.mem_cons_of_mem _ hz)) hp (by
      rw [List.length_append, List.length_singleton]
      have mf : L.getD (smAt n J k).1 0 ∈ L := getD_mem' (by rw [h.len]; exact hf)
      have mg : L.getD (oth J (smAt n J k)).1 0 ∈ L := getD_mem' (by rw [h.len]; exact hg)
      by_cases c : L.getD (smAt n J k).1 0 = L.getD (oth J (smAt n J k)).1 0
      · have : grpS n J L k = L := by
          show rel (max (L.getD (smAt n J k).1 0) (L.getD (oth J (smAt n J k)).1 0)) (min (L.getD (smAt n J k).1 0) (L.getD (oth J (smAt n J k)).1 0)) L = L
          rw [show max (L.getD (smAt n J k).1 0) (L.getD (oth J (smAt n J k)).1 0) = min (L.getD (smAt n J k).1 0) (L.getD (oth J (smAt n J k)).1 0) by omega, rel_self]
        rw [this]; omega
      · have : (srtS (grpS n J L k)).length + 1 = (srtS L).length := by
          show (srtS (rel (max (L.getD (smAt n J k).1 0) (L.getD (oth J (smAt n J k)).1 0)) (min (L.getD (smAt n J k).1 0) (L.getD (oth J (smAt n J k)).1 0)) L)).length + 1 = _
          by_cases d : L.getD (smAt n J k).1 0 ≤ L.getD (oth J (smAt n J k)).1 0
          · rw [show max (L.getD (smAt n J k).1 0) (L.getD (oth J (smAt n J k)).1 0) = L.getD (oth J (smAt n J k)).1 0 by omega, show min (L.getD (smAt n J k).1 0) (L.getD (oth J (smAt n J k)).1 0) = L.getD (smAt n J k).1 0 by omega]
            exact srtS_rel (fun z => c z.symm) mg mf
          · rw [show max (L.getD (smAt n J k).1 0) (L.getD (oth J (smAt n J k)).1 0) = L.getD (smAt n J k).1 0 by omega, show min (L.getD (smAt n J k).1 0) (L.getD (oth J (smAt n J k)).1 0) = L.getD (oth J (smAt n J k)).1 0 by omega]
            exact srtS_rel c mf mg
        omega)
    rw [List.append_assoc] at this
    exact this
structure Tr0 (n : Nat) (J : Nat → Nat → Sd) (E : List Int) : Prop where
  nd : E.Nodup
  inb : Inb n E
  len : E.length + 1 = n
  hang : Hang n J E
theorem Tr0.split {E ks : List Int} (t : Tr0 n J E) (nd : ks.Nodup) (h : ∀ k ∈ ks, k ∈ E) : ∃ r, Inb n r ∧ (ks ++ r).length + 1 = n ∧ Hang n J (ks ++ r) ∧ (∀ k, k ∈ ks ++ r ↔ k ∈ E) := by
  have mm : ∀ k, k ∈ ks ++ E.filter (fun k => decide (k ∉ ks)) ↔ k ∈ E := fun k => by
    rw [List.mem_append, List.mem_filter]
    constructor
    · rintro (a | ⟨a, _⟩)
      · exact h k a
      · exact a
    · intro a
      by_cases c : k ∈ ks
      · exact .inl c
      · exact .inr ⟨a, decide_eq_true c⟩
  have nd2 : (ks ++ E.filter (fun k => decide (k ∉ ks))).Nodup := List.nodup_append.mpr ⟨nd, t.nd.filter _, fun a ha b hb e => by
    rw [List.mem_filter] at hb
    exact of_decide_eq_true hb.2 (by rw [← e]; exact ha)⟩
  refine ⟨E.filter (fun k => decide (k ∉ ks)), fun k hk => t.inb k (List.mem_filter.mp hk).1, ?_, t.hang.mono fun k hk => (mm k).mpr hk, mm⟩
  rw [nodup_len_eq nd2 t.nd mm]
  exact t.len
end
end Ve
namespace Ve
open PySem PySem.Spec L2
end Ve
namespace Ve
open PySem PySem.Spec L2
open PySem.W (Tup Datum DatumOrd listLt minOf minD_map)
end Ve
namespace Ve
open PySem PySem.Spec L2
end Ve
namespace Ve
open PySem PySem.Spec L2
end Ve
namespace L2
open PySem PySem.Spec PyProof.Rows
end L2
namespace Ve
open PySem PySem.Spec L2 PyProof.Rows
end Ve
namespace Ve
open PySem PySem.Spec L2
section
variable {n : Nat} {J : Nat → Nat → Sd}
def rst (n j : Nat) : List Int := (List.range (2 * n - j)).map fun i : Nat => ((j + i : Nat) : Int)
theorem mem_rst {j : Nat} {k : Int} : k ∈ rst n j ↔ (j : Int) ≤ k ∧ k < (2 * n : Nat) := by
  unfold rst
  rw [List.mem_map]
  constructor
  · rintro ⟨i, hi, rfl⟩
    have := List.mem_range.mp hi
    omega
  · rintro ⟨h1, h2⟩
    exact ⟨k.toNat - j, List.mem_range.mpr (by omega), by omega⟩
theorem hngI_snoc (S : List Int) (k : Int) : hngI n J (S ++ [k]) = hngS n J (hngI n J S) k := by
  unfold hngI
  rw [List.foldl_append]
  rfl
def ext (n : Nat) (J : Nat → Nat → Sd) (ks cs : List Int) (j : Int) (S : List Int) : List (List Int) :=
  (if j ∈ ks then [] else [S]) ++ (if j ∉ cs ∧ (hngI n J S).getD (smAt n J j).1 0 ≠ (hngI n J S).getD (oth J (smAt n J j)).1 0 then [S ++ [j]] else [])
theorem mem_ext {ks cs : List Int} {j : Int} {S R : List Int} : R ∈ ext n J ks cs j S ↔ (j ∉ ks ∧ R = S) ∨ ((j ∉ cs ∧ (hngI n J S).getD (smAt n J j).1 0 ≠ (hngI n J S).getD (oth J (smAt n J j)).1 0) ∧ R = S ++ [j]) := by
  unfold ext
  rw [List.mem_append]
  constructor
  · rintro (h | h)
    · split at h
      · cases h
      · exact .inl ⟨by assumption, List.mem_singleton.mp h⟩
    · split at h
      · exact .inr ⟨by assumption, List.mem_singleton.mp h⟩
      · cases h
  · rintro (⟨h1, rfl⟩ | ⟨h1, rfl⟩)
    · exact .inl (by rw [if_neg h1]; exact List.mem_singleton_self _)
    · exact .inr (by rw [if_pos h1]; exact List.mem_singleton_self _)
theorem ext_len (ks cs : List Int) (j : Int) (S : List Int) : (ext n J ks cs j S).length ≤ 2 := by
  unfold ext
  rw [List.length_append]
  split <;> split <;> simp
def hangsB (n : Nat) (J : Nat → Nat → Sd) (j : Nat) (S : List Int) : Bool := ((srtS (hngI n J (S ++ rst n j))).length : Int) == 1
structure Trs (n : Nat) (J : Nat → Nat → Sd) (ks cs : List Int) (j : Nat) (F : List (List Int)) : Prop where
  so : ∀ S ∈ F, S.Pairwise (· < ·)
  rg : ∀ S ∈ F, ∀ k ∈ S, 0 ≤ k ∧ k < (j : Nat)
  rf : ∀ S ∈ F, S.length + (srtS (hngI n J S)).length = n
  hk : ∀ S ∈ F, ∀ k ∈ ks, k < (j : Nat) → k ∈ S
  hc : ∀ S ∈ F, ∀ k ∈ cs, k ∉ S
  hg : 0 < j → ∀ S ∈ F, hangsB n J j S = true
  all : ∀ E, Tr0 n J E → E.Pairwise (· < ·) → (∀ k ∈ ks, k ∈ E) → (∀ k ∈ cs, k ∉ E) → E.filter (fun k : Int => decide (k < (j : Nat))) ∈ F
  len : F.length ≤ 2 ^ j
theorem Trs.start (ks cs : List Int) (ik : Inb n ks) : Trs n J ks cs 0 [[]] := by
  refine ⟨fun S h => ?_, fun S h => ?_, fun S h => ?_, fun S h k hk hlt => ?_, fun S h => ?_, fun h => absurd h (by omega), fun E t _ _ _ => ?_, Nat.le_refl _⟩
  · rw [List.mem_singleton.mp h]; exact List.Pairwise.nil
  · rw [List.mem_singleton.mp h]; exact fun k hk => absurd hk List.not_mem_nil
  · rw [List.mem_singleton.mp h]
    show 0 + (srtS ((List.range n).map fun k : Nat => (k : Int))).length = n
    rw [srtS_range]
    omega
  · have := (ik k hk).1
    omega
  · rw [List.mem_singleton.mp h]; exact fun k _ => List.not_mem_nil
  · rw [List.filter_eq_nil_iff.mpr fun k hk => by
      have := (t.inb k hk).1
      rw [decide_eq_true_eq]
      omega]
    exact List.mem_singleton_self _
theorem cut_snoc {E : List Int} (so : E.Pairwise (· < ·)) {j : Nat} (hj : ((j : Nat) : Int) ∈ E) : E.filter (fun k : Int => decide (k < ((j + 1 : Nat) : Int))) = E.filter (fun k : Int => decide (k < (j : Nat))) ++ [(j : Int)] := by
  refine lt_unique (so.filter _) ?_ fun k => ?_
  · refine List.pairwise_append.mpr ⟨so.filter _, List.pairwise_singleton _ _, fun a ha b hb => ?_⟩
    rw [List.mem_filter, decide_eq_true_eq] at ha
    rw [List.mem_singleton.mp hb]
    exact ha.2
  · rw [List.mem_append, List.mem_filter, List.mem_filter, List.mem_singleton, decide_eq_true_eq, decide_eq_true_eq]
    constructor
    · rintro ⟨h1, h2⟩
      by_cases c : k < (j : Nat)
      · exact .inl ⟨h1, c⟩
      · exact .inr (by omega)
    · rintro (⟨h1, h2⟩ | rfl)
      · exact ⟨h1, by omega⟩
      · exact ⟨hj, by omega⟩
theorem cut_same {E : List Int} {j : Nat} (hj : ((j : Nat) : Int) ∉ E) : E.filter (fun k : Int => decide (k < ((j + 1 : Nat) : Int))) = E.filter (fun k : Int => decide (k < (j : Nat))) := List.filter_congr fun k hk => by
  refine decide_eq_decide.mpr ⟨fun h => ?_, fun h => by omega⟩
  have : k ≠ (j : Nat) := fun e => hj (by rw [← e]; exact hk)
  omega
theorem part_apart (sk : Skin n J) {E S : List Int} {k : Int} (t : Tr0 n J E) (nd : (S ++ [k]).Nodup) (h : ∀ z ∈ S ++ [k], z ∈ E) (rf : S.length + (srtS (hngI n J S)).length = n) : (hngI n J S).getD (smAt n J k).1 0 ≠ (hngI n J S).getD (oth J (smAt n J k)).1 0 := fun e => by
  obtain ⟨r, ir, lr, hr, mr⟩ := t.split nd h
  have hS : Inb n (S ++ [k]) := fun z hz => t.inb z (h z hz)
  have f0 := hngI_fo sk hS
  have same : hngI n J (S ++ [k]) = hngI n J S := by
    rw [hngI_snoc]
    show rel ((hngI n J S).getD (smAt n J k).1 0) ((hngI n J S).getD (oth J (smAt n J k)).1 0) (hngI n J S) = _
    rw [e, rel_self]
  have x : n < (S ++ [k]).length + (srtS (hngI n J (S ++ [k]))).length := by rw [same, List.length_append, List.length_singleton]; omega
  have y := fo_mono sk r (S ++ [k]) (hngI n J (S ++ [k])) ir f0 x
  have z := fo_fold sk r (S ++ [k]) (hngI n J (S ++ [k])) ir f0
  rw [z.one sk.pos hr] at y
  omega
theorem hangsB_of (sk : Skin n J) {j : Nat} {S : List Int} (hS : Inb n S) (hh : Hang n J (S ++ rst n j)) : hangsB n J j S = true := by
  have f := hngI_fo sk (ks := S ++ rst n j) (fun k hk => by
    rcases List.mem_append.mp hk with z | z
    · exact hS k z
    · have := mem_rst.mp z
      omega)
  unfold hangsB
  rw [f.one sk.pos hh]
  rfl
theorem Trs.step (sk : Skin n J) {ks cs : List Int} {j : Nat} (hj : j < 2 * n) {F : List (List Int)} (h : Trs n J ks cs j F) :
    Trs n J ks cs (j + 1) ((F.flatMap (ext n J ks cs (j : Int))).filter (hangsB n J (j + 1))) := by
  have hjI : 0 ≤ ((j : Nat) : Int) ∧ ((j : Nat) : Int) < (2 * n : Nat) := by omega
  have key : ∀ R ∈ (F.flatMap (ext n J ks cs (j : Int))).filter (hangsB n J (j + 1)), ∃ S ∈ F, hangsB n J (j + 1) R = true ∧ (((j : Int) ∉ ks ∧ R = S) ∨ (((j : Int) ∉ cs ∧ (hngI n J S).getD (smAt n J (j : Int)).1 0 ≠ (hngI n J S).getD (oth J (smAt n J (j : Int))).1 0) ∧ R = S ++ [(j : Int)])) := fun R hR => by
    obtain ⟨h1, h2⟩ := List.mem_filter.mp hR
    obtain ⟨S, hS, hx⟩ := List.mem_flatMap.mp h1
    exact ⟨S, hS, h2, mem_ext.mp hx⟩
  refine ⟨fun R hR => ?_, fun R hR k hk => ?_, fun R hR => ?_, fun R hR k hk hlt => ?_, fun R hR k hk => ?_, fun _ R hR => ?_, fun E t so hk hc => ?_, ?_⟩
  · obtain ⟨S, hS, _, ⟨_, rfl⟩ | ⟨_, rfl⟩⟩ := key R hR
    · exact h.so _ hS
    · refine List.pairwise_append.mpr ⟨h.so S hS, List.pairwise_singleton _ _, fun a ha b hb => ?_⟩
      rw [List.mem_singleton.mp hb]
      exact (h.rg S hS a ha).2
  · obtain ⟨S, hS, _, ⟨_, rfl⟩ | ⟨_, rfl⟩⟩ := key R hR
    · have := h.rg _ hS k hk
      omega
    · rcases List.mem_append.mp hk with z | z
      · have := h.rg S hS k z
        omega
      · rw [List.mem_singleton.mp z]
        omega
  · obtain ⟨S, hS, _, ⟨_, rfl⟩ | ⟨⟨_, hne⟩, rfl⟩⟩ := key R hR
    · exact h.rf _ hS
    · have hSi : Inb n S := fun k hk => by
        have := h.rg S hS k hk
        omega
      have f0 := hngI_fo sk hSi
      obtain ⟨s1, _, s3, _⟩ := sk.sm hjI
      have := srtS_rel (u := (hngI n J S).getD (smAt n J (j : Int)).1 0) (v := (hngI n J S).getD (oth J (smAt n J (j : Int))).1 0) hne (getD_mem' (by rw [f0.len]; exact s1)) (getD_mem' (by rw [f0.len]; exact s3))
      have rf := h.rf S hS
      rw [hngI_snoc, List.length_append, List.length_singleton]
      show S.length + 1 + (srtS (rel _ _ (hngI n J S))).length = n
      omega
  · obtain ⟨S, hS, _, ⟨hn, rfl⟩ | ⟨_, rfl⟩⟩ := key R hR
    · by_cases c : k = (j : Nat)
      · exact absurd (by rw [← c]; exact hk) hn
      · exact h.hk _ hS k hk (by omega)
    · by_cases c : k = (j : Nat)
      · rw [c]; exact List.mem_append_right _ (List.mem_singleton_self _)
      · exact List.mem_append_left _ (h.hk S hS k hk (by omega))
  · obtain ⟨S, hS, _, ⟨_, rfl⟩ | ⟨⟨hn, _⟩, rfl⟩⟩ := key R hR
    · exact h.hc _ hS k hk
    · intro z
      rcases List.mem_append.mp z with w | w
      · exact h.hc S hS k hk w
      · rw [List.mem_singleton.mp w] at hk
        exact hn hk
  · exact (List.mem_filter.mp hR).2
  · have m0 := h.all E t so hk hc
    have hang : ∀ R : List Int, (∀ z ∈ E, z < ((j + 1 : Nat) : Int) → z ∈ R) → (∀ z ∈ R, z ∈ E) → hangsB n J (j + 1) R = true := fun R hR hR2 => by
      refine hangsB_of sk (fun k hk => t.inb k (hR2 k hk)) (t.hang.mono fun k hk => ?_)
      by_cases c : k < ((j + 1 : Nat) : Int)
      · exact List.mem_append_left _ (hR k hk c)
      · exact List.mem_append_right _ (mem_rst.mpr ⟨by omega, (t.inb k hk).2⟩)
    have mem1 : ∀ z ∈ E.filter (fun k : Int => decide (k < ((j + 1 : Nat) : Int))), z ∈ E := fun z hz => (List.mem_filter.mp hz).1
    have mem2 : ∀ z ∈ E, z < ((j + 1 : Nat) : Int) → z ∈ E.filter (fun k : Int => decide (k < ((j + 1 : Nat) : Int))) := fun z hz hlt => List.mem_filter.mpr ⟨hz, decide_eq_true hlt⟩
    have hh := hang _ mem2 mem1
    by_cases c : ((j : Nat) : Int) ∈ E
    · rw [cut_snoc so c] at hh mem1 ⊢
      refine List.mem_filter.mpr ⟨List.mem_flatMap.mpr ⟨_, m0, mem_ext.mpr (.inr ⟨⟨fun z => hc _ z c, ?_⟩, rfl⟩)⟩, hh⟩
      refine part_apart sk t ?_ mem1 (h.rf _ m0)
      rw [← cut_snoc so c]
      exact (so.filter _).imp fun h => by omega
    · rw [cut_same c] at hh ⊢
      exact List.mem_filter.mpr ⟨List.mem_flatMap.mpr ⟨_, m0, mem_ext.mpr (.inl ⟨fun z => c (hk _ z), rfl⟩)⟩, hh⟩
  · have l1 := List.length_filter_le (hangsB n J (j + 1)) (F.flatMap (ext n J ks cs (j : Int)))
    have l2 : ∀ G : List (List Int), (G.flatMap (ext n J ks cs (j : Int))).length ≤ 2 * G.length := by
      intro G
      induction G with
      | nil => exact Nat.le_refl _
      | cons S G ih =>
        have := ext_len (n := n) (J := J) ks cs (j : Int) S
        rw [List.flatMap_cons, List.length_append, List.length_cons]
        omega
    have := l2 F
    have := h.len
    rw [Nat.pow_succ]
    omega
end
end Ve
namespace Ve
open PySem PySem.Spec L2
structure Shw (n w : Nat) (p : PyData) : Prop where
  lay : p.canLay0 = true
  sh : p.showable = true
  nd : p.hasDict = false
  dep : p.depth ≤ n
  wt : p.weight ≤ w
  ish : p.intsShort 13 = true
theorem Shw.int {i : Int} (h : i.natAbs < 10 ^ 12) : Shw 0 64 (.int i) := by
  have hl : i.natAbs.log2 < 40 := by
    by_cases z : i.natAbs = 0
    · rw [z]; decide
    · exact (Nat.log2_lt z).mpr (Nat.lt_of_lt_of_le h (by decide))
  refine ⟨rfl, ?_, rfl, Nat.le_refl _, ?_, ?_⟩
  · show decide (i.natAbs.log2 < 1920) = true
    exact decide_eq_true (by omega)
  · show (if i == 0 then 0 else i.natAbs.log2 + 1) ≤ 64
    split <;> omega
  · show decide ((PyData.shown (.int i)).length ≤ 13) = true
    have := int_text_length_le10 (a := i) (k := 12) (by decide) h
    refine decide_eq_true ?_
    rw [PyData.shown, ofString_length]
    exact this
theorem Shw.tup {n w : Nat} {xs : List PyData} (h : ∀ x ∈ xs, Shw n w x) : Shw (n + 1) (xs.length * (w + 1)) (.tuple xs) := by
  have key : ∀ ys : List PyData, (∀ y ∈ ys, Shw n w y) → PyData.canLayAll0 ys = true ∧ PyData.showableAll ys = true ∧ PyData.hasDictAll ys = false ∧ PyData.depthAll ys ≤ n ∧ PyData.weightAll ys ≤ ys.length * (w + 1) ∧ PyData.intsShortAll 13 ys = true := by
    intro ys
    induction ys with
    | nil => exact fun _ => ⟨rfl, rfl, rfl, Nat.zero_le _, Nat.zero_le _, rfl⟩
    | cons y r ih =>
      intro hy
      obtain ⟨h1, h2, h3, h4, h5, h6⟩ := ih fun z hz => hy z (List.mem_cons_of_mem _ hz)
      have a := hy y List.mem_cons_self
      refine ⟨?_, ?_, ?_, ?_, ?_, ?_⟩
      · rw [PyData.canLayAll0, a.lay, h1]; rfl
      · rw [PyData.showableAll, a.sh, h2]; rfl
      · rw [PyData.hasDictAll, a.nd, h3]; rfl
      · have := a.dep
        rw [PyData.depthAll]
        omega
      · have := a.wt
        rw [PyData.weightAll, List.length_cons, Nat.add_mul, Nat.one_mul]
        omega
      · rw [PyData.intsShortAll, a.ish, h6]; rfl
  obtain ⟨h1, h2, h3, h4, h5, h6⟩ := key xs h
  refine ⟨by rw [PyData.canLay0]; exact h1, by rw [PyData.showable]; exact h2, by rw [PyData.hasDict]; exact h3, ?_, by rw [PyData.weight]; exact h5, by rw [PyData.intsShort]; exact h6⟩
  rw [PyData.depth]
  omega
theorem Shw.ok {n w : Nat} {p : PyData} (h : Shw n w p) (hn : n ≤ 40) (hw : w ≤ 1000000) : reprOk p = true := by
  have hl : p.layable0 = true := by
    unfold PyData.layable0
    rw [h.lay, decide_eq_true (by have := h.dep; omega), decide_eq_true (Nat.le_trans h.wt (Nat.le_trans hw (by decide)))]
    rfl
  have hs := PyData.shown_le_of_layable0 hl h.ish
  unfold reprOk
  rw [h.sh, h.nd, decide_eq_true (by have := h.dep; omega), decide_eq_true (by rw [sizeLine_eq]; omega)]
  rfl
end Ve
namespace Ve
open PySem PySem.Spec L2 PyProof.Rows
end Ve
namespace Ve
open PySem PySem.Spec L2 PyProof.Rows
end Ve
namespace L2
open PySem PySem.Spec PyProof.Rows
end L2
namespace L2
open PySem PySem.Spec PyProof.Rows
structure ZlS (h : Heap) (z TI TO i1 i2 a b : Addr) (i : Nat) : Prop where
  ob : (IsZip h z TI TO .none ∧ ∃ x y, IsTupOf2 h TO x y) ∨ ∃ (T : Addr) (f : Bool) (oT : Obj), PySem.IsZipHeld h z TI TO T f ∧ h.get? T = some oT ∧ T ≠ z ∧ T ≠ i1 ∧ T ≠ i2
  to : ∃ o, h.get? TO = some o
  ti : IsTupOf2 h TI (.ref i1) (.ref i2)
  t1 : h.IsTupleIter i1 a i
  t2 : h.IsTupleIter i2 b i
def zCells (z TI TO i1 i2 : Addr) : List Addr := [z, TI, TO, i1, i2]
theorem ZlS.keep {h h' : Heap} {z TI TO i1 i2 a b : Addr} {i : Nat} (x : ZlS h z TI TO i1 i2 a b i) (k : ∀ c o, c ∈ zCells z TI TO i1 i2 → h.get? c = some o → h'.get? c = some o) (there : ∀ b o, h.get? b = some o → ∃ u, h'.get? b = some u) : ZlS h' z TI TO i1 i2 a b i := by
  obtain ⟨ob, ⟨oTO, to⟩, ti, t1, t2⟩ := x
  refine ⟨?_, ⟨oTO, k _ _ (by simp [zCells]) to⟩, k _ _ (by simp [zCells]) ti, t1.at fun o q => k _ o (by simp [zCells]) q, t2.at fun o q => k _ o (by simp [zCells]) q⟩
  rcases ob with ⟨hz, x, y, hT⟩ | ⟨T, f, oT, hz, hT, r⟩
  · exact .inl ⟨k _ _ (by simp [zCells]) hz, x, y, k _ _ (by simp [zCells]) hT⟩
  · obtain ⟨u, hu⟩ := there T oT hT
    exact .inr ⟨T, f, u, k _ _ (by simp [zCells]) hz, hu, r⟩
theorem ZlS.get {h : Heap} {z TI TO i1 i2 a b : Addr} {i : Nat} (x : ZlS h z TI TO i1 i2 a b i) : ∃ o, h.get? z = some o ∧ o.cls = .type "zip" := by
  rcases x.ob with ⟨hz, _⟩ | ⟨T, f, oT, hz, hT⟩
  · exact ⟨_, hz, rfl⟩
  · exact ⟨_, hz, rfl⟩
end L2
namespace Ve
open PySem PySem.Spec L2
end Ve
namespace Ve
open PySem PySem.Spec L2 PyProof.Rows
end Ve
namespace Ve
open PySem PySem.Spec L2
end Ve
namespace Ve
open PySem PySem.Spec L2
end Ve
namespace Ve
open PySem PySem.Spec L2
end Ve
namespace Ve
open PySem PySem.Spec L2
theorem RpN.len {K : PySem.W.Frag} {H : Hp} {μ : List Addr} : ∀ {ds : List D} {kas : List (NestedKey × Addr)}, RpN K H μ ds kas → ds.length = kas.length
  | [], kas, r => by
    rw [RpN] at r
    subst r
    rfl
  | d :: ds, kas, r => by
    rw [RpN] at r
    obtain ⟨k, a, r', rfl, h1, h2, h3, h4⟩ := r
    rw [List.length_cons, List.length_cons, RpN.len h4]
theorem RelH.dicN {K : PySem.W.Frag} {H : Hp} {μ : List Addr} {hp : Hd} (r : RelH K H μ hp) {n : Nat} {a : Addr} {ds : List D} (h : μ[n]? = some a) (e : hp[n]? = some (.dicN ds)) : ∃ a0 kas, H a = some (.ext (dnP a0 kas)) ∧ RpN K H μ ds kas := by
  obtain ⟨a2, e2, q⟩ := r.at_ e
  rw [h] at e2
  cases e2
  exact q
end Ve
namespace Ve
open PySem PySem.Spec L2
theorem RpN.at_ {K : PySem.W.Frag} {H : Hp} {μ : List Addr} : ∀ {ds : List D} {kas : List (NestedKey × Addr)} {j : Nat} {p : NestedKey × Addr} {d : D}, RpN K H μ ds kas → kas[j]? = some p → ds[j]? = some d → Rp K H μ d (.ref p.2)
  | [], kas, j, p, d, r, h, e => by simp at e
  | x :: ds, kas, j, p, d, r, h, e => by
    rw [RpN] at r
    obtain ⟨k, a, r', rfl, h1, h2, h3, h4⟩ := r
    cases j with
    | zero =>
      simp at h e
      subst h e
      exact h3
    | succ j =>
      simp at h e
      exact RpN.at_ h4 h e
end Ve
namespace L2
open PySem PySem.Spec PyProof.Rows
end L2
namespace Ve
open PySem PySem.Spec L2
end Ve
namespace Ve
open PySem PySem.Spec L2
end Ve
namespace L2
open PySem PySem.Spec PyProof.Rows
end L2
namespace Ve
open PySem PySem.Spec L2
end Ve
namespace Ve
open PySem PySem.Spec L2
def SSt : List (List Int) := [[1, 0], [0, 1], [-1, 0], [0, -1]]
def dif (a b : List Int) : List Int := [b.getD 0 0 - a.getD 0 0, b.getD 1 0 - a.getD 1 0]
def twK (a b : List Int) : Nat := SSt.idxOf (dif a b)
def adK (a : List Int) (k : Nat) : List Int := [a.getD 0 0 + (SSt.getD k []).getD 0 0, a.getD 1 0 + (SSt.getD k []).getD 1 0]
def Sbs (a b : List Int) : Prop := dif a b ∈ SSt
instance (a b : List Int) : Decidable (Sbs a b) := inferInstanceAs (Decidable (_ ∈ _))
theorem four_nat {k : Nat} (h : k < 4) : k = 0 ∨ k = 1 ∨ k = 2 ∨ k = 3 := by omega
theorem mem_SSt {x y : Int} : [x, y] ∈ SSt ↔ (x = 1 ∧ y = 0) ∨ (x = 0 ∧ y = 1) ∨ (x = -1 ∧ y = 0) ∨ (x = 0 ∧ y = -1) := by
  unfold SSt
  simp
theorem twK_adK {a : List Int} {k : Nat} (hk : k < 4) : Sbs a (adK a k) ∧ twK a (adK a k) = k := by
  have e : dif a (adK a k) = SSt.getD k [] := by
    unfold dif adK
    rcases four_nat hk with rfl | rfl | rfl | rfl <;> simp [SSt] <;> omega
  unfold Sbs twK
  rw [e]
  rcases four_nat hk with rfl | rfl | rfl | rfl <;> decide
theorem Sbs.symm {a b : List Int} (h : Sbs a b) : Sbs b a := by
  unfold Sbs dif at *
  rw [mem_SSt] at *
  omega
theorem adK_two (a : List Int) (k : Nat) : ∃ x y : Int, adK a k = [x, y] := ⟨_, _, rfl⟩
def sqA (P : List (List Int)) (i : Nat) : List Int := P.getD i []
def ngb (P : List (List Int)) (J : List Sd) (i : Nat) : List Sd :=
  J.flatMap fun p => (if p.1 = i then [(p.2, twK (sqA P p.1) (sqA P p.2))] else []) ++ if p.2 = i then [(p.1, (twK (sqA P p.1) (sqA P p.2) + 2) % 4)] else []
def JointsOk (P : List (List Int)) (J : List Sd) : Prop := ∀ p ∈ J, (p.1 < p.2 ∧ p.2 < P.length) ∧ Sbs (sqA P p.1) (sqA P p.2)
def CnJ (n : Nat) (J : List Sd) : Prop := ∀ S : Nat → Prop, (∃ i, i < n ∧ S i) → (∀ p ∈ J, S p.1 ↔ S p.2) → ∀ i, i < n → S i
theorem mem_ngb {P : List (List Int)} {J : List Sd} {i : Nat} {q : Sd} : q ∈ ngb P J i ↔ ∃ p ∈ J, (p.1 = i ∧ q = (p.2, twK (sqA P p.1) (sqA P p.2))) ∨ (p.2 = i ∧ q = (p.1, (twK (sqA P p.1) (sqA P p.2) + 2) % 4)) := by
  unfold ngb
  rw [List.mem_flatMap]
  constructor
  · rintro ⟨p, hp, h⟩
    refine ⟨p, hp, ?_⟩
    rcases List.mem_append.mp h with h | h
    · split at h
      · rename_i e; exact .inl ⟨e, List.mem_singleton.mp h⟩
      · cases h
    · split at h
      · rename_i e; exact .inr ⟨e, List.mem_singleton.mp h⟩
      · cases h
  · rintro ⟨p, hp, ⟨e, rfl⟩ | ⟨e, rfl⟩⟩
    · exact ⟨p, hp, List.mem_append_left _ (by rw [if_pos e]; simp)⟩
    · exact ⟨p, hp, List.mem_append_right _ (by rw [if_pos e]; simp)⟩
structure Sqr (P : List (List Int)) : Prop where
  two : Two P
  ne : P ≠ []
  few : P.length ≤ 130
  srt : P.Pairwise (· < ·)
  m0 : mnC P 0 = 0
  m1 : mnC P 1 = 0
structure Pce (P : List (List Int)) (J : List Sd) : Prop where
  sq : Sqr P
  ok : JointsOk P J
  srt : J.Pairwise fun p q => pI p < pI q
  con : CnJ P.length J
end Ve
namespace Ve
open PySem PySem.Spec L2
structure Nbs (o n : Nat) (hp : Hd) (Q : Nat → List Sd) : Prop where
  tb : hp[o + n]? = some (.lst ((List.range n).map fun f => D.ref (o + f)))
  row : ∀ f, f < n → hp[o + f]? = some (.lst ((Q f).map fun q => T (pI q)))
theorem Nbs.keep {o n : Nat} {hp hp2 : Hd} {Q : Nat → List Sd} (h : Nbs o n hp Q) (he : ∀ k, k ≤ o + n → hp2[k]? = hp[k]?) : Nbs o n hp2 Q := ⟨(he _ (Nat.le_refl _)).trans h.tb, fun f hf => (he _ (by omega)).trans (h.row f hf)⟩
theorem Nbs.app {o n : Nat} {hp : Hd} {Q : Nat → List Sd} (h : Nbs o n hp Q) {f : Nat} (hf : f < n) (q : Sd) (hl : (Q f).length < 100000) :
    ∃ hp2, gAppend (.ref (o + f)) [T (pI q)] hp = some (.non, hp2) ∧ Nbs o n hp2 (fun g => Q g ++ if f = g then [q] else []) ∧ hp2.length = hp.length ∧ ∀ k, k < o → hp2[k]? = hp[k]? := by
  refine ⟨_, gAppend_of (h.row f hf) (by rw [List.length_map]; omega), ⟨hset_ne (by omega) h.tb, fun g hg => ?_⟩, List.length_set, fun k hk => ?_⟩
  · by_cases e : f = g
    · subst e
      rw [if_pos rfl, hset_same (h.row f hf), List.map_append]
      rfl
    · rw [if_neg e, List.append_nil]
      exact hset_ne (by omega) (h.row g hg)
  · rw [List.getElem?_set_ne (by omega)]
theorem Nbs.at_ {o n : Nat} {hp : Hd} {Q : Nat → List Sd} (h : Nbs o n hp Q) {f : Nat} (hf : f < n) : gIx (.ref (o + n)) (.int (f : Nat)) hp = some (.ref (o + f), hp) :=
  gIx_refN (j := f) h.tb (x := .ref (o + f)) (by rw [List.getElem?_map, List.getElem?_range hf]; rfl)
structure Grw (L : List (List Int)) (JJ : List (List Int × List Int)) : Prop where
  two : Two L
  nd : L.Nodup
  ne : L ≠ []
  inn : ∀ p ∈ JJ, p.1 ∈ L ∧ p.2 ∈ L ∧ Sbs p.1 p.2
  con : ∀ S : List Int → Prop, (∃ q ∈ L, S q) → (∀ p ∈ JJ, S p.1 ↔ S p.2) → ∀ q ∈ L, S q
theorem Grw.one : Grw [[0, 0]] [] := by
  refine ⟨fun c hc => ?_, by simp, by simp, fun p hp => (by cases hp), fun S ⟨q, hq, s⟩ _ r hr => ?_⟩
  · rw [List.mem_singleton.mp hc]
    exact ⟨0, 0, rfl⟩
  · rw [List.mem_singleton.mp hr]
    rw [List.mem_singleton.mp hq] at s
    exact s
theorem Grw.add {L : List (List Int)} {JJ : List (List Int × List Int)} (h : Grw L JJ) {a : List Int} (ha : a ∈ L) {k : Nat} (hk : k < 4) (hn : adK a k ∉ L) : Grw (L ++ [adK a k]) (JJ ++ [(a, adK a k)]) := by
  refine ⟨fun c hc => ?_, List.nodup_append.mpr ⟨h.nd, by simp, fun x hx y hy e => hn (by rw [← List.mem_singleton.mp hy, ← e]; exact hx)⟩, by simp, fun p hp => ?_, fun S ⟨q, hq, s⟩ cl r hr => ?_⟩
  · rcases List.mem_append.mp hc with z | z
    · exact h.two c z
    · rw [List.mem_singleton.mp z]; exact adK_two a k
  · rcases List.mem_append.mp hp with z | z
    · obtain ⟨h1, h2, h3⟩ := h.inn p z
      exact ⟨List.mem_append_left _ h1, List.mem_append_left _ h2, h3⟩
    · rw [List.mem_singleton.mp z]
      exact ⟨List.mem_append_left _ ha, by simp, (twK_adK hk).1⟩
  · have e := cl (a, adK a k) (by simp)
    have old : ∀ q ∈ L, S q := by
      refine h.con S ?_ fun p hp => cl p (List.mem_append_left _ hp)
      rcases List.mem_append.mp hq with z | z
      · exact ⟨q, z, s⟩
      · rw [List.mem_singleton.mp z] at s
        exact ⟨a, ha, e.mpr s⟩
    rcases List.mem_append.mp hr with z | z
    · exact old r z
    · rw [List.mem_singleton.mp z]
      exact e.mp (old a ha)
theorem Sbs.sub {a b : Int} {c d : List Int} : Sbs (sub2 a b c) (sub2 a b d) ↔ Sbs c d := by
  have : dif (sub2 a b c) (sub2 a b d) = dif c d := by
    show [(d.getD 0 0 - a) - (c.getD 0 0 - a), (d.getD 1 0 - b) - (c.getD 1 0 - b)] = [d.getD 0 0 - c.getD 0 0, d.getD 1 0 - c.getD 1 0]
    rw [show (d.getD 0 0 - a) - (c.getD 0 0 - a) = d.getD 0 0 - c.getD 0 0 by omega, show (d.getD 1 0 - b) - (c.getD 1 0 - b) = d.getD 1 0 - c.getD 1 0 by omega]
  unfold Sbs
  rw [this]
theorem Sbs.irr {c : List Int} : ¬ Sbs c c := fun h => by
  unfold Sbs dif at h
  rw [show c.getD 0 0 - c.getD 0 0 = 0 by omega, show c.getD 1 0 - c.getD 1 0 = 0 by omega] at h
  revert h
  decide
section
variable {L : List (List Int)} {JJ : List (List Int × List Int)}
def hix (L : List (List Int)) (q : List Int) : Nat := (hm L).idxOf (sub2 (mnC L 0) (mnC L 1) q)
end
end Ve
namespace Ve
open PySem PySem.Spec L2
end Ve
namespace L2
open PySem PySem.Spec PyProof.Rows
end L2
namespace Ve
open PySem PySem.Spec L2
def tupsD : List D → Option (List (List Int))
  | [] => some []
  | .tup a :: r => match intsD a, tupsD r with
    | some ns, some rs => some (ns :: rs)
    | _, _ => none
  | _ :: _ => none
theorem tupsD_map : ∀ cs : List (List Int), tupsD (cs.map T) = some cs
  | [] => rfl
  | c :: cs => by
    show (match intsD (c.map D.int), tupsD (cs.map T) with
      | some ns, some rs => some (ns :: rs)
      | _, _ => none) = _
    rw [intsD_map, tupsD_map cs]
theorem tupsD_some : ∀ {ds : List D} {cs : List (List Int)}, tupsD ds = some cs → ds = cs.map T
  | [], cs, h => by cases h; rfl
  | d :: ds, cs, h => by
    cases d <;> try (cases h; done)
    rename_i a
    replace h : (match intsD a, tupsD ds with
      | some ns, some rs => some (ns :: rs)
      | _, _ => none) = some cs := h
    split at h
    · rename_i ns rs e1 e2
      cases h
      rw [intsD_some e1, tupsD_some e2]
      rfl
    · cases h
theorem Rps.tups {K : PySem.W.Frag} {H : Hp} {μ : List Addr} : ∀ {cs : List (List Int)} {vs : List V}, Rps K H μ (cs.map T) vs → ∃ ks : List (Addr × List Int), vs = ks.map (fun p => V.ref p.1) ∧ cs = ks.map (·.2) ∧ ∀ p ∈ ks, TpAt H p.1 (p.2.map V.int)
  | [], vs, h => by
    rw [List.map_nil, Rps] at h
    exact ⟨[], h, rfl, fun p hp => (by cases hp)⟩
  | c :: cs, vs, h => by
    rw [List.map_cons, Rps] at h
    obtain ⟨v, r, rfl, h1, h2⟩ := h
    obtain ⟨ks, e1, e2, h3⟩ := Rps.tups h2
    obtain ⟨a, ws, rfl, t, rs⟩ := Rp.tupE h1
    have := rs.intsE'
    subst this
    refine ⟨(a, c) :: ks, by rw [e1]; rfl, by rw [e2]; rfl, fun p hp => ?_⟩
    rcases List.mem_cons.mp hp with z | z
    · rw [z]; exact t
    · exact h3 p z
theorem Rps.ofTups {K : PySem.W.Frag} {H : Hp} {μ : List Addr} : ∀ {ks : List (Addr × List Int)}, (∀ p ∈ ks, TpAt H p.1 (p.2.map V.int)) → Rps K H μ ((ks.map (·.2)).map T) (ks.map fun p => V.ref p.1)
  | [], _ => by rw [List.map_nil, List.map_nil, List.map_nil, Rps]
  | p :: ks, h => by
    rw [List.map_cons, List.map_cons, List.map_cons, Rps]
    exact ⟨_, _, rfl, Rp.tup (h p List.mem_cons_self) Rps.ofInts, Rps.ofTups fun q hq => h q (List.mem_cons_of_mem _ hq)⟩
theorem sorted_one {l m : List (List Int)} (hl : l.Pairwise (· < ·)) (hm : m.Pairwise (· < ·)) (h : ∀ c, c ∈ l ↔ c ∈ m) : l = m := by
  have nl : l.Nodup := nodup_of_lt hl
  have nm : m.Nodup := nodup_of_lt hm
  have pm := perm_same nl nm h
  exact pm.eq_of_pairwise (fun x y _ _ h1 h2 => absurd (List.lt_trans h1 h2) (List.lt_irrefl x)) hl hm
theorem sortC_lt {cs : List (List Int)} (nd : cs.Nodup) : (sortC cs).Pairwise (· < ·) := by
  have hs := sortC_sorted cs
  have hn : (sortC cs).Pairwise (· ≠ ·) := (sortC_perm cs).nodup_iff.mpr nd
  exact (hs.and hn).imp fun ⟨a, b⟩ => lt_of a b
def setP (ds : List D) : Option (List (List Int)) := match tupsD ds with
  | some cs => if cs.length < 64 then some cs else none
  | none => none
theorem setP_some {ds : List D} {cs : List (List Int)} (h : setP ds = some cs) : ds = cs.map T ∧ cs.length < 64 := by
  unfold setP at h
  split at h
  · rename_i cs' e
    split at h
    · rename_i hl
      cases h
      exact ⟨tupsD_some e, hl⟩
    · cases h
  · cases h
theorem setP_map {cs : List (List Int)} (h : cs.length < 64) : setP (cs.map T) = some cs := by
  unfold setP
  rw [tupsD_map]
  exact if_pos h
section
variable {X : Cx} {e : Expr} {fa : AE} {fl : AA} {p p2 pos pos2 : Pos}
theorem TpAt.laid {H : Hp} {a b : Addr} {vs : List V} {o : HO} (h : TpAt H a vs) (h0 : H b = none) : TpAt (upd H b o) a vs := by
  show upd H b o a = _
  rw [upd_ne (ne_of_none h h0)]
  exact h
end
end Ve
namespace Ve
open PySem PySem.Spec L2
end Ve
namespace Ve
open PySem PySem.Spec L2
section
variable {α : Type} [DecidableEq α]
structure Lab (n : Nat) (N : Nat → List Sd) (st : α → Nat → α) (s : α) (l : Nat → α) : Prop where
  at0 : l 0 = s
  on : ∀ i, i < n → ∀ q ∈ N i, l q.1 = st (l i) q.2
abbrev LS (α : Type) := List Nat × (Nat → α)
def putL (l : Nat → α) (a : Nat) (v : α) : Nat → α := fun i => if i = a then v else l i
def lstp (s : LS α) (b : Nat) (v : α) : Option (LS α) := if b ∈ s.1 then (if s.2 b = v then some s else none) else some (s.1 ++ [b], putL s.2 b v)
structure LOk (n : Nat) (N : Nat → List Sd) (st : α → Nat → α) (s : α) (k : LS α) : Prop where
  nd : k.1.Nodup
  in0 : 0 ∈ k.1
  inn : ∀ a ∈ k.1, a < n
  at0 : k.2 0 = s
  forced : ∀ l, Lab n N st s l → ∀ a ∈ k.1, k.2 a = l a
variable {n : Nat} {N : Nat → List Sd} {st : α → Nat → α} {s : α}
theorem LOk.start (hn : 0 < n) : LOk n N st s ([0], fun _ => s) := ⟨by simp, by simp, fun a ha => by rw [List.mem_singleton.mp ha]; exact hn, rfl, fun l h a ha => by
  rw [List.mem_singleton.mp ha, h.at0]⟩
theorem LOk.step {k : LS α} (h : LOk n N st s k) {a : Nat} (ha : a ∈ k.1) {q : Sd} (hq : q ∈ N a) (hb : q.1 < n) :
    (∃ k2, lstp k q.1 (st (k.2 a) q.2) = some k2 ∧ LOk n N st s k2 ∧ (∀ b ∈ k.1, b ∈ k2.1 ∧ k2.2 b = k.2 b) ∧ q.1 ∈ k2.1 ∧ k2.2 q.1 = st (k2.2 a) q.2 ∧ ((q.1 ∈ k.1 ∧ k2 = k) ∨ (q.1 ∉ k.1 ∧ k2.1 = k.1 ++ [q.1]))) ∨ (lstp k q.1 (st (k.2 a) q.2) = none ∧ q.1 ∈ k.1 ∧ ∀ l, ¬ Lab n N st s l) := by
  unfold lstp
  by_cases c : q.1 ∈ k.1
  · rw [if_pos c]
    by_cases e : k.2 q.1 = st (k.2 a) q.2
    · rw [if_pos e]
      exact .inl ⟨k, rfl, h, fun b hb => ⟨hb, rfl⟩, c, e, .inl ⟨c, rfl⟩⟩
    · rw [if_neg e]
      refine .inr ⟨rfl, c, fun l hl => e ?_⟩
      rw [h.forced l hl _ c, h.forced l hl _ ha]
      exact hl.on a (h.inn a ha) q hq
  · rw [if_neg c]
    have old : ∀ b ∈ k.1, putL k.2 q.1 (st (k.2 a) q.2) b = k.2 b := fun b hb => by
      unfold putL
      rw [if_neg (fun e => c (by rw [← e]; exact hb))]
    refine .inl ⟨_, rfl, ⟨?_, List.mem_append_left _ h.in0, fun b hb2 => ?_, ?_, fun l hl b hb2 => ?_⟩, fun b hb2 => ⟨List.mem_append_left _ hb2, old b hb2⟩, by simp, ?_, .inr ⟨c, rfl⟩⟩
    · exact List.nodup_append.mpr ⟨h.nd, by simp, fun x hx y hy e => c (by rw [← List.mem_singleton.mp hy, ← e]; exact hx)⟩
    · rcases List.mem_append.mp hb2 with z | z
      · exact h.inn b z
      · rw [List.mem_singleton.mp z]; exact hb
    · rw [← h.at0]; exact old 0 h.in0
    · rcases List.mem_append.mp hb2 with z | z
      · show putL _ _ _ b = _
        rw [old b z]; exact h.forced l hl b z
      · rw [List.mem_singleton.mp z]
        show putL k.2 q.1 (st (k.2 a) q.2) q.1 = _
        unfold putL
        rw [if_pos rfl, h.forced l hl _ ha]
        exact (hl.on a (h.inn a ha) q hq).symm
    · show putL k.2 q.1 (st (k.2 a) q.2) q.1 = st (putL k.2 q.1 (st (k.2 a) q.2) a) q.2
      rw [old a ha]
      unfold putL
      rw [if_pos rfl]
def lnbs (st : α → Nat → α) (here : Nat) (x : LS α × List Nat) (q : Sd) : Option (LS α × List Nat) := (lstp x.1 q.1 (st (x.1.2 here) q.2)).map fun k2 => (k2, if q.1 ∈ x.1.1 then x.2 else x.2 ++ [q.1])
structure LQ (n : Nat) (N : Nat → List Sd) (st : α → Nat → α) (s : α) (x : LS α × List Nat) : Prop where
  ok : LOk n N st s x.1
  wm : ∀ a ∈ x.2, a ∈ x.1.1
  done : ∀ a ∈ x.1.1, a ∉ x.2 → ∀ q ∈ N a, q.1 ∈ x.1.1 ∧ x.1.2 q.1 = st (x.1.2 a) q.2
  cnt : x.2.length ≤ x.1.1.length
structure LP (n : Nat) (N : Nat → List Sd) (st : α → Nat → α) (s : α) (here : Nat) (y : LS α × List Nat) (d : List Sd) (x : LS α × List Nat) : Prop where
  ok : LOk n N st s x.1
  wm : ∀ a ∈ x.2, a ∈ x.1.1
  hh : here ∈ x.1.1
  w0 : ∀ a ∈ y.2, a ∈ x.2
  new : ∀ a ∈ x.1.1, (a ∈ y.1.1 ∧ x.1.2 a = y.1.2 a) ∨ a ∈ x.2
  keep : ∀ a ∈ y.1.1, a ∈ x.1.1 ∧ x.1.2 a = y.1.2 a
  seen : ∀ q ∈ d, q.1 ∈ x.1.1 ∧ x.1.2 q.1 = st (x.1.2 here) q.2
  cnt : x.2.length + y.1.1.length = y.2.length + x.1.1.length
theorem LP.step {here : Nat} {y x : LS α × List Nat} {d : List Sd} (h : LP n N st s here y d x) {q : Sd} (hq : q ∈ N here) (hb : q.1 < n) : (∃ x2, lnbs st here x q = some x2 ∧ LP n N st s here y (d ++ [q]) x2) ∨ (lnbs st here x q = none ∧ ∀ l, ¬ Lab n N st s l) := by
  unfold lnbs
  rcases h.ok.step h.hh hq hb with ⟨k2, e, ok2, kp, k3, k4, c⟩ | ⟨e, _, no⟩
  · rw [e]
    refine .inl ⟨_, rfl, ?_⟩
    rcases c with ⟨c, rfl⟩ | ⟨c, e2⟩
    · refine ⟨ok2, ?_, h.hh, ?_, ?_, h.keep, fun q' hq' => ?_, ?_⟩
      · dsimp only; rw [if_pos c]; exact h.wm
      · dsimp only; rw [if_pos c]; exact h.w0
      · dsimp only; rw [if_pos c]; exact h.new
      · rcases List.mem_append.mp hq' with z | z
        · exact h.seen q' z
        · rw [List.mem_singleton.mp z]; exact ⟨k3, k4⟩
      · dsimp only; rw [if_pos c]; exact h.cnt
    · refine ⟨ok2, fun a ha => ?_, (kp _ h.hh).1, fun a ha => ?_, fun a ha => ?_, fun a ha => ⟨(kp a (h.keep a ha).1).1, (kp a (h.keep a ha).1).2.trans (h.keep a ha).2⟩, fun q' hq' => ?_, ?_⟩
      · dsimp only at ha ⊢
        rw [if_neg c] at ha
        rcases List.mem_append.mp ha with z | z
        · exact (kp a (h.wm a z)).1
        · rw [List.mem_singleton.mp z]; exact k3
      · dsimp only
        rw [if_neg c]
        exact List.mem_append_left _ (h.w0 a ha)
      · dsimp only at ha ⊢
        rw [if_neg c]
        rw [e2] at ha
        rcases List.mem_append.mp ha with z | z
        · rcases h.new a z with w | w
          · exact .inl ⟨w.1, (kp a z).2.trans w.2⟩
          · exact .inr (List.mem_append_left _ w)
        · exact .inr (List.mem_append_right _ z)
      · rcases List.mem_append.mp hq' with z | z
        · obtain ⟨s1, s2⟩ := h.seen q' z
          refine ⟨(kp _ s1).1, ?_⟩
          rw [(kp _ s1).2, (kp _ h.hh).2]
          exact s2
        · rw [List.mem_singleton.mp z]; exact ⟨k3, k4⟩
      · dsimp only
        rw [if_neg c, e2, List.length_append, List.length_append, List.length_singleton]
        have := h.cnt
        omega
  · rw [e]
    exact .inr ⟨rfl, no⟩
theorem LP.fold {here : Nat} {y : LS α × List Nat} (hN : ∀ q ∈ N here, q.1 < n) : ∀ (r d : List Sd) (x : LS α × List Nat), N here = d ++ r → LP n N st s here y d x → (∃ x2, r.foldlM (lnbs st here) x = some x2 ∧ LP n N st s here y (d ++ r) x2) ∨ (r.foldlM (lnbs st here) x = none ∧ ∀ l, ¬ Lab n N st s l)
  | [], d, x, _, h => .inl ⟨x, rfl, by rw [List.append_nil]; exact h⟩
  | q :: r, d, x, e, h => by
    have hq : q ∈ N here := by rw [e]; simp
    rw [List.foldlM_cons]
    rcases h.step hq (hN q hq) with ⟨x2, e1, h2⟩ | ⟨e1, no⟩
    · rw [e1]
      have := LP.fold hN r (d ++ [q]) x2 (by rw [e, List.append_assoc]; rfl) h2
      rw [List.append_assoc] at this
      exact this
    · rw [e1]
      exact .inr ⟨rfl, no⟩
theorem LQ.pop {here : Nat} {k : LS α} {w : List Nat} (h : LQ n N st s (k, w ++ [here])) (hN : ∀ a q, q ∈ N a → q.1 < n) :
    (∃ x2, (N here).foldlM (lnbs st here) (k, w) = some x2 ∧ LQ n N st s x2 ∧ (n - x2.1.1.length) + x2.2.length < (n - k.1.length) + (w ++ [here]).length) ∨ ((N here).foldlM (lnbs st here) (k, w) = none ∧ ∀ l, ¬ Lab n N st s l) := by
  have hh : here ∈ k.1 := h.wm here (by simp)
  have p0 : LP n N st s here (k, w) [] (k, w) := ⟨h.ok, fun a ha => h.wm a (List.mem_append_left _ ha), hh, fun _ h => h, fun a ha => .inl ⟨ha, rfl⟩, fun a ha => ⟨ha, rfl⟩, fun q hq => (by cases hq), rfl⟩
  rcases LP.fold (fun q hq => hN here q hq) (N here) [] (k, w) rfl p0 with ⟨x2, e, p⟩ | z
  · refine .inl ⟨x2, e, ⟨p.ok, p.wm, fun a ha hw q hq => ?_, ?_⟩, ?_⟩
    · rcases p.new a ha with ⟨z1, z2⟩ | z
      · by_cases c : a = here
        · rw [c] at hq ⊢
          exact p.seen q hq
        · have hw2 : a ∉ w ++ [here] := fun z => by
            rcases List.mem_append.mp z with z | z
            · exact hw (p.w0 a z)
            · exact c (List.mem_singleton.mp z)
          obtain ⟨s1, s2⟩ := h.done a z1 hw2 q hq
          refine ⟨(p.keep _ s1).1, ?_⟩
          rw [(p.keep _ s1).2, (p.keep _ z1).2]
          exact s2
      · exact absurd z hw
    · have := p.cnt
      have := h.cnt
      dsimp only at *
      rw [List.length_append, List.length_singleton] at *
      omega
    · have l1 : x2.1.1.length ≤ n := by
        have := nodup_len (m := List.range n) p.ok.nd fun a ha => List.mem_range.mpr (p.ok.inn a ha)
        rwa [List.length_range] at this
      have l2 : k.1.length ≤ x2.1.1.length := nodup_len h.ok.nd fun a ha => (p.keep a ha).1
      have := p.cnt
      dsimp only at this
      rw [List.length_append, List.length_singleton]
      omega
  · exact .inr z
theorem LOk.len {k : LS α} (h : LOk n N st s k) : k.1.length ≤ n := by
  have := nodup_len (m := List.range n) h.nd fun a ha => List.mem_range.mpr (h.inn a ha)
  rwa [List.length_range] at this
theorem LQ.lab {k : LS α} (h : LQ n N st s (k, [])) (hn : 0 < n) (con : ∀ S : Nat → Prop, S 0 → (∀ a, a < n → S a → ∀ q ∈ N a, S q.1) → ∀ i, i < n → S i) : (∀ i, i < n → i ∈ k.1) ∧ Lab n N st s k.2 := by
  have all := con (fun i => i ∈ k.1) h.ok.in0 fun a _ ha q hq => (h.done a ha (by simp) q hq).1
  exact ⟨all, h.ok.at0, fun i hi q hq => (h.done i (all i hi) (by simp) q hq).2⟩
def estp (st : α → Nat → α) (k : LS α) (e : Nat × Sd) : Option (LS α) := if e.1 ∈ k.1 then lstp k e.2.1 (st (k.2 e.1) e.2.2) else some k
structure EOk (n : Nat) (N : Nat → List Sd) (st : α → Nat → α) (s : α) (y : LS α) (d : List (Nat × Sd)) (k : LS α) : Prop where
  ok : LOk n N st s k
  keep : ∀ b ∈ y.1, b ∈ k.1 ∧ k.2 b = y.2 b
  seen : ∀ e ∈ d, e.1 ∈ y.1 → e.2.1 ∈ k.1 ∧ k.2 e.2.1 = st (k.2 e.1) e.2.2
theorem EOk.fold {y : LS α} : ∀ (r d : List (Nat × Sd)) (k : LS α), (∀ e ∈ r, e.2 ∈ N e.1 ∧ e.2.1 < n) → EOk n N st s y d k → (∃ k2, r.foldlM (estp st) k = some k2 ∧ EOk n N st s y (d ++ r) k2) ∨ (r.foldlM (estp st) k = none ∧ ∀ l, ¬ Lab n N st s l)
  | [], d, k, _, h => .inl ⟨k, rfl, by rw [List.append_nil]; exact h⟩
  | e :: r, d, k, hr, h => by
    rw [List.foldlM_cons]
    unfold estp
    obtain ⟨he1, he2⟩ := hr e List.mem_cons_self
    by_cases c : e.1 ∈ k.1
    · rw [if_pos c]
      rcases h.ok.step c he1 he2 with ⟨k2, e1, ok2, kp, k3, k4, _⟩ | ⟨e1, _, no⟩
      · rw [e1]
        have := EOk.fold r (d ++ [e]) k2 (fun e' h' => hr e' (List.mem_cons_of_mem _ h')) ⟨ok2, fun b hb => ⟨(kp b (h.keep b hb).1).1, (kp b (h.keep b hb).1).2.trans (h.keep b hb).2⟩, fun e' he' hin => by
          rcases List.mem_append.mp he' with z | z
          · obtain ⟨s1, s2⟩ := h.seen e' z hin
            refine ⟨(kp _ s1).1, ?_⟩
            rw [(kp _ s1).2, (kp _ (h.keep _ hin).1).2]
            exact s2
          · rw [List.mem_singleton.mp z]; exact ⟨k3, k4⟩⟩
        rw [List.append_assoc] at this
        exact this
      · rw [e1]
        exact .inr ⟨rfl, no⟩
    · rw [if_neg c]
      have := EOk.fold r (d ++ [e]) k (fun e' h' => hr e' (List.mem_cons_of_mem _ h')) ⟨h.ok, h.keep, fun e' he' hin => by
        rcases List.mem_append.mp he' with z | z
        · exact h.seen e' z hin
        · rw [List.mem_singleton.mp z] at hin
          exact absurd (h.keep _ hin).1 c⟩
      rw [List.append_assoc] at this
      exact this
end
theorem Pce.conn {P : List (List Int)} {J : List Sd} (con : CnJ P.length J) (ok : JointsOk P J) (hn : 0 < P.length) : ∀ S : Nat → Prop, S 0 → (∀ a, a < P.length → S a → ∀ q ∈ ngb P J a, S q.1) → ∀ i, i < P.length → S i := fun S h0 cl => by
  refine con S ⟨0, hn, h0⟩ fun p hp => ?_
  obtain ⟨⟨h1, h2⟩, _⟩ := ok p hp
  exact ⟨fun h => cl p.1 (by omega) h (p.2, twK (sqA P p.1) (sqA P p.2)) (mem_ngb.mpr ⟨p, hp, .inl ⟨rfl, rfl⟩⟩), fun h => cl p.2 h2 h (p.1, (twK (sqA P p.1) (sqA P p.2) + 2) % 4) (mem_ngb.mpr ⟨p, hp, .inr ⟨rfl, rfl⟩⟩)⟩
end Ve
set_option maxHeartbeats 4000000
namespace L2
open PySem PySem.Spec PyProof.Rows
section
variable {P : Program} {w : World} {A : Around} {E : Value → Shared → Prop} {s : Shared}
theorem call_set_tupsT {l : Addr} {items : Array Value} (ks : List (Addr × List Int)) {Q : Value → Shared → Prop} (hh : A.handled = none) (hl : s.heap.IsTuple l items) (hit : items.toList = ks.map fun p => Value.ref p.1)
    (hk : ∀ p ∈ ks, IsT P w s.heap p.2 p.1) (hfew : ks.length < 64) (hu : A.units + 3 < cLine)
    (h : ∀ (h' : Heap) (tk : Nat) L es ep t, SetTR P w h' s.heap.objs.size L es ep t → Got ks ks.length L → (∀ b o, s.heap.get? b = some o → h'.get? b = some o) → Q (.ref s.heap.objs.size) { s with heap := h', toks := tk }) :
    wpAny (model P w) A (call (.type "set") [.ref l]) Q E s := by
  have hisz : items.size = ks.length := by
    have q := congrArg List.length hit
    rw [Array.length_toList, List.length_map] at q
    exact q
  obtain ⟨c, tl, hmro⟩ := F.called_set.mro
  have hmade := F.called_set.made
  have hsub := F.called_set.sub
  refine wpAny_call (codeAny_of_tree ?_)
  show wpAny _ _ (callAny (.type "set") _) _ _ _
  refine wpAny_pure ⟨Code.quiet_builtin _ (by decide +kernel), codeAny_builtin F.entry_type_call ?_⟩
  rw [Around.under_plain (weight_type_call_type "set" [.ref l] []) rfl]
  have h1 := F.called_set.notType
  have h2 := F.called_set.canCreate
  have hct := F.typeCall_set_1 (.ref l)
  repeat (any_goals (first | assumption | wp_step))

  refine codeAny_mono (code_set_led1 (.ref l) (E := E) (Q₁ := fun obj s₁ => obj = .ref s.heap.objs.size ∧ s₁ = { s with heap := s.heap.push { cls := .type "set", dict := none, data := .set #[] 0 (.fresh 0 0 (!w.params.followText "set-order")) } }) ⟨rfl, rfl⟩) fun r s₁ hr => ?_
  cases r with
  | error e => exact hr
  | ok fl =>
    cases fl with
    | ret obj =>
      obtain ⟨rfl, rfl⟩ := hr
      have hS : (s.heap.push { cls := .type "set", dict := none, data := .set #[] 0 (.fresh 0 0 (!w.params.followText "set-order")) }).get? s.heap.objs.size = some { cls := .type "set", dict := none, data := .set #[] 0 (.fresh 0 0 (!w.params.followText "set-order")) } := Heap.get?_push_size _ rfl
      have hT : Shared.TypeIs { s with heap := s.heap.push { cls := .type "set", dict := none, data := .set #[] 0 (.fresh 0 0 (!w.params.followText "set-order")) } } (.ref s.heap.objs.size) "set" := ⟨_, hS, rfl⟩
      have hli := F.called_set.init.lookup
      have hbi := F.called_set.init.bind (.ref s.heap.objs.size)
      repeat (any_goals (first | assumption | wp_step))

      refine codeAny_mono (codeAny_call_builtin (R := wants (fun r s₂ => r = .none ∧ ∃ h' tk L es ep t, s₂ = { s with heap := h', toks := tk } ∧ SetTR P w h' s.heap.objs.size L es ep t ∧ Got ks ks.length L ∧
          (∀ b o, s.heap.get? b = some o → h'.get? b = some o)) E) F.called_set.init.plain F.entry_set_init (check_set_init_1 hT ?_)) fun r₂ s₂ hr₂ => ?_
      · obtain ⟨ol, hol, hcl, nl, hdl⟩ := hl
        obtain ⟨ocls, odict, odata, oslots⟩ := ol
        simp only at hcl hdl
        subst hcl; subst hdl
        have hol' : (s.heap.push { cls := .type "set", dict := none, data := .set #[] 0 (.fresh 0 0 (!w.params.followText "set-order")) }).get? l = some { cls := .type "tuple", dict := odict, data := .seq items nl, slots := oslots } := Heap.get?_push_of_some _ hol
        have hsls := F.sub_tuple_set
        have hslf := F.sub_tuple_frozenset
        have hne : (Value.type "tuple" == Value.type "dict") = false := by decide
        have hl1 : (s.heap.push { cls := .type "set", dict := none, data := .set #[] 0 (.fresh 0 0 (!w.params.followText "set-order")) }).IsTuple l items := ⟨_, hol', rfl, nl, rfl⟩
        unfold Builtin.«set.__init__» noKeywords Builtin.Frozenset.updateFrom
        generalize hPI : pyIter = PI
        wp_walk
        subst hPI

        refine wpAny_pyIter_tuple hl1 ?_
        refine wpAny_bind (wpAny_runValue ?_)
        have hlS : l < s.heap.objs.size := Heap.lt_size hol
        have hh3 : A.in1.in1.in1.handled = none := by simp [hh]
        have hz1 : (s.heap.push { cls := .type "set", dict := none, data := .set #[] 0 (.fresh 0 0 (!w.params.followText "set-order")) }).objs.size = s.heap.objs.size + 1 := Heap.size_push ..
        have hneI : l ≠ (s.heap.push { cls := .type "set", dict := none, data := .set #[] 0 (.fresh 0 0 (!w.params.followText "set-order")) }).objs.size := by
          rw [Heap.size_push]; exact Nat.ne_of_lt (Nat.lt_succ_of_lt hlS)
        have hSf : s.heap.objs.size ∉ [(s.heap.push { cls := .type "set", dict := none, data := .set #[] 0 (.fresh 0 0 (!w.params.followText "set-order")) }).objs.size, l] := by
          rw [Heap.size_push]; simp only [List.mem_cons, List.mem_singleton, List.not_mem_nil, or_false, not_or]
          exact ⟨Nat.ne_of_lt (Nat.lt_succ_self _), Nat.ne_of_gt hlS⟩
        have hval : ∀ (i : Nat) (v : Value), items[i]? = some v → ∃ p, ks[i]? = some p ∧ v = .ref p.1 := fun i v hv => by
          have q : items.toList[i]? = some v := by rw [Array.getElem?_toList]; exact hv
          rw [hit, List.getElem?_map] at q
          cases hq : ks[i]? with
          | none => rw [hq] at q; cases q
          | some p =>
            rw [hq] at q
            exact ⟨p, rfl, (Option.some.inj q).symm⟩
        have none_of : ∀ b, s.heap.objs.size ≤ b → s.heap.get? b = none := fun b hb => by
          cases q : s.heap.get? b with
          | none => rfl
          | some o => exact absurd (Nat.lt_of_lt_of_le (Heap.lt_size q) hb) (Nat.lt_irrefl _)
        refine set_update_tups ((Walks.tuple hh3 _ l hneI items).toS) s.heap.objs.size
          hSf ks hisz hfew hval s.heap hk (none_of _ (Nat.le_refl _)) (fun b hb => none_of b (by
            rw [List.mem_singleton.mp hb, Heap.size_push]
            exact Nat.le_succ _)) hu (items.size - 0) 0 _ (by omega) (Nat.zero_le _)
          ⟨⟨_, Heap.get?_push_size _ rfl, rfl, rfl⟩, (hl1.push _)⟩ (fun b o e => Heap.get?_push_of_some _ (Heap.get?_push_of_some _ e)) ?hS0 ?hR
        case hS0 =>
          have hget : ((s.heap.push { cls := .type "set", dict := none, data := .set #[] 0 (.fresh 0 0 (!w.params.followText "set-order")) }).push { cls := .type "tuple_iterator", data := .fields #[.ref l, .int 0 0] }).get? s.heap.objs.size
              = some { cls := .type "set", dict := none, data := .set #[] 0 (.fresh 0 0 (!w.params.followText "set-order")) } := Heap.get?_push_of_some _ hS
          exact ⟨[], #[], 0, _, setTR_fresh hget, Got.zero ks⟩
        case hR =>
          intro s' L es ep t hm hS' g' hkp
          obtain ⟨h', g2, d', tk', os'⟩ := s'
          have eg : g2 = s.gens := hm.gens
          have ed : d' = s.drawn := hm.drawn
          have eo : os' = s.os := hm.os
          subst eg; subst ed; subst eo
          show wpAny _ _ _ _ _ _
          refine wpAny_pure ?_
          show wpAny _ _ (ret Value.none) _ _ _
          rw [hisz] at g'
          exact wpAny_pure ⟨rfl, h', tk', L, es, ep, t, rfl, hS', g', hkp⟩

      · cases r₂ with
        | error e => exact hr₂
        | ok fl₂ =>
          cases fl₂ with
          | ret r =>
            obtain ⟨rfl, h', tk, L, es, ep, t, rfl, hS', g', hk'⟩ := hr₂
            repeat (any_goals (first | assumption | wp_step))
            exact h _ _ _ _ _ _ hS' g' hk'
          | _ => exact hr₂.elim
    | _ => exact hr.elim
end
section
variable {X : Cx}
def rSetOfTT (K : PySem.W.Frag) (P : Program) (w : World) : List V → Hp → VK → Prop := fun xs H Q => ∃ (l : Addr) (ks : List (Addr × List Int)), xs = [V.ref l] ∧ SqT K H l (ks.map fun p => V.ref p.1) ∧ (∀ p ∈ ks, SqT K H p.1 (p.2.map V.int)) ∧ ks.length < 64 ∧
  ∀ a L, H a = none → (∀ p ∈ L, p ∈ ks) → (∀ p ∈ ks, p.2 ∈ L.map (·.2)) → Q (.ref a) (upd H a (SetTO P w a L))
theorem cr_setOfTT (hc : X.calm = true) (hu : X.A.units + 64 < cLine) : CallR X (.type "set") (rSetOfTT X.K X.prog X.w) := by
  intro pins s σ H xs us Q I r h
  obtain ⟨l, ks, rfl, hl, hk, hf, q⟩ := h
  rw [Vals.ref1 r]
  obtain ⟨its, rv, pl, hz⟩ := I.tuple hl
  have hn : H s.heap.objs.size = none := I.hok.fresh (Nat.le_refl _)
  refine call_set_tupsT (P := X.prog) (w := X.w) ks (I.ok.hd hc) (show s.heap.IsTuple l its.toArray from pl) (by simpa using refs_of_vals rv) (fun p hp => I.isT (hk p hp)) hf (by omega) fun h' tk L es ep t R g k => ?_
  refine ⟨.ref s.heap.objs.size, upd H s.heap.objs.size (SetTO X.prog X.w s.heap.objs.size L), I.laid (t' := tk) k (Nat.le_refl _) (setTO_new R.t0), rfl, q _ L hn (fun p hp => ?_) fun p hp => ?_⟩
  · exact List.mem_of_mem_take (g.sub p hp)
  · exact g.all p (by rw [List.take_length]; exact hp)
end
end L2
namespace Ve
open PySem PySem.Spec L2
end Ve
set_option maxHeartbeats 4000000
namespace L2
open PySem PySem.Spec PyProof.Rows
section
variable {P : Program} {w : World} {A : Around} {E : Value → Shared → Prop} {s : Shared}
def encK (q : Addr × List Int) : PyData := .tuple (q.2.map PyData.int)
theorem encK_depth (q : Addr × List Int) : (encK q).depth ≤ 1 := by
  unfold encK
  rw [PyData.depth, PySem.W.depth_ints]
  try omega
theorem encK_le (q r : Addr × List Int) : PySem.W.dataLe false encK q r = decide (q.2 ≤ r.2) := by
  have h := congrFun (congrFun (PySem.W.dataLe_rows (fun x : List Int => x)) q.2) r.2
  rw [← h, PySem.W.dataLe_eq, PySem.W.dataLe_eq]
  show (!PySem.W.dataLt (PyData.tuple (r.2.map PyData.int)) (PyData.tuple (q.2.map PyData.int))) = (!PySem.W.dataLt (.list (r.2.map PyData.int)) (.list (q.2.map PyData.int)))
  rw [PySem.W.dataLt_tuple, PySem.W.dataLt_list]
theorem sorted_setZ {a : Addr} {L : List (Addr × List Int)} {es : Array (Int × Value)} {ep : Nat} {t : SetTable} {Q : Value → Shared → Prop} (R : SetTR P w s.heap a L es ep t) (hh : A.handled = none) (hu : A.units + 44 < cLine)
    (hB : ∀ p ∈ L, p.2 ≠ [])
    (hQ : ∀ s' p (out : Array Value) (c : Nat) (L' : List (Addr × List Int)), (∀ b o, s.heap.get? b = some o → s'.heap.get? b = some o) → s'.gens = s.gens → s'.os = s.os → s.heap.objs.size ≤ p →
      s'.heap.get? p = some (seqObj "list" out c) → out.toList = L'.map (fun q => Value.ref q.1) → L'.Perm L → L'.Pairwise (fun q r => q.2 ≤ r.2) → Q (.ref p) s') :
    wpAny (model P w) A (call (.builtin "sorted") [.ref a]) Q E s := by
  obtain ⟨o, ho, hex, hd⟩ := R.ob
  have hsz := R.size
  have hfew := R.few
  refine Calls.call_function_entry kind_sorted plain_sorted entry_sorted (args_sorted1 _) ?_
  unfold Builtin.«sorted»
  refine wpAny_bind (m := checkCount "sorted" 1 1 _) (wpAny_pure ?_)
  refine wpAny_bind (collect_set (A := A.in1) hh ⟨o, ho, hex.1, hd⟩ R.fits (by unfold scanBound; omega) R.tab.ris R.led fun s1 vs k1 hz g1 o1 pm => ?_)
  have hes : es.toList.map (·.2) = L.map fun q => Value.ref q.1 := by
    rw [R.rows]
    unfold rowsOf
    rw [List.map_map] <;> rfl
  rw [hes] at pm
  have ord : ∀ vs : List Value, (∀ v ∈ vs, ∃ q ∈ L, v = Value.ref q.1) → ∃ L1 : List (Addr × List Int), vs = L1.map (fun q => Value.ref q.1) ∧ ∀ q ∈ L1, q ∈ L := by
    intro vs
    induction vs with
    | nil => intro _; exact ⟨[], rfl, fun q hq => (by cases hq)⟩
    | cons v vs ih =>
      intro hv
      obtain ⟨q, hq, e⟩ := hv v List.mem_cons_self
      obtain ⟨L1, e1, hs⟩ := ih fun u hu => hv u (List.mem_cons_of_mem _ hu)
      refine ⟨q :: L1, by rw [List.map_cons, e, e1], fun r hr => ?_⟩
      rcases List.mem_cons.mp hr with z | z
      · rw [z]; exact hq
      · exact hs r z
  have one : ∀ q ∈ L, ∀ r ∈ L, q.1 = r.1 → q = r := fun q hq r hr e => by
    have a1 := R.tup q hq
    have a2 := R.tup r hr
    rw [e] at a1
    have e2 : q.2 = r.2 := a1.inj a2
    exact Prod.ext e e2
  have perm_of : ∀ L1 : List (Addr × List Int), (∀ q ∈ L1, q ∈ L) → (L1.map (fun q => Value.ref q.1)).Perm (L.map fun q => Value.ref q.1) → L1.Perm L := by
    intro L1 hs pm1
    have nL : L.Nodup := nodup_of_map R.nd
    have nref : (L.map fun q => Value.ref q.1).Nodup := by
      refine List.pairwise_map.mpr (List.Pairwise.imp_of_mem (fun {q r} hq hr hne e => ?_) nL)
      injection e with e
      exact hne (one q hq r hr e)
    have n1 : L1.Nodup := nodup_of_map (pm1.nodup_iff.mpr nref)
    refine (List.perm_ext_iff_of_nodup n1 nL).mpr fun q => ⟨hs q, fun hq => ?_⟩
    have hm : Value.ref q.1 ∈ L1.map (fun q => Value.ref q.1) := pm1.mem_iff.mpr (List.mem_map.mpr ⟨q, hq, rfl⟩)
    obtain ⟨r, hr, e⟩ := List.mem_map.mp hm
    injection e with e
    rw [← one r (hs r hr) q hq e]
    exact hr
  obtain ⟨L1, e1, hs1⟩ := ord vs fun v hv => by
    obtain ⟨q, hq, e⟩ := List.mem_map.mp (pm.mem_iff.mp hv)
    exact ⟨q, hq, e.symm⟩
  have pL1 : L1.Perm L := perm_of L1 hs1 (by rw [← e1]; exact pm)
  have hvl : vs.length < 64 := by rw [pm.length_eq, List.length_map]; exact hfew
  have hl1 : L1.length < 64 := by rw [pL1.length_eq]; exact hfew
  refine wpAny_bind (wpAny_newList ?_ (by rw [sizeLine_eq]; omega))
  have hoL : (s1.heap.push (seqObj "list" vs.toArray 0)).get? s1.heap.objs.size = some (seqObj "list" vs.toArray 0) := Heap.get?_push_size _ rfl
  have tk : ∀ q ∈ L, TS.TupInts (s1.heap.push (seqObj "list" vs.toArray 0)) (.ref q.1) q.2 := fun q hq => tupInts_of (P := P) (w := w) (isT_keep (R.tup q hq) fun b u e => Heap.get?_push_of_some _ (k1 b u e))
  have rd : ∀ q ∈ L, Reads (s1.heap.push (seqObj "list" vs.toArray 0)) (Value.ref q.1) (encK q) [] := fun q hq => by
    obtain ⟨b, its, eb, ⟨o, ho, hc, n, hd⟩, hi⟩ := tk q hq
    rw [eb]
    exact .tuple ho hc hd (by simpa using IntsAre.reads _ hi)
  have mk : ∀ {S : Value → (Addr × List Int) → Prop} (l : List (Addr × List Int)), (∀ q ∈ l, S (Value.ref q.1) q) → PySem.W.EachIs S (l.map fun q => Value.ref q.1) l := by
    intro S l
    induction l with
    | nil => intro _; exact .nil
    | cons x l ih => intro h; exact .cons (h x List.mem_cons_self) (ih fun q hq => h q (List.mem_cons_of_mem _ hq))
  have bk : ∀ (us : List Value) (l : List (Addr × List Int)), PySem.W.EachIs (fun v q => v = Value.ref q.1) us l → us = l.map fun q => Value.ref q.1 := by
    intro us l h
    induction h with
    | nil => rfl
    | cons a _ ih => rw [List.map_cons, a, ih]
  refine wpAny_bind (wpAny_holding (PySem.W.list_sort_data (s := { s1 with heap := s1.heap.push (seqObj "list" vs.toArray 0) }) (bs := L1) (enc := encK) (R := fun v q => v = Value.ref q.1) hoL
    (by rw [e1]; exact mk L1 fun q _ => rfl) (by rw [e1]; exact mk L1 fun q hq => ⟨[], by have := rd q (hs1 q hq); rw [e1] at this; exact this, by simp⟩)
    (PySem.W.AllAlike.of fun b b' => by show PySem.W.alike (PyData.tuple _) (PyData.tuple _) = true; rw [PySem.W.alike]; exact PySem.W.alike_ints _ _)
    (.inl fun d hd => by
      obtain ⟨q, hq, rfl⟩ := List.mem_map.mp hd
      have := hB q (hs1 q hq)
      unfold encK
      cases hq2 : q.2 with
      | nil => exact absurd hq2 this
      | cons x r => exact ⟨_, _, rfl⟩)
    (by rw [sizeLine_eq]; omega) (fun q _ => by have := encK_depth q; show A.in1.units + 1 + _ < cLine; have : A.in1.units = A.units + 1 := rfl; omega)
    fun out ho2 eo => ?_))
  have eo' := bk _ _ eo
  obtain ⟨c, hc⟩ := sortedHeap_at (vs := vs) (out := out.toArray) hoL
  have pL : (L1.mergeSort (PySem.W.dataLe false encK)).Perm L := (List.mergeSort_perm _ _).trans pL1
  have pw : (L1.mergeSort (PySem.W.dataLe false encK)).Pairwise (fun q r => q.2 ≤ r.2) := by
    have := List.pairwise_mergeSort (le := PySem.W.dataLe false encK) (fun a b c h1 h2 => by
      rw [encK_le] at *
      simp only [decide_eq_true_eq] at *
      exact List.le_trans h1 h2) (fun a b => by
      rw [encK_le, encK_le]
      simp only [Bool.or_eq_true, decide_eq_true_eq]
      exact List.le_total _ _) L1
    exact this.imp fun {a b} h => by
      rw [encK_le] at h
      exact of_decide_eq_true h
  refine wpAny_pure ⟨_, rfl, hQ _ s1.heap.objs.size out.toArray c _ (fun b u e => ?_) g1 o1 hz hc (by simpa using eo') pL pw⟩
  have q := k1 b u e
  have hlt := Heap.lt_size q
  show (sortedHeap (s1.heap.push (seqObj "list" vs.toArray 0)) s1.heap.objs.size vs out.toArray).get? b = some u
  rw [sortedHeap_old (Nat.ne_of_lt hlt) (by rw [size_push']; exact Nat.lt_succ_of_lt hlt)]
  exact Heap.get?_push_of_some _ q
end
section
variable {X : Cx}
def rSortedZ (K : PySem.W.Frag) (P : Program) (w : World) : List V → Hp → VK → Prop := fun vs H Q => ∃ (a : Addr) (L : List (Addr × List Int)), vs = [V.ref a] ∧ H a = some (SetTO P w a L) ∧ (∀ p ∈ L, SqT K H p.1 (p.2.map V.int)) ∧ (∀ p ∈ L, p.2 ≠ []) ∧
  ∀ (L' : List (Addr × List Int)) (p : Addr), L'.Perm L → (L'.map (·.2)).Nodup → L'.length < 64 → L'.Pairwise (fun q r => q.2 ≤ r.2) → H p = none → Q (.ref p) (upd H p (.lst (L'.map fun q => V.ref q.1)))
theorem cr_sortedZ (hc : X.calm = true) (hu : X.A.units + 64 < cLine) : CallR X (.builtin "sorted") (rSortedZ X.K X.prog X.w) := by
  intro pins s σ H vs us Q I r h
  obtain ⟨a, L, rfl, ha, hk, hB, q⟩ := h
  have R0 : SetT0 X.prog X.w s.heap a L := (I.hok a _ ha).1
  obtain ⟨es, ep, t, R⟩ := R0.full fun p hp => I.isT (hk p hp)
  rw [Vals.ref1 r]
  refine sorted_setZ R (I.ok.hd hc) (by omega) hB fun s' p out c L' k g o hp hg hout pm pw => ?_
  have hfew : L'.length < 64 := by rw [pm.length_eq]; exact R.few
  have hlen : (L'.map fun q => V.ref q.1).length ≤ sizeLine := by rw [List.length_map, sizeLine_eq]; omega
  have hn : H p = none := I.hok.fresh hp
  have hv : Vals (L'.map fun q => V.ref q.1) out.toList := by rw [hout]; exact vals_of_refs L'
  have J : Inv X pins σ (upd H p (.lst (L'.map fun q => V.ref q.1))) { s with heap := s'.heap, gens := s'.gens, drawn := s'.drawn, toks := s'.toks } :=
    I.call (ch := []) (Un.laid k hp hn) (I.hok.laid k hp ⟨hlen, out.toList, c, hv, hg⟩) (by rw [g]; exact I.bare) (fun _ z => nomatch z)
  have e : s' = { s with heap := s'.heap, gens := s'.gens, drawn := s'.drawn, toks := s'.toks } := by
    cases s'
    cases s
    cases o
    rfl
  rw [e]
  exact ⟨.ref p, _, J, rfl, q L' p pm ((pm.map (·.2)).nodup_iff.mpr R.nd) hfew pw hn⟩
end
end L2
namespace Ve
open PySem PySem.Spec L2
theorem set_sortedZ {ks L L' : List (Addr × List Int)} (h1 : ∀ p ∈ L, p ∈ ks) (h2 : ∀ p ∈ ks, p.2 ∈ L.map (·.2)) (pm : L'.Perm L) (nd : (L'.map (·.2)).Nodup) (pw : L'.Pairwise (fun q r => q.2 ≤ r.2)) : L'.map (·.2) = sortC (ddp (ks.map (·.2))) := by
  refine sorted_one ?_ (sortC_lt (ddp_nodup _)) fun c => ?_
  · rw [List.pairwise_map]
    unfold List.Nodup at nd
    rw [List.pairwise_map] at nd
    exact (pw.and nd).imp fun {a b} ⟨q1, q2⟩ => lt_of q1 q2
  · rw [(sortC_perm _).mem_iff, ddp_mem]
    constructor
    · intro hc
      obtain ⟨q, hq, rfl⟩ := List.mem_map.mp hc
      exact List.mem_map_of_mem (h1 q (pm.mem_iff.mp hq))
    · intro hc
      obtain ⟨q, hq, rfl⟩ := List.mem_map.mp hc
      obtain ⟨r, hr, e⟩ := List.mem_map.mp (h2 q hq)
      exact List.mem_map.mpr ⟨r, pm.mem_iff.mpr hr, e⟩
def mSortedSetZT (fa : AE) : AA := fun ls hp => match fa ls hp with
  | some (d, hp1) => match tupOf d with
    | some ds => match setP ds with
      | some cs => if (cs.all fun c => !c.isEmpty) = true then some ((sortC (ddp cs)).map T, hp1) else none
      | none => none
    | none => none
  | none => none
section
variable {X : Cx} {e : Expr} {fa : AE} {p p2 pos pos2 : Pos}
theorem le_sortedSetZT (hc : X.calm = true) (hu : X.A.units + 64 < cLine) (hg : Gl X "sorted") (hm : X.mg "sorted" = none) (hg2 : Gl X "set") (hm2 : X.mg "set" = none) (ha : DE X e fa) (he : starEach [e] X.env = (false, eval e X.env) :: starEach [] X.env := by rfl)
    (he2 : starEach [.Call (.Name "set" p2) [e] [] pos2] X.env = (false, eval (.Call (.Name "set" p2) [e] [] pos2) X.env) :: starEach [] X.env := by rfl) : LE X (.Call (.Name "sorted" p) [.Call (.Name "set" p2) [e] [] pos2] [] pos) (mSortedSetZT fa) :=
  PE.imp (pe_callB (cr_sortedZ hc hu) hg hm bb_sorted (pa_cons (pe_callTy (cr_setOfTT hc hu) hg2 hm2 PyProof.Rows.boot_set (pa_cons ha pa_nil he) (by decide) (by decide) he rfl) pa_nil he2) (by decide) (by decide) he2 rfl) fun σ H Q ⟨ls, hp, μ, ds, hp', rl, rh, e, q⟩ => by
    unfold mSortedSetZT at e
    split at e
    · rename_i d hp1 e1
      split at e
      · rename_i ds' e2
        split at e
        · rename_i cs e3
          split at e
          · rename_i hB
            cases e
            obtain ⟨rfl, hl⟩ := setP_some e3
            refine ⟨ls, hp, μ, d, _, rl, rh, e1, fun v H1 μ1 x1 rh1 r1 => ?_⟩
            obtain ⟨a, vs, rfl, t, rs⟩ := tupOf_some e2 r1
            obtain ⟨ks, rfl, rfl, hk⟩ := rs.tups
            rw [List.length_map] at hl
            refine ⟨a, ks, rfl, t.elim (fun t => t.sq) (fun t => t.sq), fun p hp => (hk p hp).sq, hl, fun b L h0 hL1 hL2 => ?_⟩
            have x2 := Ext.laid rh1 (o := SetTO X.prog X.w b L) h0
            refine ⟨b, L, rfl, upd_same, fun p hp => ((hk p (hL1 p hp)).laid h0).sq, fun p hp z => ?_, fun L' l pm nd few pw hl0 => ?_⟩
            · have := List.all_eq_true.mp hB _ (List.mem_map_of_mem (hL1 p hp))
              rw [z] at this
              cases this
            · have rh2 := rh1.laid (o := SetTO X.prog X.w b L) h0
              have x3 := Ext.laid rh2 (o := .lst (L'.map fun q => V.ref q.1)) hl0
              have e := set_sortedZ hL1 hL2 pm nd pw
              have := q l (L'.map fun q => V.ref q.1) _ μ1 ((x1.trans x2).trans x3) (rh2.laid hl0) ((x1.trans x2).back rh2 hl0) (rh2.notIn hl0) upd_same
              rw [← e] at this
              exact this (Rps.ofTups fun p hp => ((hk p (hL1 p (pm.mem_iff.mp hp))).laid h0).laid hl0)
          · cases e
        · cases e
      · cases e
    · cases e
end
theorem sortedSetZT_of {fa : AE} {ls : Ls} {hp hp1 : Hd} {cs : List (List Int)} (e : fa ls hp = some (.tup (cs.map T), hp1)) (hl : cs.length < 64) (hB : ∀ c ∈ cs, c ≠ []) : mSortedSetZT fa ls hp = some ((sortC (ddp cs)).map T, hp1) := by
  unfold mSortedSetZT
  rw [e]
  show (match setP (cs.map T) with
      | some cs => if (cs.all fun c => !c.isEmpty) = true then some ((sortC (ddp cs)).map T, hp1) else none
      | none => none) = _
  rw [setP_map hl]
  exact if_pos (List.all_eq_true.mpr fun c hc => by
    cases c with
    | nil => exact absurd rfl (hB _ hc)
    | cons x r => rfl)
end Ve
namespace Ve
open PySem PySem.Spec L2 PySem.W
def leT2 (a b : List (List Int)) : Bool := !DatumOrd.lt (toT2 b) (toT2 a)
def sortT (L : List (List (List Int))) : List (List (List Int)) := L.mergeSort leT2
theorem encD_TT {hp : Hd} (b : List (List Int)) : encD hp (TT b) = Datum.toD (toT2 b) := by
  unfold encD
  rw [pyF_TT (n := 12)]
  rfl
theorem dataLe_TT {hp : Hd} (a b : List (List Int)) : PySem.W.dataLe false (encD hp) (TT a) (TT b) = leT2 a b := by
  rw [PySem.W.dataLe_eq]
  show (!PySem.W.dataLt (encD hp (TT b)) (encD hp (TT a))) = _
  rw [encD_TT, encD_TT, DatumOrd.lt_eq]
  rfl
theorem srt_TT {hp : Hd} (L : List (List (List Int))) : srt hp (L.map TT) = (sortT L).map TT := by
  unfold srt sortT
  rw [List.map_mergeSort]
  intro a _ b _
  exact (dataLe_TT a b).symm
theorem toT2_inj {a b : List (List Int)} (h : toT2 a = toT2 b) : a = b := by rw [← of_to a, ← of_to b, h]
theorem leT2_anti {a b : List (List Int)} (h1 : leT2 a b = true) (h2 : leT2 b a = true) : a = b := by
  unfold leT2 at h1 h2
  rw [Bool.not_eq_true'] at h1 h2
  exact toT2_inj (tot2.tri _ _ h2 h1)
theorem leT2_total (a b : List (List Int)) : (leT2 a b || leT2 b a) = true := by
  unfold leT2
  cases h1 : DatumOrd.lt (toT2 b) (toT2 a) with
  | false => rfl
  | true =>
    cases h2 : DatumOrd.lt (toT2 a) (toT2 b) with
    | false => rfl
    | true =>
      have := tot2.tra _ _ _ h1 h2
      rw [tot2.irr] at this
      cases this
theorem leT2_trans (a b c : List (List Int)) (h1 : leT2 a b = true) (h2 : leT2 b c = true) : leT2 a c = true := by
  unfold leT2 at h1 h2 ⊢
  rw [Bool.not_eq_true'] at h1 h2 ⊢
  cases h3 : DatumOrd.lt (toT2 c) (toT2 a) with
  | false => rfl
  | true =>
    cases h4 : DatumOrd.lt (toT2 a) (toT2 b) with
    | true =>
      have := tot2.tra _ _ _ h3 h4
      rw [h2] at this
      cases this
    | false =>
      rw [tot2.tri _ _ h4 h1, h2] at h3
      cases h3
theorem sortT_perm (L : List (List (List Int))) : (sortT L).Perm L := List.mergeSort_perm _ _
theorem sortT_sorted (L : List (List (List Int))) : (sortT L).Pairwise fun a b => leT2 a b = true :=
  List.pairwise_mergeSort leT2_trans leT2_total L
theorem srtOk_TT {hp : Hd} {L : List (List (List Int))} (h : ∀ b ∈ L, b ≠ []) : srtOk hp (L.map TT) = true := by
  unfold srtOk
  rw [Bool.and_eq_true, Bool.and_eq_true, Bool.and_eq_true]
  refine ⟨?_, ?_, ?_, ?_⟩ <;> try rw [List.all_map, List.all_eq_true]
  · intro c _
    show (pyF hp 15 (TT c)).isSome = true
    rw [pyF_TT (n := 12)]
    rfl
  · intro c _
    show ((L.map TT).all fun b => PySem.W.alike (encD hp (TT c)) (encD hp b)) = true
    rw [List.all_map, List.all_eq_true]
    intro b _
    show PySem.W.alike (encD hp (TT c)) (encD hp (TT b)) = true
    rw [encD_TT, encD_TT]
    exact DatumOrd.alike _ _
  · rw [Bool.or_eq_true]
    refine .inl ?_
    rw [List.all_map, List.all_eq_true]
    intro c hc
    show isTupC (encD hp (TT c)) = true
    rw [encD_TT, toD_T2]
    cases c with
    | nil => exact absurd rfl (h _ hc)
    | cons x r => rfl
  · intro c _
    show decide ((encD hp (TT c)).depth ≤ 40) = true
    rw [encD_TT]
    have d2 : Datum.depth T2 ≤ 40 := by decide
    exact decide_eq_true (Nat.le_trans (Datum.depth_le _) d2)
theorem gSrt_TT {hp : Hd} {L : List (List (List Int))} (h : ∀ b ∈ L, b ≠ []) : gSrt (L.map TT) hp = some ((sortT L).map TT, hp) := by
  unfold gSrt
  rw [if_pos (srtOk_TT h), srt_TT]
end Ve
namespace Lw
open PySem PySem.Spec L2 Ve
def k_MOST_CUBES : D := (.int (30))
def k_FARTHEST : D := (.int (100))
def k_DIRECTIONS : D := (.int (6))
@[simp] def b_L_hand_2 : AS :=
    (sRet (mNew (mLst (mCons (m2 (mVar 2) (mAs (mCons (m2 (mVar 2) (m2 (mC (.int 10)) (mC (.int 18)) gPow) gGe) mNil) gInt) gMul) (mCons (m2 (m2 (m2 (mVar 2) (mC (.int 2305843009213693951)) gMod) (m2 (mC (.int 7919)) (mVar 1) gMul) gAdd) (mC (.int 3)) gAdd) (mCons (mC (.int 0)) mNil))))))
@[simp] def b_L_hand_1 : AS :=
    sSeq (sIf (mT (m2 (mVar 1) (mAs (mCons (mVar 0) mNil) gLen) gLt)) (sSet 2 (m2 (mVar 0) (mVar 1) gIx)) sNext)
    b_L_hand_2
def b_L_hand : AS :=
    sSeq (sSet 2 (mC (.int 0)))
    b_L_hand_1
def m_L_hand : List D → Hd → Option (D × Hd) := mDef 3 b_L_hand
def c_L_hand := cN m_L_hand
theorem con_L_hand : Cl c_L_hand m_L_hand := cl_cN _
@[simp] def b_L_take_6 : AS :=
    (sRet (m2 (m2 (m2 (mVar 4) (mC (.int 97)) gDiv) (m2 (mVar 4) (mC (.int 1000033)) gDiv) gAdd) (mVar 1) gMod))
@[simp] def b_L_take_5 : AS :=
    sSeq (sSet 4 (m2 (m2 (mVar 4) (mVar 5) gMul) (mC (.int 2305843009213693907)) gMod))
    b_L_take_6
@[simp] def b_L_take_4 : AS :=
    sSeq (sSet 5 (m2 (m2 (m2 (mVar 4) (mC (.int 1000003)) gMod) (m2 (mVar 3) (mC (.int 99991)) gMul) gAdd) (mC (.int 11)) gAdd))
    b_L_take_5
@[simp] def b_L_take_3 : AS :=
    sSeq (sSet 4 (m2 (m2 (m2 (mVar 0) (mC (.int 1)) gIx) (m2 (m2 (mC (.int 48271)) (m2 (m2 (mC (.int 2)) (mVar 3) gMul) (mVar 3) gMul) gAdd) (m2 (mC (.int 65537)) (mVar 3) gMul) gAdd) gMul) (mC (.int 2305843009213693921)) gMod))
    b_L_take_4
@[simp] def b_L_take_2 : AS :=
    sSeq (sSet 3 (m2 (mVar 0) (mC (.int 2)) gIx))
    b_L_take_3
@[simp] def b_L_take_1 : AS :=
    sSeq (sStore (m2 (m2 (mVar 0) (mC (.int 2)) gIx) (mC (.int 1)) gAdd) (mVar 0) (mC (.int 2)))
    b_L_take_2
def b_L_take : AS :=
    sSeq (sIf (mT (m2 (m2 (mVar 0) (mC (.int 0)) gIx) (mC (.int 0)) gGt)) (sSeq (sSet 2 (m2 (m2 (mVar 0) (mC (.int 0)) gIx) (mVar 1) gMod))
    (sSeq (sStore (m2 (m2 (mVar 0) (mC (.int 0)) gIx) (mVar 1) gDiv) (mVar 0) (mC (.int 0)))
    (sRet (mVar 2)))) sNext)
    b_L_take_1
def m_L_take : List D → Hd → Option (D × Hd) := mDef 6 b_L_take
def c_L_take := c1V m_L_take
theorem con_L_take : Cl c_L_take m_L_take := cl_c1V _
def Hand (T : Nat) (o : O) : Prop := ∃ a b t : Int, o = .lst [.int a, .int b, .int t] ∧ 0 ≤ a ∧ 0 ≤ b ∧ b < 2 ^ 62 ∧ 0 ≤ t ∧ t ≤ T
theorem Hand.mono {T T' : Nat} {o : O} (h : Hand T o) (hT : T ≤ T') : Hand T' o := by
  obtain ⟨a, b, t, e, h1, h2, h3, h4, h5⟩ := h
  exact ⟨a, b, t, e, h1, h2, h3, h4, by omega⟩
theorem Hand.nr {T : Nat} {o : O} (h : Hand T o) : nrO o = true := by
  obtain ⟨a, b, t, rfl, _⟩ := h
  rfl
theorem hand_ok (ns : List Int) (k : Nat) (hk : k < 100) (hp : Hd) : ∃ o, c_L_hand [.scr ns, .int k] hp = some (.ref hp.length, hp ++ [o]) ∧ Hand 0 o := by
  have key : ∀ cell : Int, ∃ a b : Int, 0 ≤ a ∧ 0 ≤ b ∧ b < 2 ^ 62 ∧ a = cell * (if decide ((10 : Int) ^ 18 ≤ cell) = true then 1 else 0) ∧ b = cell % 2305843009213693951 + 7919 * k + 3 := by
    intro cell
    have h1 := Int.emod_nonneg cell (show (2305843009213693951 : Int) ≠ 0 by decide)
    have h2 := Int.emod_lt_of_pos cell (show (0 : Int) < 2305843009213693951 by decide)
    refine ⟨_, _, ?_, ?_, ?_, rfl, rfl⟩
    · split
      · rename_i h
        have := of_decide_eq_true h
        omega
      · omega
    · omega
    · omega
  have run : ∃ o g, m_L_hand [.scr ns, .int k] [] = some (.ref 0, o :: g) ∧ Hand 0 o := by
    by_cases hl : (k : Int) < (ns.length : Int)
    · have hk2 : k < ns.length := by omega
      obtain ⟨a, b, h1, h2, h3, ea, eb⟩ := key ns[k]
      refine ⟨.lst [.int a, .int b, .int 0], [], ?_, a, b, 0, rfl, h1, h2, h3, by omega, by omega⟩
      have hix : atI ns (k : Int) = some ns[k] := atI_nat (List.getElem?_eq_getElem hk2)
      have hb : decide ((k : Int) < (ns.length : Int)) = true := decide_eq_true hl
      have c1 : cMul ns[k] (if decide ((10 : Int) ^ 18 ≤ ns[k]) = true then 1 else 0) = true := cMul_of (.inr (by split <;> omega))
      have c2 : cMul 7919 (k : Int) = true := cMul_of (.inl (by omega))
      rw [ea, eb]
      simp [m_L_hand, b_L_hand, stD, hk2, gIx, hix, gLen, gPow, cPow, gInt, gMul_int, gMod_int, c1, c2, sizeLine_eq] at c1 c2 ⊢
      simp [gMul_int c1]
    · obtain ⟨a, b, h1, h2, h3, ea, eb⟩ := key 0
      refine ⟨.lst [.int a, .int b, .int 0], [], ?_, a, b, 0, rfl, h1, h2, h3, by omega, by omega⟩
      have hb : decide ((k : Int) < (ns.length : Int)) = false := decide_eq_false hl
      have c1 : cMul 0 (if decide ((10 : Int) ^ 18 ≤ 0) = true then 1 else 0) = true := by decide
      have c2 : cMul 7919 (k : Int) = true := cMul_of (.inl (by omega))
      rw [ea, eb]
      simp [m_L_hand, b_L_hand, stD, show ¬ k < ns.length by omega, gIx, gLen, gPow, cPow, gInt, gMul_int, gMod_int, c1, c2, sizeLine_eq] at c1 c2 ⊢
      simp [gMul_int c1]
  obtain ⟨o, g, e, ho⟩ := run
  refine ⟨o, ?_, ho⟩
  simp [c_L_hand, cN, nrs, D.alls, D.all, e, ho.nr]
theorem take_run (T : Nat) (hT : T < 1000000) (o : O) (h : Hand T o) (many : Int) (h1 : 0 < many) (h2 : many < 1073741824) : ∃ r o' g, m_L_take [.ref 0, .int many] [o] = some (.int r, o' :: g) ∧ 0 ≤ r ∧ r < many ∧ Hand (T + 1) o' := by
  obtain ⟨a, b, t, rfl, ha, hb, hb2, ht, ht2⟩ := h
  have cd : cDiv a many = true := cDiv_of ⟨h1, h2⟩
  by_cases hz : 0 < a
  · refine ⟨a % many, .lst [.int (a / many), .int b, .int t], [], ?_, Int.emod_nonneg _ (by omega), Int.emod_lt_of_pos _ h1, a / many, b, t, rfl, Int.ediv_nonneg ha (by omega), hb, hb2, ht, by omega⟩
    simp [m_L_take, b_L_take, stD, gIx, atI, ixN, hz, gMod_int h1, gDiv_int cd, gSet]
  · have q1 : cMul 2 (t + 1) = true := cMul_of (.inl (by omega))
    have q2 : cMul (2 * (t + 1)) (t + 1) = true := cMul_of (.inl (by omega))
    have q3 : cMul 65537 (t + 1) = true := cMul_of (.inl (by omega))
    have q4 : cMul b (48271 + 2 * (t + 1) * (t + 1) + 65537 * (t + 1)) = true := cMul_of (.inl (by omega))
    have q5 : cMul (t + 1) 99991 = true := cMul_of (.inl (by omega))
    let mx := b * (48271 + 2 * (t + 1) * (t + 1) + 65537 * (t + 1)) % 2305843009213693921
    have hm1 : 0 ≤ mx := Int.emod_nonneg _ (by decide)
    have hm2 : mx < 2305843009213693921 := Int.emod_lt_of_pos _ (by decide)
    let ot := mx % 1000003 + (t + 1) * 99991 + 11
    have q6 : cMul mx ot = true := cMul_of (.inl (by omega))
    let m2' := mx * ot % 2305843009213693907
    have hn1 : 0 ≤ m2' := Int.emod_nonneg _ (by decide)
    have d1 : cDiv m2' 97 = true := cDiv_of (by omega)
    have d2 : cDiv m2' 1000033 = true := cDiv_of (by omega)
    refine ⟨(m2' / 97 + m2' / 1000033) % many, .lst [.int a, .int b, .int (t + 1)], [], ?_, Int.emod_nonneg _ (by omega), Int.emod_lt_of_pos _ h1, a, b, t + 1, rfl, ha, hb, hb2, by omega, by omega⟩
    simp only [mx, ot, m2'] at q6 d1 d2 ⊢
    simp [m_L_take, b_L_take, stD, gIx, atI, ixN, hz, gMod_int h1, gMod_int, gMul_int q1, gMul_int q2, gMul_int q3, gMul_int q4, gMul_int q5, gMul_int q6, gDiv_int d1, gDiv_int d2, gSet]
theorem take_ok (T : Nat) (hT : T < 1000000) (hp : Hd) (n : Nat) (o : O) (e : hp[n]? = some o) (h : Hand T o) (many : Int) (h1 : 0 < many) (h2 : many < 1073741824) :
    ∃ r o', c_L_take [.ref n, .int many] hp = some (.int r, hp.set n o') ∧ 0 ≤ r ∧ r < many ∧ Hand (T + 1) o' := by
  obtain ⟨r, o', g, e1, e2, e3, h'⟩ := take_run T hT o h many h1 h2
  refine ⟨r, o', ?_, e2, e3, h'⟩
  simp [c_L_take, c1V, e, nrs, D.alls, D.all, h.nr, h'.nr, e1]
def b_L_pick : AS :=
    (sRet (m2 (mVar 1) (mAs (mCons (mVar 0) (mCons (mAs (mCons (mVar 1) mNil) gLen) mNil)) (ar 2 c_L_take)) gIx))
def m_L_pick : List D → Hd → Option (D × Hd) := mDef 2 b_L_pick
abbrev c_L_pick := m_L_pick
theorem pick_ok (T : Nat) (hT : T < 1000000) (hp : Hd) (n s : Nat) (hns : n ≠ s) (o : O) (e : hp[n]? = some o) (h : Hand T o) (xs : List D) (es : hp[s]? = some (.lst xs)) (h0 : xs ≠ []) (h1 : xs.length < 1073741824) :
    ∃ (i : Nat) (hi : i < xs.length) (o' : O), c_L_pick [.ref n, .ref s] hp = some (xs[i], hp.set n o') ∧ Hand (T + 1) o' := by
  have hl : 0 < xs.length := List.length_pos_iff.mpr h0
  obtain ⟨r, o', e1, e2, e3, h'⟩ := take_ok T hT hp n o e h (xs.length : Int) (by omega) (by omega)
  have hr : r.toNat < xs.length := by omega
  refine ⟨r.toNat, hr, o', ?_, h'⟩
  have hix : atI xs r = some xs[r.toNat] := by
    have := atI_nat (xs := xs) (j := r.toNat) (List.getElem?_eq_getElem hr)
    rwa [Int.toNat_of_nonneg e2] at this
  simp [c_L_pick, m_L_pick, b_L_pick, stD, gLen, es, e1, gIx, List.getElem?_set_ne hns, hix]
@[simp] def b_L_beside_1 : AS :=
    (sRet (m2 (m2 (mSl (mVar 0) none (some (m2 (mVar 1) (mC (.int 2)) gDiv))) (mTup (mCons (m2 (m2 (mVar 0) (m2 (mVar 1) (mC (.int 2)) gDiv) gIx) (mVar 2) gAdd) mNil)) gAdd) (mSl (mVar 0) (some (m2 (m2 (mVar 1) (mC (.int 2)) gDiv) (mC (.int 1)) gAdd)) none) gAdd))
def b_L_beside : AS :=
    sSeq (sSet 2 (m2 (mNew (mLst (mCons (mC (.int 1)) (mCons (m1 (mC (.int 1)) gNeg) mNil)))) (m2 (mVar 1) (mC (.int 2)) gMod) gIx))
    b_L_beside_1
def m_L_beside : List D → Hd → Option (D × Hd) := mDef 3 b_L_beside
def c_L_beside := cV m_L_beside
theorem con_L_beside : Cl c_L_beside m_L_beside := cl_cV _
theorem beside_ok (hp : Hd) (x y z d : Int) (h : 0 ≤ d ∧ d < 6) : c_L_beside [T [x, y, z], .int d] hp = some (T (nb [x, y, z] d), hp) := by
  have key : ∃ g, m_L_beside [T [x, y, z], .int d] [] = some (T (nb [x, y, z] d), g) := by
    rcases six h with rfl | rfl | rfl | rfl | rfl | rfl
    · exact ⟨[.lst [.int 1, .int (-1)]], by kernel_rfl⟩
    · exact ⟨[.lst [.int 1, .int (-1)]], by kernel_rfl⟩
    · exact ⟨[.lst [.int 1, .int (-1)]], by kernel_rfl⟩
    · exact ⟨[.lst [.int 1, .int (-1)]], by kernel_rfl⟩
    · exact ⟨[.lst [.int 1, .int (-1)]], by kernel_rfl⟩
    · exact ⟨[.lst [.int 1, .int (-1)]], by kernel_rfl⟩
  obtain ⟨g, e⟩ := key
  exact cV_of (nrs_Ti _ _) e (nr_T _)
@[simp] def b_beside_cube_1 : AS :=
    (sRet (m2 (m2 (mSl (mVar 0) none (some (mVar 2))) (mTup (mCons (m2 (m2 (m2 (mVar 0) (mVar 2) gIx) (mC (.int 1)) gAdd) (m2 (mC (.int 2)) (m2 (mVar 1) (mC (.int 2)) gMod) gMul) gSub) mNil)) gAdd) (mSl (mVar 0) (some (m2 (mVar 2) (mC (.int 1)) gAdd)) none) gAdd))
def b_beside_cube : AS :=
    sSeq (sSet 2 (m2 (mVar 1) (mC (.int 2)) gDiv))
    b_beside_cube_1
def m_beside_cube : List D → Hd → Option (D × Hd) := mDef 3 b_beside_cube
def c_beside_cube := cV m_beside_cube
theorem con_beside_cube : Cl c_beside_cube m_beside_cube := cl_cV _
theorem besideP_ok (hp : Hd) (x y z d : Int) (h : 0 ≤ d ∧ d < 6) : c_beside_cube [T [x, y, z], .int d] hp = some (T (nb [x, y, z] d), hp) := by
  have key : ∃ g, m_beside_cube [T [x, y, z], .int d] [] = some (T (nb [x, y, z] d), g) := by
    rcases six h with rfl | rfl | rfl | rfl | rfl | rfl
    · have e : m_beside_cube [T [x, y, z], .int 0] [] = some (T [x + 1 - 0, y, z], []) := by kernel_rfl
      rw [show x + 1 - 0 = x + 1 by omega] at e
      exact ⟨_, e⟩
    · have e : m_beside_cube [T [x, y, z], .int 1] [] = some (T [x + 1 - 2, y, z], []) := by kernel_rfl
      rw [show x + 1 - 2 = x + -1 by omega] at e
      exact ⟨_, e⟩
    · have e : m_beside_cube [T [x, y, z], .int 2] [] = some (T [x, y + 1 - 0, z], []) := by kernel_rfl
      rw [show y + 1 - 0 = y + 1 by omega] at e
      exact ⟨_, e⟩
    · have e : m_beside_cube [T [x, y, z], .int 3] [] = some (T [x, y + 1 - 2, z], []) := by kernel_rfl
      rw [show y + 1 - 2 = y + -1 by omega] at e
      exact ⟨_, e⟩
    · have e : m_beside_cube [T [x, y, z], .int 4] [] = some (T [x, y, z + 1 - 0], []) := by kernel_rfl
      rw [show z + 1 - 0 = z + 1 by omega] at e
      exact ⟨_, e⟩
    · have e : m_beside_cube [T [x, y, z], .int 5] [] = some (T [x, y, z + 1 - 2], []) := by kernel_rfl
      rw [show z + 1 - 2 = z + -1 by omega] at e
      exact ⟨_, e⟩
  obtain ⟨g, e⟩ := key
  exact cV_of (nrs_Ti _ _) e (nr_T _)
end Lw
namespace Lw
open PySem PySem.Spec L2 Ve
def b_is_whole : AS :=
    (sRet (mAndV (mIsi "int" (mVar 0)) (mNotV (mIsi "bool" (mVar 0)))))
def m_is_whole : List D → Hd → Option (D × Hd) := mDef 1 b_is_whole
abbrev c_is_whole := m_is_whole
def E1_is_cube : AE :=
    (mAndV (mAs (mCons (mVar 1) mNil) (ar 1 c_is_whole)) (mChain (m1 (mC k_FARTHEST) gNeg) (mVar 1) (mC k_FARTHEST) gLe gLe))
def C1_is_cube : AA :=
    (mLc (mIS (mVar 0)) (.nm 1) [1] tYesD E1_is_cube)
@[simp] def b_is_cube_1 : AS :=
    (sRet (mL C1_is_cube gAll))
def b_is_cube : AS :=
    sSeq (sIf (mOr (mNot (mT (mIsi "tuple" (mVar 0)))) (mT (m2 (mAs (mCons (mVar 0) mNil) gLen) (mC (.int 3)) gNe))) (sRet (mC (.bl false))) sNext)
    b_is_cube_1
def m_is_cube : List D → Hd → Option (D × Hd) := mDef 2 b_is_cube
def c_is_cube := cV m_is_cube
theorem con_is_cube : Cl c_is_cube m_is_cube := cl_cV _
theorem gAll_bls {α : Type} {hp : Hd} (f : α → Bool) : ∀ xs : List α, gAll (xs.map fun x => D.bl (f x)) hp = some (.bl (xs.all f), hp) := fun xs => by
  have e : ∀ xs : List α, bls? (xs.map fun x => D.bl (f x)) = some (xs.map f) := by
    intro xs
    induction xs with
    | nil => rfl
    | cons x xs ih => rw [List.map_cons, bls?, ih]; rfl
  unfold gAll
  rw [e]
  dsimp only
  rw [List.all_map]
  rfl
def fitV (v : Int) : Bool := decide (-100 ≤ v) && decide (v ≤ 100)
def fitC (c : List Int) : Bool := c.all fitV
theorem fit_cb (x y z : Int) : fitC [x, y, z] = true ↔ Cb 100 [x, y, z] := by
  simp only [fitC, fitV, List.all_cons, List.all_nil, Bool.and_true, Bool.and_eq_true, decide_eq_true_eq]
  constructor
  · rintro ⟨h1, h2, h3⟩
    exact ⟨x, y, z, rfl, h1, h2, h3⟩
  · rintro ⟨x', y', z', e, h1, h2, h3⟩
    cases e
    exact ⟨h1, h2, h3⟩
theorem cube_ok (hp : Hd) (x y z : Int) : c_is_cube [T [x, y, z]] hp = some (.bl (fitC [x, y, z]), hp) := by
  have e1 : C1_is_cube [some (T [x, y, z]), none] [] = some ([x, y, z].map fun v => D.bl (fitV v), []) := by
    have el := mLc_typed (fi := mIS (mVar 0)) (t := .nm 1) (own := [1]) (tt := tYesD) (te := E1_is_cube) (ls := [some (T [x, y, z]), none]) (hp := []) (hp1 := []) (gd := []) D.int [x, y, z] (fun _ => true) (fun v => D.bl (fitV v)) rfl (by rw [sizeLine_eq]; exact (by decide : 3 ≤ 16777216)) rfl (fun v hv => by
      refine ⟨[some (T [x, y, z]), some (.int v)], rfl, rfl, fun _ => ?_⟩
      have ew : c_is_whole [.int v] [] = some (.bl true, []) := rfl
      by_cases h : (-100 : Int) ≤ v
      · simp only [mVar_s, mC_s, m2_s, m1_s, mT_s, mNil_s, mCons_s, mAs_s, ar_s, mNew_s, mTup_s, mLst_s, sNext_s, sSeq_s, sDrop_s, sRet_s, sIf_s2, sSet_s, sAsg_s, sPar_s, sStore_s, gAdd_int, gSub_int, gLt_int, gLe_int, gGt_int, gGe_int, gNeg_int, gEq_int, gNe_int,
 mIfE_s2, mAnd_s2, mOr_s2, mNot_s, mAndV_s2, mOrV_s2, mNotV_s, mChain_s2, mChain3_s, mL_s, m2L_s, mMet_s, mExt_s, mExtO_s, mIsi_s, mSl_s, mPo_n, mPo_s, mCat_s, mCatOL_s, mCatLO_s, mCatOO_s, mLRg1_s, mLRg2_s, mTRg1_s, mTRg2_s, mRep_s, sAsgL_s, sPar3_s, sAug_s, sBrk_s, sCnt_s, sRetN_s, tYesD_s, mSorted_s, mSortedL_s, mIS_s, mIL_s, mList_s, sAsgM_s, tNm_s, tSub_s, tTp_s, tTps_nil, tTps_cons, mDict0_s, asg_nm, asg_tp, asg_tpT, asgs_nil, asgs_cons, mDef_s,
 List.getElem?_cons_zero, List.getElem?_cons_succ, List.set_cons_zero, List.set_cons_succ, List.length_cons, List.length_nil, List.cons_append, List.nil_append, List.map_cons, List.map_nil, if_true, if_false, reduceIte, reduceCtorEq, Bool.false_eq_true, Bool.true_eq_false, decide_eq_true_eq, decide_true, decide_false, Bool.not_true, Bool.not_false, Nat.reduceAdd, Nat.reduceLeDiff, Nat.reduceLT, Nat.reduceEqDiff, Int.reduceLT, Int.reduceLE, Int.reduceAdd, Int.reduceSub, Int.reduceMul, Int.reduceNeg, isL, onL, gAppend, gPop, Ve.gTup, sizeLine_eq, E1_is_cube, ew, k_FARTHEST, fitV, h, Bool.true_and]
      · simp only [mVar_s, mC_s, m2_s, m1_s, mT_s, mNil_s, mCons_s, mAs_s, ar_s, mNew_s, mTup_s, mLst_s, sNext_s, sSeq_s, sDrop_s, sRet_s, sIf_s2, sSet_s, sAsg_s, sPar_s, sStore_s, gAdd_int, gSub_int, gLt_int, gLe_int, gGt_int, gGe_int, gNeg_int, gEq_int, gNe_int,
 mIfE_s2, mAnd_s2, mOr_s2, mNot_s, mAndV_s2, mOrV_s2, mNotV_s, mChain_s2, mChain3_s, mL_s, m2L_s, mMet_s, mExt_s, mExtO_s, mIsi_s, mSl_s, mPo_n, mPo_s, mCat_s, mCatOL_s, mCatLO_s, mCatOO_s, mLRg1_s, mLRg2_s, mTRg1_s, mTRg2_s, mRep_s, sAsgL_s, sPar3_s, sAug_s, sBrk_s, sCnt_s, sRetN_s, tYesD_s, mSorted_s, mSortedL_s, mIS_s, mIL_s, mList_s, sAsgM_s, tNm_s, tSub_s, tTp_s, tTps_nil, tTps_cons, mDict0_s, asg_nm, asg_tp, asg_tpT, asgs_nil, asgs_cons, mDef_s,
 List.getElem?_cons_zero, List.getElem?_cons_succ, List.set_cons_zero, List.set_cons_succ, List.length_cons, List.length_nil, List.cons_append, List.nil_append, List.map_cons, List.map_nil, if_true, if_false, reduceIte, reduceCtorEq, Bool.false_eq_true, Bool.true_eq_false, decide_eq_true_eq, decide_true, decide_false, Bool.not_true, Bool.not_false, Nat.reduceAdd, Nat.reduceLeDiff, Nat.reduceLT, Nat.reduceEqDiff, Int.reduceLT, Int.reduceLE, Int.reduceAdd, Int.reduceSub, Int.reduceMul, Int.reduceNeg, isL, onL, gAppend, gPop, Ve.gTup, sizeLine_eq, E1_is_cube, ew, k_FARTHEST, fitV, h, Bool.false_and])
    rw [List.filter_eq_self.mpr fun _ _ => rfl] at el
    exact el
  have em : m_is_cube [T [x, y, z]] [] = some (.bl (fitC [x, y, z]), []) := by
    show mDef 2 b_is_cube _ _ = _
    have g1 : gLen [T [x, y, z]] [] = some (.int 3, []) := rfl
    have g2 : gIsi "tuple" [T [x, y, z]] [] = some (.bl true, []) := rfl
    obtain ⟨ds, e2, q⟩ : ∃ ds, C1_is_cube [some (T [x, y, z]), none] [] = some (ds, []) ∧ gAll ds [] = some (.bl (fitC [x, y, z]), []) := ⟨_, e1, gAll_bls fitV [x, y, z]⟩
    simp only [mVar_s, mC_s, m2_s, m1_s, mT_s, mNil_s, mCons_s, mAs_s, ar_s, mNew_s, mTup_s, mLst_s, sNext_s, sSeq_s, sDrop_s, sRet_s, sIf_s2, sSet_s, sAsg_s, sPar_s, sStore_s, gAdd_int, gSub_int, gLt_int, gLe_int, gGt_int, gGe_int, gNeg_int, gEq_int, gNe_int,
 mIfE_s2, mAnd_s2, mOr_s2, mNot_s, mAndV_s2, mOrV_s2, mNotV_s, mChain_s2, mChain3_s, mL_s, m2L_s, mMet_s, mExt_s, mExtO_s, mIsi_s, mSl_s, mPo_n, mPo_s, mCat_s, mCatOL_s, mCatLO_s, mCatOO_s, mLRg1_s, mLRg2_s, mTRg1_s, mTRg2_s, mRep_s, sAsgL_s, sPar3_s, sAug_s, sBrk_s, sCnt_s, sRetN_s, tYesD_s, mSorted_s, mSortedL_s, mIS_s, mIL_s, mList_s, sAsgM_s, tNm_s, tSub_s, tTp_s, tTps_nil, tTps_cons, mDict0_s, asg_nm, asg_tp, asg_tpT, asgs_nil, asgs_cons, mDef_s,
 List.getElem?_cons_zero, List.getElem?_cons_succ, List.set_cons_zero, List.set_cons_succ, List.length_cons, List.length_nil, List.cons_append, List.nil_append, List.map_cons, List.map_nil, if_true, if_false, reduceIte, reduceCtorEq, Bool.false_eq_true, Bool.true_eq_false, decide_eq_true_eq, decide_true, decide_false, Bool.not_true, Bool.not_false, Nat.reduceAdd, Nat.reduceLeDiff, Nat.reduceLT, Nat.reduceEqDiff, Int.reduceLT, Int.reduceLE, Int.reduceAdd, Int.reduceSub, Int.reduceMul, Int.reduceNeg, isL, onL, gAppend, gPop, Ve.gTup, sizeLine_eq, b_is_cube_1, b_is_cube, stD, List.reduceReplicate, Nat.reduceSub, g1, g2, show (!((3 : Int) == 3)) = false from rfl, e2, q]
    try rfl
  exact cV_of (nrs_cons (nr_T _) rfl) em rfl
@[simp] def B1_hang_together_1 : AS :=
    (sIf (mAnd (mT (m2 (mVar 6) (mVar 1) gIn)) (mT (m2 (mVar 6) (mVar 2) gNotIn))) (sSeq (sStore (mC (.bl true)) (mVar 2) (mVar 6))
    (sDrop (mMet isL (mVar 3) (mCons (mVar 6) mNil) gAppend))) sNext)
def B1_hang_together : AS :=
    sSeq (sSet 6 (mAs (mCons (mVar 4) (mCons (mVar 5) mNil)) (ar 2 c_beside_cube)))
    B1_hang_together_1
@[simp] def B2_hang_together_1 : AS :=
    (sForI (mR1 (mCons (mC k_DIRECTIONS) mNil)) (.nm 5) B1_hang_together)
def B2_hang_together : AS :=
    sSeq (sSet 4 (mMet isL (mVar 3) mNil gPop))
    B2_hang_together_1
@[simp] def b_hang_together_4 : AS :=
    (sRet (m2 (mAs (mCons (mVar 2) mNil) gLen) (mAs (mCons (mVar 1) mNil) gLen) gEq))
@[simp] def b_hang_together_3 : AS :=
    sSeq (sWhile (mT (m2 (mAs (mCons (mVar 3) mNil) gLen) (mC (.int 0)) gGt)) B2_hang_together 1000000)
    b_hang_together_4
@[simp] def b_hang_together_2 : AS :=
    sSeq (sSet 3 (mNew (mLst (mCons (m2 (mVar 0) (mC (.int 0)) gIx) mNil))))
    b_hang_together_3
@[simp] def b_hang_together_1 : AS :=
    sSeq (sSet 2 (mDict (((m2 (mVar 0) (mC (.int 0)) gIx), (mC (.bl true))) :: [])))
    b_hang_together_2
def b_hang_together : AS :=
    sSeq (sSet 1 (mL (mLc (mIS (mVar 0)) (.nm 7) [7] tYesD (mTup (mCons (mVar 7) (mCons (mC (.bl true)) mNil)))) gDictL))
    b_hang_together_1
def m_hang_together : List D → Hd → Option (D × Hd) := mDef 8 b_hang_together
abbrev E1_hang_together : AE := mTup (mCons (mVar 7) (mCons (mC (.bl true)) mNil))
abbrev C1_hang_together : AA := mLc (mIS (mVar 0)) (.nm 7) [7] tYesD E1_hang_together
abbrev F1_hang_together : AS := sForI (mR1 (mCons (mC k_DIRECTIONS) mNil)) (.nm 5) B1_hang_together
abbrev W2_hang_together : Nat → AS := sWhile (mT (m2 (mAs (mCons (mVar 3) mNil) gLen) (mC (.int 0)) gGt)) B2_hang_together
def c_hang_together := cV m_hang_together
theorem con_hang_together : Cl c_hang_together m_hang_together := cl_cV _
theorem hang6 (bs : List (List Int)) (tp : D) (met wait : List (List Int)) (x y z : Int) (u5 u6 u7 : Option D) (hw : wait.length ≤ 2000) (hm : met.length ≤ 2000) :
    ∃ v5 v6, F1_hang_together [some tp, some (.ref 0), some (.ref 1), some (.ref 2), some (T [x, y, z]), u5, u6, u7] [.dic (Cd bs), .dic (Cd met), .lst (wait.map T)] =
      some (.nx, [some tp, some (.ref 0), some (.ref 1), some (.ref 2), some (T [x, y, z]), v5, v6, u7], [.dic (Cd bs), .dic (Cd ((nxB bs [x, y, z]).foldl psh (met, wait)).1), .lst (((nxB bs [x, y, z]).foldl psh (met, wait)).2.map T)]) := by
  have loop := sForI_psh (t := .nm 5) (b := B1_hang_together) (gd := []) (fi := mR1 (mCons (mC k_DIRECTIONS) mNil)) (ls := [some tp, some (.ref 0), some (.ref 1), some (.ref 2), some (T [x, y, z]), u5, u6, u7]) (hp := [.dic (Cd bs), .dic (Cd met), .lst (wait.map T)])
    (List.range 6) (fun d : Nat => D.int (d : Nat)) (fun d : Nat => nb [x, y, z] (d : Int)) (fun b => decide (b ∈ bs))
    (fun st ls hp => ∃ v5 v6, ls = [some tp, some (.ref 0), some (.ref 1), some (.ref 2), some (T [x, y, z]), v5, v6, u7] ∧ hp = [.dic (Cd bs), .dic (Cd st.1), .lst (st.2.map T)])
    (mR1_nat (j := 6) rfl (by decide)) (fun _ _ _ _ => rfl) (met, wait) ⟨u5, u6, rfl, rfl⟩ (by
      rintro d hd st ls hp ⟨v5, v6, rfl, rfl⟩ hm0 l1 l2
      have hd6 : 0 ≤ (d : Int) ∧ (d : Int) < 6 := by
        have := List.mem_range.mp hd
        omega
      simp only [List.length_range] at l1 l2
      have c1 : ∀ hp, c_beside_cube [T [x, y, z], .int (d : Nat)] hp = some (T (nb [x, y, z] (d : Nat)), hp) := fun hp => besideP_ok hp x y z _ hd6
      let hpS : Hd := [.dic (Cd bs), .dic (Cd st.1), .lst (st.2.map T)]
      have t1 : gIn (T (nb [x, y, z] (d : Nat))) (.ref 0) hpS = some (.bl (decide (nb [x, y, z] (d : Nat) ∈ bs)), hpS) := gIn_dic rfl
      have t2 : gNotIn (T (nb [x, y, z] (d : Nat))) (.ref 1) hpS = some (.bl (!decide (nb [x, y, z] (d : Nat) ∈ st.1)), hpS) := gNotIn_dic rfl
      by_cases h1 : nb [x, y, z] (d : Nat) ∈ bs
      · by_cases h2 : nb [x, y, z] (d : Nat) ∈ st.1
        · refine ⟨_, _, _, asg_nm, .inl (by simp only [mVar_s, mC_s, m2_s, m1_s, mT_s, mNil_s, mCons_s, mAs_s, ar_s, mNew_s, mTup_s, mLst_s, sNext_s, sSeq_s, sDrop_s, sRet_s, sIf_s2, sSet_s, sAsg_s, sPar_s, sStore_s, gAdd_int, gSub_int, gLt_int, gLe_int, gGt_int, gGe_int, gNeg_int, gEq_int, gNe_int,
 mIfE_s2, mAnd_s2, mOr_s2, mNot_s, mAndV_s2, mOrV_s2, mNotV_s, mChain_s2, mChain3_s, mL_s, m2L_s, mMet_s, mExt_s, mExtO_s, mIsi_s, mSl_s, mPo_n, mPo_s, mCat_s, mCatOL_s, mCatLO_s, mCatOO_s, mLRg1_s, mLRg2_s, mTRg1_s, mTRg2_s, mRep_s, sAsgL_s, sPar3_s, sAug_s, sBrk_s, sCnt_s, sRetN_s, tYesD_s, mSorted_s, mSortedL_s, mIS_s, mIL_s, mList_s, sAsgM_s, tNm_s, tSub_s, tTp_s, tTps_nil, tTps_cons, mDict0_s, asg_nm, asg_tp, asg_tpT, asgs_nil, asgs_cons, mDef_s,
 List.getElem?_cons_zero, List.getElem?_cons_succ, List.set_cons_zero, List.set_cons_succ, List.length_cons, List.length_nil, List.cons_append, List.nil_append, List.map_cons, List.map_nil, if_true, if_false, reduceIte, reduceCtorEq, Bool.false_eq_true, Bool.true_eq_false, decide_eq_true_eq, decide_true, decide_false, Bool.not_true, Bool.not_false, Nat.reduceAdd, Nat.reduceLeDiff, Nat.reduceLT, Nat.reduceEqDiff, Int.reduceLT, Int.reduceLE, Int.reduceAdd, Int.reduceSub, Int.reduceMul, Int.reduceNeg, isL, onL, gAppend, gPop, Ve.gTup, sizeLine_eq, B1_hang_together_1, B1_hang_together, hpS, c1, t1, t2, h1, h2]; try rfl), some (.int (d : Nat)), _, rfl, ?_⟩
          simp [h2]
        · have t4 : gSet (.ref 1) (T (nb [x, y, z] (d : Nat))) (.bl true) hpS = some [.dic (Cd bs), .dic (Cd (st.1 ++ [nb [x, y, z] (d : Nat)])), .lst (st.2.map T)] := gSet_Gd (g := fun _ => .bl true) (cs := st.1) (a := nb [x, y, z] (d : Nat)) rfl h2 (by rw [sizeLine_eq]; omega)
          have t5 : (st.2.map T).length < 16777216 := by rw [List.length_map]; omega
          refine ⟨_, _, _, asg_nm, .inl (by simp only [mVar_s, mC_s, m2_s, m1_s, mT_s, mNil_s, mCons_s, mAs_s, ar_s, mNew_s, mTup_s, mLst_s, sNext_s, sSeq_s, sDrop_s, sRet_s, sIf_s2, sSet_s, sAsg_s, sPar_s, sStore_s, gAdd_int, gSub_int, gLt_int, gLe_int, gGt_int, gGe_int, gNeg_int, gEq_int, gNe_int,
 mIfE_s2, mAnd_s2, mOr_s2, mNot_s, mAndV_s2, mOrV_s2, mNotV_s, mChain_s2, mChain3_s, mL_s, m2L_s, mMet_s, mExt_s, mExtO_s, mIsi_s, mSl_s, mPo_n, mPo_s, mCat_s, mCatOL_s, mCatLO_s, mCatOO_s, mLRg1_s, mLRg2_s, mTRg1_s, mTRg2_s, mRep_s, sAsgL_s, sPar3_s, sAug_s, sBrk_s, sCnt_s, sRetN_s, tYesD_s, mSorted_s, mSortedL_s, mIS_s, mIL_s, mList_s, sAsgM_s, tNm_s, tSub_s, tTp_s, tTps_nil, tTps_cons, mDict0_s, asg_nm, asg_tp, asg_tpT, asgs_nil, asgs_cons, mDef_s,
 List.getElem?_cons_zero, List.getElem?_cons_succ, List.set_cons_zero, List.set_cons_succ, List.length_cons, List.length_nil, List.cons_append, List.nil_append, List.map_cons, List.map_nil, if_true, if_false, reduceIte, reduceCtorEq, Bool.false_eq_true, Bool.true_eq_false, decide_eq_true_eq, decide_true, decide_false, Bool.not_true, Bool.not_false, Nat.reduceAdd, Nat.reduceLeDiff, Nat.reduceLT, Nat.reduceEqDiff, Int.reduceLT, Int.reduceLE, Int.reduceAdd, Int.reduceSub, Int.reduceMul, Int.reduceNeg, isL, onL, gAppend, gPop, Ve.gTup, sizeLine_eq, B1_hang_together_1, B1_hang_together, hpS, c1, t1, t2, t4, t5, h1, h2]; try rfl), some (.int (d : Nat)), _, rfl, ?_⟩
          simp [h1, h2]
      · refine ⟨_, _, _, asg_nm, .inl (by simp only [mVar_s, mC_s, m2_s, m1_s, mT_s, mNil_s, mCons_s, mAs_s, ar_s, mNew_s, mTup_s, mLst_s, sNext_s, sSeq_s, sDrop_s, sRet_s, sIf_s2, sSet_s, sAsg_s, sPar_s, sStore_s, gAdd_int, gSub_int, gLt_int, gLe_int, gGt_int, gGe_int, gNeg_int, gEq_int, gNe_int,
 mIfE_s2, mAnd_s2, mOr_s2, mNot_s, mAndV_s2, mOrV_s2, mNotV_s, mChain_s2, mChain3_s, mL_s, m2L_s, mMet_s, mExt_s, mExtO_s, mIsi_s, mSl_s, mPo_n, mPo_s, mCat_s, mCatOL_s, mCatLO_s, mCatOO_s, mLRg1_s, mLRg2_s, mTRg1_s, mTRg2_s, mRep_s, sAsgL_s, sPar3_s, sAug_s, sBrk_s, sCnt_s, sRetN_s, tYesD_s, mSorted_s, mSortedL_s, mIS_s, mIL_s, mList_s, sAsgM_s, tNm_s, tSub_s, tTp_s, tTps_nil, tTps_cons, mDict0_s, asg_nm, asg_tp, asg_tpT, asgs_nil, asgs_cons, mDef_s,
 List.getElem?_cons_zero, List.getElem?_cons_succ, List.set_cons_zero, List.set_cons_succ, List.length_cons, List.length_nil, List.cons_append, List.nil_append, List.map_cons, List.map_nil, if_true, if_false, reduceIte, reduceCtorEq, Bool.false_eq_true, Bool.true_eq_false, decide_eq_true_eq, decide_true, decide_false, Bool.not_true, Bool.not_false, Nat.reduceAdd, Nat.reduceLeDiff, Nat.reduceLT, Nat.reduceEqDiff, Int.reduceLT, Int.reduceLE, Int.reduceAdd, Int.reduceSub, Int.reduceMul, Int.reduceNeg, isL, onL, gAppend, gPop, Ve.gTup, sizeLine_eq, B1_hang_together_1, B1_hang_together, hpS, c1, t1, h1]; try rfl), some (.int (d : Nat)), _, rfl, ?_⟩
        simp [h1])
  obtain ⟨ls', hp', e, v5, v6, rfl, rfl⟩ := loop
  exact ⟨v5, v6, e⟩
theorem nxB_sym {bs : List (List Int)} {a b : List Int} (h3 : ∃ x y z, a = [x, y, z]) (ha : a ∈ bs) (h : b ∈ nxB bs a) : a ∈ nxB bs b := by
  obtain ⟨x, y, z, rfl⟩ := h3
  obtain ⟨h1, h2⟩ := List.mem_filter.mp h
  obtain ⟨d, hd, rfl⟩ := List.mem_map.mp h1
  have hd := List.mem_range.mp hd
  have hd6 : 0 ≤ (d : Int) ∧ (d : Int) < 6 := by omega
  have ho := opp_in hd6
  refine List.mem_filter.mpr ⟨List.mem_map.mpr ⟨(opp d).toNat, List.mem_range.mpr (by omega), ?_⟩, by simpa using ha⟩
  rw [Int.toNat_of_nonneg ho.1]
  exact nb_opp hd6
theorem conn_of_rch {bs : List (List Int)} (h3 : Three bs) {c0 : List Int} (h0 : c0 ∈ bs) (h : ∀ c ∈ bs, Rch (nxB bs) c0 c) : Conn bs := by
  intro S ⟨a, ha, sa⟩ cl c hc
  have mem : ∀ {b}, Rch (nxB bs) c0 b → b ∈ bs := fun r => by
    cases r with
    | refl => exact h0
    | step _ q => exact nxB_in q
  have go : ∀ {b}, Rch (nxB bs) c0 b → (S b ↔ S c0) := by
    intro b r
    induction r with
    | refl => exact Iff.rfl
    | step r0 q ih =>
      rename_i b c
      have hb : b ∈ bs := mem r0
      have hc : c ∈ bs := nxB_in q
      have one : ∀ {b c : List Int}, b ∈ bs → c ∈ nxB bs b → S b → S c := fun {b c} hb q sb => by
        obtain ⟨h1, h2⟩ := List.mem_filter.mp q
        obtain ⟨d, hd, rfl⟩ := List.mem_map.mp h1
        have hd := List.mem_range.mp hd
        exact cl b hb d (by omega) sb (by simpa using h2)
      exact ⟨fun sc => ih.mp (one hc (nxB_sym (h3 b hb) hb q) sc), fun s0 => one hb q (ih.mpr s0)⟩
  exact (go (h c hc)).mpr ((go (h a ha)).mp sa)
theorem hang_told (hp : Hd) (bs : List (List Int)) (h3 : Three bs) (nd : bs.Nodup) (hl : bs.length ≤ 30) (hne : bs ≠ []) : ∃ b : Bool, c_hang_together [.tup (bs.map T)] hp = some (.bl b, hp) ∧ (b = true ↔ Conn bs) := by
  obtain ⟨c0, r0, e0⟩ : ∃ c r, bs = c :: r := by
    cases h : bs with
    | nil => exact absurd h hne
    | cons c r => exact ⟨c, r, rfl⟩
  have hc0 : c0 ∈ bs := by rw [e0]; exact List.mem_cons_self
  have inb : ∀ {b}, Rch (nxB bs) c0 b → b ∈ bs := fun r => by
    cases r with
    | refl => exact hc0
    | step _ q => exact nxB_in q
  obtain ⟨met, ls', hp', e, ⟨v4, v5, v6, rfl, rfl⟩, hm, h0⟩ := search_while (P := Rch (nxB bs) c0) (N := nxB bs) bs (fun _ h => inb h) (fun a b h q => .step h q) (c := mT (m2 (mAs (mCons (mVar 3) mNil) gLen) (mC (.int 0)) gGt)) (b := B2_hang_together)
    (fun met wait ls hp => ∃ v4 v5 v6, ls = [some (.tup (bs.map T)), some (.ref 0), some (.ref 1), some (.ref 2), v4, v5, v6, none] ∧ hp = [.dic (Cd bs), .dic (Cd met), .lst (wait.map T)])
    (by
      rintro met ls hp ⟨v4, v5, v6, rfl, rfl⟩
      have g1 : gLen [.ref 2] [.dic (Cd bs), .dic (Cd met), .lst (([] : List (List Int)).map T)] = some (.int 0, _) := gLen_lst (xs := []) rfl
      simp only [mVar_s, mC_s, m2_s, m1_s, mT_s, mNil_s, mCons_s, mAs_s, ar_s, mNew_s, mTup_s, mLst_s, sNext_s, sSeq_s, sDrop_s, sRet_s, sIf_s2, sSet_s, sAsg_s, sPar_s, sStore_s, gAdd_int, gSub_int, gLt_int, gLe_int, gGt_int, gGe_int, gNeg_int, gEq_int, gNe_int,
 mIfE_s2, mAnd_s2, mOr_s2, mNot_s, mAndV_s2, mOrV_s2, mNotV_s, mChain_s2, mChain3_s, mL_s, m2L_s, mMet_s, mExt_s, mExtO_s, mIsi_s, mSl_s, mPo_n, mPo_s, mCat_s, mCatOL_s, mCatLO_s, mCatOO_s, mLRg1_s, mLRg2_s, mTRg1_s, mTRg2_s, mRep_s, sAsgL_s, sPar3_s, sAug_s, sBrk_s, sCnt_s, sRetN_s, tYesD_s, mSorted_s, mSortedL_s, mIS_s, mIL_s, mList_s, sAsgM_s, tNm_s, tSub_s, tTp_s, tTps_nil, tTps_cons, mDict0_s, asg_nm, asg_tp, asg_tpT, asgs_nil, asgs_cons, mDef_s,
 List.getElem?_cons_zero, List.getElem?_cons_succ, List.set_cons_zero, List.set_cons_succ, List.length_cons, List.length_nil, List.cons_append, List.nil_append, List.map_cons, List.map_nil, if_true, if_false, reduceIte, reduceCtorEq, Bool.false_eq_true, Bool.true_eq_false, decide_eq_true_eq, decide_true, decide_false, Bool.not_true, Bool.not_false, Nat.reduceAdd, Nat.reduceLeDiff, Nat.reduceLT, Nat.reduceEqDiff, Int.reduceLT, Int.reduceLE, Int.reduceAdd, Int.reduceSub, Int.reduceMul, Int.reduceNeg, isL, onL, gAppend, gPop, Ve.gTup, sizeLine_eq, Nat.zero_le]
      simp only [mVar_s, mC_s, m2_s, m1_s, mT_s, mNil_s, mCons_s, mAs_s, ar_s, mNew_s, mTup_s, mLst_s, sNext_s, sSeq_s, sDrop_s, sRet_s, sIf_s2, sSet_s, sAsg_s, sPar_s, sStore_s, gAdd_int, gSub_int, gLt_int, gLe_int, gGt_int, gGe_int, gNeg_int, gEq_int, gNe_int,
 mIfE_s2, mAnd_s2, mOr_s2, mNot_s, mAndV_s2, mOrV_s2, mNotV_s, mChain_s2, mChain3_s, mL_s, m2L_s, mMet_s, mExt_s, mExtO_s, mIsi_s, mSl_s, mPo_n, mPo_s, mCat_s, mCatOL_s, mCatLO_s, mCatOO_s, mLRg1_s, mLRg2_s, mTRg1_s, mTRg2_s, mRep_s, sAsgL_s, sPar3_s, sAug_s, sBrk_s, sCnt_s, sRetN_s, tYesD_s, mSorted_s, mSortedL_s, mIS_s, mIL_s, mList_s, sAsgM_s, tNm_s, tSub_s, tTp_s, tTps_nil, tTps_cons, mDict0_s, asg_nm, asg_tp, asg_tpT, asgs_nil, asgs_cons, mDef_s,
 List.getElem?_cons_zero, List.getElem?_cons_succ, List.set_cons_zero, List.set_cons_succ, List.length_cons, List.length_nil, List.cons_append, List.nil_append, List.map_cons, List.map_nil, if_true, if_false, reduceIte, reduceCtorEq, Bool.false_eq_true, Bool.true_eq_false, decide_eq_true_eq, decide_true, decide_false, Bool.not_true, Bool.not_false, Nat.reduceAdd, Nat.reduceLeDiff, Nat.reduceLT, Nat.reduceEqDiff, Int.reduceLT, Int.reduceLE, Int.reduceAdd, Int.reduceSub, Int.reduceMul, Int.reduceNeg, isL, onL, gAppend, gPop, Ve.gTup, sizeLine_eq] at g1
      simp only [mVar_s, mC_s, m2_s, m1_s, mT_s, mNil_s, mCons_s, mAs_s, ar_s, mNew_s, mTup_s, mLst_s, sNext_s, sSeq_s, sDrop_s, sRet_s, sIf_s2, sSet_s, sAsg_s, sPar_s, sStore_s, gAdd_int, gSub_int, gLt_int, gLe_int, gGt_int, gGe_int, gNeg_int, gEq_int, gNe_int,
 mIfE_s2, mAnd_s2, mOr_s2, mNot_s, mAndV_s2, mOrV_s2, mNotV_s, mChain_s2, mChain3_s, mL_s, m2L_s, mMet_s, mExt_s, mExtO_s, mIsi_s, mSl_s, mPo_n, mPo_s, mCat_s, mCatOL_s, mCatLO_s, mCatOO_s, mLRg1_s, mLRg2_s, mTRg1_s, mTRg2_s, mRep_s, sAsgL_s, sPar3_s, sAug_s, sBrk_s, sCnt_s, sRetN_s, tYesD_s, mSorted_s, mSortedL_s, mIS_s, mIL_s, mList_s, sAsgM_s, tNm_s, tSub_s, tTp_s, tTps_nil, tTps_cons, mDict0_s, asg_nm, asg_tp, asg_tpT, asgs_nil, asgs_cons, mDef_s,
 List.getElem?_cons_zero, List.getElem?_cons_succ, List.set_cons_zero, List.set_cons_succ, List.length_cons, List.length_nil, List.cons_append, List.nil_append, List.map_cons, List.map_nil, if_true, if_false, reduceIte, reduceCtorEq, Bool.false_eq_true, Bool.true_eq_false, decide_eq_true_eq, decide_true, decide_false, Bool.not_true, Bool.not_false, Nat.reduceAdd, Nat.reduceLeDiff, Nat.reduceLT, Nat.reduceEqDiff, Int.reduceLT, Int.reduceLE, Int.reduceAdd, Int.reduceSub, Int.reduceMul, Int.reduceNeg, isL, onL, gAppend, gPop, Ve.gTup, sizeLine_eq, g1]
      try rfl) (by
      rintro met w here ls hp ⟨v4, v5, v6, rfl, rfl⟩
      have g1 : gLen [.ref 2] [.dic (Cd bs), .dic (Cd met), .lst ((w ++ [here]).map T)] = some (.int ((w ++ [here]).map T).length, _) := gLen_lst rfl
      have q1 : (0 : Int) < ((w ++ [here]).map T).length := by rw [List.length_map, List.length_append, List.length_singleton]; omega
      simp only [mVar_s, mC_s, m2_s, m1_s, mT_s, mNil_s, mCons_s, mAs_s, ar_s, mNew_s, mTup_s, mLst_s, sNext_s, sSeq_s, sDrop_s, sRet_s, sIf_s2, sSet_s, sAsg_s, sPar_s, sStore_s, gAdd_int, gSub_int, gLt_int, gLe_int, gGt_int, gGe_int, gNeg_int, gEq_int, gNe_int,
 mIfE_s2, mAnd_s2, mOr_s2, mNot_s, mAndV_s2, mOrV_s2, mNotV_s, mChain_s2, mChain3_s, mL_s, m2L_s, mMet_s, mExt_s, mExtO_s, mIsi_s, mSl_s, mPo_n, mPo_s, mCat_s, mCatOL_s, mCatLO_s, mCatOO_s, mLRg1_s, mLRg2_s, mTRg1_s, mTRg2_s, mRep_s, sAsgL_s, sPar3_s, sAug_s, sBrk_s, sCnt_s, sRetN_s, tYesD_s, mSorted_s, mSortedL_s, mIS_s, mIL_s, mList_s, sAsgM_s, tNm_s, tSub_s, tTp_s, tTps_nil, tTps_cons, mDict0_s, asg_nm, asg_tp, asg_tpT, asgs_nil, asgs_cons, mDef_s,
 List.getElem?_cons_zero, List.getElem?_cons_succ, List.set_cons_zero, List.set_cons_succ, List.length_cons, List.length_nil, List.cons_append, List.nil_append, List.map_cons, List.map_nil, if_true, if_false, reduceIte, reduceCtorEq, Bool.false_eq_true, Bool.true_eq_false, decide_eq_true_eq, decide_true, decide_false, Bool.not_true, Bool.not_false, Nat.reduceAdd, Nat.reduceLeDiff, Nat.reduceLT, Nat.reduceEqDiff, Int.reduceLT, Int.reduceLE, Int.reduceAdd, Int.reduceSub, Int.reduceMul, Int.reduceNeg, isL, onL, gAppend, gPop, Ve.gTup, sizeLine_eq, g1, q1]) (by
      rintro met w here ls hp ⟨v4, v5, v6, rfl, rfl⟩ hh hbh l1 l2 _
      obtain ⟨x, y, z, rfl⟩ := h3 here (inb hbh)
      obtain ⟨v5', v6', e6⟩ := hang6 bs (.tup (bs.map T)) met w x y z v5 v6 none (by omega) (by omega)
      refine ⟨_, _, ?_, some (T [x, y, z]), v5', v6', rfl, rfl⟩
      simp only [mVar_s, mC_s, m2_s, m1_s, mT_s, mNil_s, mCons_s, mAs_s, ar_s, mNew_s, mTup_s, mLst_s, sNext_s, sSeq_s, sDrop_s, sRet_s, sIf_s2, sSet_s, sAsg_s, sPar_s, sStore_s, gAdd_int, gSub_int, gLt_int, gLe_int, gGt_int, gGe_int, gNeg_int, gEq_int, gNe_int,
 mIfE_s2, mAnd_s2, mOr_s2, mNot_s, mAndV_s2, mOrV_s2, mNotV_s, mChain_s2, mChain3_s, mL_s, m2L_s, mMet_s, mExt_s, mExtO_s, mIsi_s, mSl_s, mPo_n, mPo_s, mCat_s, mCatOL_s, mCatLO_s, mCatOO_s, mLRg1_s, mLRg2_s, mTRg1_s, mTRg2_s, mRep_s, sAsgL_s, sPar3_s, sAug_s, sBrk_s, sCnt_s, sRetN_s, tYesD_s, mSorted_s, mSortedL_s, mIS_s, mIL_s, mList_s, sAsgM_s, tNm_s, tSub_s, tTp_s, tTps_nil, tTps_cons, mDict0_s, asg_nm, asg_tp, asg_tpT, asgs_nil, asgs_cons, mDef_s,
 List.getElem?_cons_zero, List.getElem?_cons_succ, List.set_cons_zero, List.set_cons_succ, List.length_cons, List.length_nil, List.cons_append, List.nil_append, List.map_cons, List.map_nil, if_true, if_false, reduceIte, reduceCtorEq, Bool.false_eq_true, Bool.true_eq_false, decide_eq_true_eq, decide_true, decide_false, Bool.not_true, Bool.not_false, Nat.reduceAdd, Nat.reduceLeDiff, Nat.reduceLT, Nat.reduceEqDiff, Int.reduceLT, Int.reduceLE, Int.reduceAdd, Int.reduceSub, Int.reduceMul, Int.reduceNeg, isL, onL, gAppend, gPop, Ve.gTup, sizeLine_eq, B2_hang_together_1, B2_hang_together, List.map_append, List.length_append, List.getElem?_concat_length, Nat.add_sub_cancel, List.dropLast_concat, e6])
    1000000 c0 .refl [some (.tup (bs.map T)), some (.ref 0), some (.ref 1), some (.ref 2), none, none, none, none] [.dic (Cd bs), .dic (Cd [c0]), .lst ([c0].map T)] ⟨none, none, none, rfl, rfl⟩ (by omega)
  have sub : ∀ a ∈ met, a ∈ bs := fun a ha => inb (hm.pr a ha)
  have le2 := nodup_le met bs hm.nd sub
  refine ⟨((met.length : Int) == (bs.length : Int)), ?_, ?_⟩
  · have el : C1_hang_together [some (.tup (bs.map T)), none, none, none, none, none, none, none] [] = some (bs.map fun c => D.tup [T c, .bl true], []) := by
      have := mLc_typed (fi := mIS (mVar 0)) (t := .nm 7) (own := [7]) (tt := tYesD) (te := E1_hang_together) (ls := [some (.tup (bs.map T)), none, none, none, none, none, none, none]) (hp := []) (gd := []) T bs (fun _ => true) (fun c => D.tup [T c, .bl true]) (mIS_tup (mVar_of rfl)) (by rw [sizeLine_eq]; omega) rfl (fun c hc => by
        refine ⟨_, by simp only [mVar_s, mC_s, m2_s, m1_s, mT_s, mNil_s, mCons_s, mAs_s, ar_s, mNew_s, mTup_s, mLst_s, sNext_s, sSeq_s, sDrop_s, sRet_s, sIf_s2, sSet_s, sAsg_s, sPar_s, sStore_s, gAdd_int, gSub_int, gLt_int, gLe_int, gGt_int, gGe_int, gNeg_int, gEq_int, gNe_int,
 mIfE_s2, mAnd_s2, mOr_s2, mNot_s, mAndV_s2, mOrV_s2, mNotV_s, mChain_s2, mChain3_s, mL_s, m2L_s, mMet_s, mExt_s, mExtO_s, mIsi_s, mSl_s, mPo_n, mPo_s, mCat_s, mCatOL_s, mCatLO_s, mCatOO_s, mLRg1_s, mLRg2_s, mTRg1_s, mTRg2_s, mRep_s, sAsgL_s, sPar3_s, sAug_s, sBrk_s, sCnt_s, sRetN_s, tYesD_s, mSorted_s, mSortedL_s, mIS_s, mIL_s, mList_s, sAsgM_s, tNm_s, tSub_s, tTp_s, tTps_nil, tTps_cons, mDict0_s, asg_nm, asg_tp, asg_tpT, asgs_nil, asgs_cons, mDef_s,
 List.getElem?_cons_zero, List.getElem?_cons_succ, List.set_cons_zero, List.set_cons_succ, List.length_cons, List.length_nil, List.cons_append, List.nil_append, List.map_cons, List.map_nil, if_true, if_false, reduceIte, reduceCtorEq, Bool.false_eq_true, Bool.true_eq_false, decide_eq_true_eq, decide_true, decide_false, Bool.not_true, Bool.not_false, Nat.reduceAdd, Nat.reduceLeDiff, Nat.reduceLT, Nat.reduceEqDiff, Int.reduceLT, Int.reduceLE, Int.reduceAdd, Int.reduceSub, Int.reduceMul, Int.reduceNeg, isL, onL, gAppend, gPop, Ve.gTup, sizeLine_eq, wipeL]; rfl, rfl, fun _ => ?_⟩
        simp only [mVar_s, mC_s, m2_s, m1_s, mT_s, mNil_s, mCons_s, mAs_s, ar_s, mNew_s, mTup_s, mLst_s, sNext_s, sSeq_s, sDrop_s, sRet_s, sIf_s2, sSet_s, sAsg_s, sPar_s, sStore_s, gAdd_int, gSub_int, gLt_int, gLe_int, gGt_int, gGe_int, gNeg_int, gEq_int, gNe_int,
 mIfE_s2, mAnd_s2, mOr_s2, mNot_s, mAndV_s2, mOrV_s2, mNotV_s, mChain_s2, mChain3_s, mL_s, m2L_s, mMet_s, mExt_s, mExtO_s, mIsi_s, mSl_s, mPo_n, mPo_s, mCat_s, mCatOL_s, mCatLO_s, mCatOO_s, mLRg1_s, mLRg2_s, mTRg1_s, mTRg2_s, mRep_s, sAsgL_s, sPar3_s, sAug_s, sBrk_s, sCnt_s, sRetN_s, tYesD_s, mSorted_s, mSortedL_s, mIS_s, mIL_s, mList_s, sAsgM_s, tNm_s, tSub_s, tTp_s, tTps_nil, tTps_cons, mDict0_s, asg_nm, asg_tp, asg_tpT, asgs_nil, asgs_cons, mDef_s,
 List.getElem?_cons_zero, List.getElem?_cons_succ, List.set_cons_zero, List.set_cons_succ, List.length_cons, List.length_nil, List.cons_append, List.nil_append, List.map_cons, List.map_nil, if_true, if_false, reduceIte, reduceCtorEq, Bool.false_eq_true, Bool.true_eq_false, decide_eq_true_eq, decide_true, decide_false, Bool.not_true, Bool.not_false, Nat.reduceAdd, Nat.reduceLeDiff, Nat.reduceLT, Nat.reduceEqDiff, Int.reduceLT, Int.reduceLE, Int.reduceAdd, Int.reduceSub, Int.reduceMul, Int.reduceNeg, isL, onL, gAppend, gPop, Ve.gTup, sizeLine_eq, E1_hang_together])
      rw [List.filter_eq_self.mpr fun _ _ => rfl] at this
      exact this
    have ix0 : ∀ hp, gIx (.tup (bs.map T)) (.int 0) hp = some (T c0, hp) := fun hp => by
      rw [e0]
      exact gIx_tupN (j := 0) rfl
    have kd : ((([(T c0, D.bl true)] : List (D × D)).all fun p => (toKey p.1).isSome) || ([(T c0, D.bl true)] : List (D × D)).all fun p => tupKey p.1) = true := by
      show (((toKey (T c0)).isSome && true) || ((toKeys (c0.map D.int)).isSome && true)) = true
      rw [toKeys_ints]
      simp
    have g0 : gDictL (bs.map fun c => D.tup [T c, .bl true]) [] = some (.ref 0, [.dic (Cd bs)]) := gDictL_Cd nd
    have e' : W2_hang_together 1000000 [some (.tup (bs.map T)), some (.ref 0), some (.ref 1), some (.ref 2), none, none, none, none] [.dic (Cd bs), .dic (putAll [] [(T c0, D.bl true)]), .lst [T c0]] = some (.nx, [some (.tup (bs.map T)), some (.ref 0), some (.ref 1), some (.ref 2), v4, v5, v6, none], [.dic (Cd bs), .dic (Cd met), .lst []]) := e
    have g1 : gLen [.ref 1] [.dic (Cd bs), .dic (Cd met), .lst []] = some (.int met.length, _) := gLen_dic rfl
    have g2 : gLen [.ref 0] [.dic (Cd bs), .dic (Cd met), .lst []] = some (.int bs.length, _) := gLen_dic rfl
    have em : m_hang_together [.tup (bs.map T)] [] = some (.bl ((met.length : Int) == (bs.length : Int)), [.dic (Cd bs), .dic (Cd met), .lst []]) := by
      show mDef 8 b_hang_together _ _ = _
      simp only [mVar_s, mC_s, m2_s, m1_s, mT_s, mNil_s, mCons_s, mAs_s, ar_s, mNew_s, mTup_s, mLst_s, sNext_s, sSeq_s, sDrop_s, sRet_s, sIf_s2, sSet_s, sAsg_s, sPar_s, sStore_s, gAdd_int, gSub_int, gLt_int, gLe_int, gGt_int, gGe_int, gNeg_int, gEq_int, gNe_int,
 mIfE_s2, mAnd_s2, mOr_s2, mNot_s, mAndV_s2, mOrV_s2, mNotV_s, mChain_s2, mChain3_s, mL_s, m2L_s, mMet_s, mExt_s, mExtO_s, mIsi_s, mSl_s, mPo_n, mPo_s, mCat_s, mCatOL_s, mCatLO_s, mCatOO_s, mLRg1_s, mLRg2_s, mTRg1_s, mTRg2_s, mRep_s, sAsgL_s, sPar3_s, sAug_s, sBrk_s, sCnt_s, sRetN_s, tYesD_s, mSorted_s, mSortedL_s, mIS_s, mIL_s, mList_s, sAsgM_s, tNm_s, tSub_s, tTp_s, tTps_nil, tTps_cons, mDict0_s, asg_nm, asg_tp, asg_tpT, asgs_nil, asgs_cons, mDef_s,
 List.getElem?_cons_zero, List.getElem?_cons_succ, List.set_cons_zero, List.set_cons_succ, List.length_cons, List.length_nil, List.cons_append, List.nil_append, List.map_cons, List.map_nil, if_true, if_false, reduceIte, reduceCtorEq, Bool.false_eq_true, Bool.true_eq_false, decide_eq_true_eq, decide_true, decide_false, Bool.not_true, Bool.not_false, Nat.reduceAdd, Nat.reduceLeDiff, Nat.reduceLT, Nat.reduceEqDiff, Int.reduceLT, Int.reduceLE, Int.reduceAdd, Int.reduceSub, Int.reduceMul, Int.reduceNeg, isL, onL, gAppend, gPop, Ve.gTup, sizeLine_eq, b_hang_together_4, b_hang_together_3, b_hang_together_2, b_hang_together_1, b_hang_together, stD, List.reduceReplicate, Nat.reduceSub, mDict, mPairs, el, g0, ix0, kd, Bool.true_and, Nat.reduceLeDiff, decide_true, e', g1, g2]
    exact cV_of (nrs_tTs bs) em rfl
  · rw [beq_iff_eq]
    constructor
    · intro h
      have hlen : met.length = bs.length := by omega
      have pm : ∀ c ∈ bs, c ∈ met := by
        intro c hc
        rcases Decidable.em (c ∈ met) with q | q
        · exact q
        · have nd2 : (c :: met).Nodup := List.nodup_cons.mpr ⟨q, hm.nd⟩
          have := nodup_le (c :: met) bs nd2 (fun a ha => by
            rcases List.mem_cons.mp ha with z | z
            · rw [z]; exact hc
            · exact sub a z)
          rw [List.length_cons] at this
          omega
      exact conn_of_rch h3 hc0 fun c hc => hm.pr c (pm c hc)
    · intro hconn
      have all : ∀ c ∈ bs, c ∈ met := hconn (fun c => c ∈ met) ⟨c0, hc0, h0⟩ fun a ha d hd sa hn => hm.cl a sa (by simp) _ (List.mem_filter.mpr ⟨List.mem_map.mpr ⟨d.toNat, List.mem_range.mpr (by omega), by rw [Int.toNat_of_nonneg hd.1]⟩, by simpa using hn⟩)
      have le1 := nodup_le bs met nd all
      omega
def E1_is_body : AE :=
    (mAs (mCons (mVar 3) mNil) (ar 1 c_is_cube))
def C1_is_body : AA :=
    (mLc (mIS (mVar 0)) (.nm 3) [3] tYesD E1_is_body)
def E2_is_body : AE :=
    (m2 (mVar 1) (mVar 2) gLt)
def C2_is_body : AA :=
    (mLc (mZip (mVar 0) (mSl (mVar 0) (some (mC (.int 1))) none)) (.tp ((.nm 1) :: ((.nm 2) :: []))) [1, 2] tYesD E2_is_body)
@[simp] def b_is_body_2 : AS :=
    (sRet (mAs (mCons (mVar 0) mNil) (ar 1 c_hang_together)))
@[simp] def b_is_body_1 : AS :=
    sSeq (sIf (mNot (mT (mL C2_is_body gAll))) (sRet (mC (.bl false))) sNext)
    b_is_body_2
def b_is_body : AS :=
    sSeq (sIf (mOr (mNot (mT (mIsi "tuple" (mVar 0)))) (mOr (mNot (mT (mChain (mC (.int 1)) (mAs (mCons (mVar 0) mNil) gLen) (mC k_MOST_CUBES) gLe gLe))) (mNot (mT (mL C1_is_body gAll))))) (sRet (mC (.bl false))) sNext)
    b_is_body_1
def m_is_body : List D → Hd → Option (D × Hd) := mDef 4 b_is_body
def c_is_body := cV m_is_body
theorem con_is_body : Cl c_is_body m_is_body := cl_cV _
theorem isbody_told (hp : Hd) (bs : List (List Int)) (h3 : Three bs) (srt : bs.Pairwise (· < ·)) (hl : bs.length ≤ 100000) : ∃ b : Bool, c_is_body [.tup (bs.map T)] hp = some (.bl b, hp) ∧ (b = true ↔ Bod 100 bs) := by
  have g1 : gLen [.tup (bs.map T)] [] = some (.int bs.length, []) := by
    show some (D.int ((bs.map T).length : Nat), ([] : Hd)) = _
    rw [List.length_map]
  have g2 : gIsi "tuple" [.tup (bs.map T)] [] = some (.bl true, []) := rfl
  have nd := nodup_of_lt srt
  have e1 : C1_is_body [some (.tup (bs.map T)), none, none, none] [] = some (bs.map fun c => D.bl (fitC c), []) := by
    have := mLc_typed (fi := mIS (mVar 0)) (t := .nm 3) (own := [3]) (tt := tYesD) (te := E1_is_body) (ls := [some (.tup (bs.map T)), none, none, none]) (hp := []) (gd := []) T bs (fun _ => true) (fun c => D.bl (fitC c)) (mIS_tup (mVar_of rfl)) (by rw [sizeLine_eq]; omega) rfl (fun c hc => by
      refine ⟨_, by simp only [mVar_s, mC_s, m2_s, m1_s, mT_s, mNil_s, mCons_s, mAs_s, ar_s, mNew_s, mTup_s, mLst_s, sNext_s, sSeq_s, sDrop_s, sRet_s, sIf_s2, sSet_s, sAsg_s, sPar_s, sStore_s, gAdd_int, gSub_int, gLt_int, gLe_int, gGt_int, gGe_int, gNeg_int, gEq_int, gNe_int,
 mIfE_s2, mAnd_s2, mOr_s2, mNot_s, mAndV_s2, mOrV_s2, mNotV_s, mChain_s2, mChain3_s, mL_s, m2L_s, mMet_s, mExt_s, mExtO_s, mIsi_s, mSl_s, mPo_n, mPo_s, mCat_s, mCatOL_s, mCatLO_s, mCatOO_s, mLRg1_s, mLRg2_s, mTRg1_s, mTRg2_s, mRep_s, sAsgL_s, sPar3_s, sAug_s, sBrk_s, sCnt_s, sRetN_s, tYesD_s, mSorted_s, mSortedL_s, mIS_s, mIL_s, mList_s, sAsgM_s, tNm_s, tSub_s, tTp_s, tTps_nil, tTps_cons, mDict0_s, asg_nm, asg_tp, asg_tpT, asgs_nil, asgs_cons, mDef_s,
 List.getElem?_cons_zero, List.getElem?_cons_succ, List.set_cons_zero, List.set_cons_succ, List.length_cons, List.length_nil, List.cons_append, List.nil_append, List.map_cons, List.map_nil, if_true, if_false, reduceIte, reduceCtorEq, Bool.false_eq_true, Bool.true_eq_false, decide_eq_true_eq, decide_true, decide_false, Bool.not_true, Bool.not_false, Nat.reduceAdd, Nat.reduceLeDiff, Nat.reduceLT, Nat.reduceEqDiff, Int.reduceLT, Int.reduceLE, Int.reduceAdd, Int.reduceSub, Int.reduceMul, Int.reduceNeg, isL, onL, gAppend, gPop, Ve.gTup, sizeLine_eq, wipeL]; rfl, rfl, fun _ => ?_⟩
      obtain ⟨x, y, z, rfl⟩ := h3 c hc
      simp only [mVar_s, mC_s, m2_s, m1_s, mT_s, mNil_s, mCons_s, mAs_s, ar_s, mNew_s, mTup_s, mLst_s, sNext_s, sSeq_s, sDrop_s, sRet_s, sIf_s2, sSet_s, sAsg_s, sPar_s, sStore_s, gAdd_int, gSub_int, gLt_int, gLe_int, gGt_int, gGe_int, gNeg_int, gEq_int, gNe_int,
 mIfE_s2, mAnd_s2, mOr_s2, mNot_s, mAndV_s2, mOrV_s2, mNotV_s, mChain_s2, mChain3_s, mL_s, m2L_s, mMet_s, mExt_s, mExtO_s, mIsi_s, mSl_s, mPo_n, mPo_s, mCat_s, mCatOL_s, mCatLO_s, mCatOO_s, mLRg1_s, mLRg2_s, mTRg1_s, mTRg2_s, mRep_s, sAsgL_s, sPar3_s, sAug_s, sBrk_s, sCnt_s, sRetN_s, tYesD_s, mSorted_s, mSortedL_s, mIS_s, mIL_s, mList_s, sAsgM_s, tNm_s, tSub_s, tTp_s, tTps_nil, tTps_cons, mDict0_s, asg_nm, asg_tp, asg_tpT, asgs_nil, asgs_cons, mDef_s,
 List.getElem?_cons_zero, List.getElem?_cons_succ, List.set_cons_zero, List.set_cons_succ, List.length_cons, List.length_nil, List.cons_append, List.nil_append, List.map_cons, List.map_nil, if_true, if_false, reduceIte, reduceCtorEq, Bool.false_eq_true, Bool.true_eq_false, decide_eq_true_eq, decide_true, decide_false, Bool.not_true, Bool.not_false, Nat.reduceAdd, Nat.reduceLeDiff, Nat.reduceLT, Nat.reduceEqDiff, Int.reduceLT, Int.reduceLE, Int.reduceAdd, Int.reduceSub, Int.reduceMul, Int.reduceNeg, isL, onL, gAppend, gPop, Ve.gTup, sizeLine_eq, E1_is_body, cube_ok])
    rw [List.filter_eq_self.mpr fun _ _ => rfl] at this
    exact this
  by_cases hk : 1 ≤ bs.length ∧ bs.length ≤ 30
  · have hne : bs ≠ [] := fun z => by rw [z] at hk; simp at hk
    have k1 : (1 : Int) ≤ (bs.length : Nat) := by omega
    have k2 : ((bs.length : Nat) : Int) ≤ 30 := by omega
    by_cases hf : bs.all fitC = true
    · have e2 : C2_is_body [some (.tup (bs.map T)), none, none, none] [] = some ((bs.zip (bs.drop 1)).map fun _ => D.bl true, []) := by
        have ez : mZip (mVar 0) (mSl (mVar 0) (some (mC (.int 1))) none) [some (.tup (bs.map T)), none, none, none] [] = some ((bs.zip (bs.drop 1)).map (fun p => D.tup [T p.1, T p.2]), [], []) := by
          have es : mSl (mVar 0) (some (mC (.int 1))) none [some (.tup (bs.map T)), none, none, none] [] = some (.tup ((bs.drop 1).map T), []) := by
            unfold mSl
            rw [mVar_of (d := .tup (bs.map T)) rfl]
            show gSl (.tup (bs.map T)) (some 1) none [] = _
            unfold gSl
            dsimp only
            rw [cutD_one hne]
          unfold mZip
          rw [mVar_of (d := .tup (bs.map T)) rfl]
          dsimp only
          rw [es]
          show some (zipD (bs.map T) ((bs.drop 1).map T), ([] : Gd), ([] : Hd)) = _
          rw [zipD_T]
        have el := mLc_typed (t := .tp ((.nm 1) :: ((.nm 2) :: []))) (own := [1, 2]) (tt := tYesD) (te := E2_is_body) (fun p : List Int × List Int => D.tup [T p.1, T p.2]) (bs.zip (bs.drop 1)) (fun _ => true) (fun _ => D.bl true) ez (by rw [List.length_zip, sizeLine_eq]; omega) rfl (fun p hp => ⟨[some (.tup (bs.map T)), some (T p.1), some (T p.2), none], rfl, rfl, fun _ => by
          unfold E2_is_body
          rw [m2_of (mVar_of (d := T p.1) rfl) (mVar_of (d := T p.2) rfl), gLt_T, decide_eq_true (zip_lt srt p hp)]⟩)
        rw [List.filter_eq_self.mpr (fun _ _ => rfl)] at el
        exact el
      have a2 : (bs.zip (bs.drop 1)).all (fun _ => true) = true := by simp
      obtain ⟨b, eb, hb⟩ := hang_told [] bs h3 nd hk.2 hne
      refine ⟨b, ?_, ?_⟩
      · have em : m_is_body [.tup (bs.map T)] [] = some (.bl b, []) := by
          show mDef 4 b_is_body _ _ = _
          have k3 : k_MOST_CUBES = .int 30 := rfl
          have q1 := gAll_bls (hp := []) fitC bs
          have q2 := gAll_bls (hp := []) (fun _ : List Int × List Int => true) (bs.zip (bs.drop 1))
          rw [hf] at q1
          rw [a2] at q2
          simp only [mVar_s, mC_s, m2_s, m1_s, mT_s, mNil_s, mCons_s, mAs_s, ar_s, mNew_s, mTup_s, mLst_s, sNext_s, sSeq_s, sDrop_s, sRet_s, sIf_s2, sSet_s, sAsg_s, sPar_s, sStore_s, gAdd_int, gSub_int, gLt_int, gLe_int, gGt_int, gGe_int, gNeg_int, gEq_int, gNe_int,
 mIfE_s2, mAnd_s2, mOr_s2, mNot_s, mAndV_s2, mOrV_s2, mNotV_s, mChain_s2, mChain3_s, mL_s, m2L_s, mMet_s, mExt_s, mExtO_s, mIsi_s, mSl_s, mPo_n, mPo_s, mCat_s, mCatOL_s, mCatLO_s, mCatOO_s, mLRg1_s, mLRg2_s, mTRg1_s, mTRg2_s, mRep_s, sAsgL_s, sPar3_s, sAug_s, sBrk_s, sCnt_s, sRetN_s, tYesD_s, mSorted_s, mSortedL_s, mIS_s, mIL_s, mList_s, sAsgM_s, tNm_s, tSub_s, tTp_s, tTps_nil, tTps_cons, mDict0_s, asg_nm, asg_tp, asg_tpT, asgs_nil, asgs_cons, mDef_s,
 List.getElem?_cons_zero, List.getElem?_cons_succ, List.set_cons_zero, List.set_cons_succ, List.length_cons, List.length_nil, List.cons_append, List.nil_append, List.map_cons, List.map_nil, if_true, if_false, reduceIte, reduceCtorEq, Bool.false_eq_true, Bool.true_eq_false, decide_eq_true_eq, decide_true, decide_false, Bool.not_true, Bool.not_false, Nat.reduceAdd, Nat.reduceLeDiff, Nat.reduceLT, Nat.reduceEqDiff, Int.reduceLT, Int.reduceLE, Int.reduceAdd, Int.reduceSub, Int.reduceMul, Int.reduceNeg, isL, onL, gAppend, gPop, Ve.gTup, sizeLine_eq, b_is_body_2, b_is_body_1, b_is_body, stD, List.reduceReplicate, Nat.reduceSub, g1, g2, k1, k2, k3, e1, e2, q1, q2, eb]
        exact cV_of (nrs_tTs bs) em rfl
      · rw [hb]
        exact ⟨fun hc => ⟨srt, fun c hc' => by
          obtain ⟨x, y, z, rfl⟩ := h3 c hc'
          exact (fit_cb x y z).mp (List.all_eq_true.mp hf _ hc'), hc, hne, hk.2⟩, fun h => h.conn⟩
    · have hf : bs.all fitC = false := by simpa using hf
      refine ⟨false, ?_, ?_⟩
      · have em : m_is_body [.tup (bs.map T)] [] = some (.bl false, []) := by
          show mDef 4 b_is_body _ _ = _
          have k3 : k_MOST_CUBES = .int 30 := rfl
          have q1 := gAll_bls (hp := []) fitC bs
          rw [hf] at q1
          simp only [mVar_s, mC_s, m2_s, m1_s, mT_s, mNil_s, mCons_s, mAs_s, ar_s, mNew_s, mTup_s, mLst_s, sNext_s, sSeq_s, sDrop_s, sRet_s, sIf_s2, sSet_s, sAsg_s, sPar_s, sStore_s, gAdd_int, gSub_int, gLt_int, gLe_int, gGt_int, gGe_int, gNeg_int, gEq_int, gNe_int,
 mIfE_s2, mAnd_s2, mOr_s2, mNot_s, mAndV_s2, mOrV_s2, mNotV_s, mChain_s2, mChain3_s, mL_s, m2L_s, mMet_s, mExt_s, mExtO_s, mIsi_s, mSl_s, mPo_n, mPo_s, mCat_s, mCatOL_s, mCatLO_s, mCatOO_s, mLRg1_s, mLRg2_s, mTRg1_s, mTRg2_s, mRep_s, sAsgL_s, sPar3_s, sAug_s, sBrk_s, sCnt_s, sRetN_s, tYesD_s, mSorted_s, mSortedL_s, mIS_s, mIL_s, mList_s, sAsgM_s, tNm_s, tSub_s, tTp_s, tTps_nil, tTps_cons, mDict0_s, asg_nm, asg_tp, asg_tpT, asgs_nil, asgs_cons, mDef_s,
 List.getElem?_cons_zero, List.getElem?_cons_succ, List.set_cons_zero, List.set_cons_succ, List.length_cons, List.length_nil, List.cons_append, List.nil_append, List.map_cons, List.map_nil, if_true, if_false, reduceIte, reduceCtorEq, Bool.false_eq_true, Bool.true_eq_false, decide_eq_true_eq, decide_true, decide_false, Bool.not_true, Bool.not_false, Nat.reduceAdd, Nat.reduceLeDiff, Nat.reduceLT, Nat.reduceEqDiff, Int.reduceLT, Int.reduceLE, Int.reduceAdd, Int.reduceSub, Int.reduceMul, Int.reduceNeg, isL, onL, gAppend, gPop, Ve.gTup, sizeLine_eq, b_is_body_2, b_is_body_1, b_is_body, stD, List.reduceReplicate, Nat.reduceSub, g1, g2, k1, k2, k3, e1, q1]
        exact cV_of (nrs_tTs bs) em rfl
      · refine ⟨fun z => (by cases z), fun h => ?_⟩
        have : bs.all fitC = true := List.all_eq_true.mpr fun c hc => by
          obtain ⟨x, y, z, rfl⟩ := h3 c hc
          exact (fit_cb x y z).mpr (h.cb _ hc)
        rw [this] at hf
        cases hf
  · refine ⟨false, ?_, ?_⟩
    · have em : m_is_body [.tup (bs.map T)] [] = some (.bl false, []) := by
        show mDef 4 b_is_body _ _ = _
        have k3 : k_MOST_CUBES = .int 30 := rfl
        by_cases k1 : (1 : Int) ≤ (bs.length : Nat)
        · have k2 : ¬ ((bs.length : Nat) : Int) ≤ 30 := by omega
          simp only [mVar_s, mC_s, m2_s, m1_s, mT_s, mNil_s, mCons_s, mAs_s, ar_s, mNew_s, mTup_s, mLst_s, sNext_s, sSeq_s, sDrop_s, sRet_s, sIf_s2, sSet_s, sAsg_s, sPar_s, sStore_s, gAdd_int, gSub_int, gLt_int, gLe_int, gGt_int, gGe_int, gNeg_int, gEq_int, gNe_int,
 mIfE_s2, mAnd_s2, mOr_s2, mNot_s, mAndV_s2, mOrV_s2, mNotV_s, mChain_s2, mChain3_s, mL_s, m2L_s, mMet_s, mExt_s, mExtO_s, mIsi_s, mSl_s, mPo_n, mPo_s, mCat_s, mCatOL_s, mCatLO_s, mCatOO_s, mLRg1_s, mLRg2_s, mTRg1_s, mTRg2_s, mRep_s, sAsgL_s, sPar3_s, sAug_s, sBrk_s, sCnt_s, sRetN_s, tYesD_s, mSorted_s, mSortedL_s, mIS_s, mIL_s, mList_s, sAsgM_s, tNm_s, tSub_s, tTp_s, tTps_nil, tTps_cons, mDict0_s, asg_nm, asg_tp, asg_tpT, asgs_nil, asgs_cons, mDef_s,
 List.getElem?_cons_zero, List.getElem?_cons_succ, List.set_cons_zero, List.set_cons_succ, List.length_cons, List.length_nil, List.cons_append, List.nil_append, List.map_cons, List.map_nil, if_true, if_false, reduceIte, reduceCtorEq, Bool.false_eq_true, Bool.true_eq_false, decide_eq_true_eq, decide_true, decide_false, Bool.not_true, Bool.not_false, Nat.reduceAdd, Nat.reduceLeDiff, Nat.reduceLT, Nat.reduceEqDiff, Int.reduceLT, Int.reduceLE, Int.reduceAdd, Int.reduceSub, Int.reduceMul, Int.reduceNeg, isL, onL, gAppend, gPop, Ve.gTup, sizeLine_eq, b_is_body_2, b_is_body_1, b_is_body, stD, List.reduceReplicate, Nat.reduceSub, g1, g2, k1, k2, k3]
        · simp only [mVar_s, mC_s, m2_s, m1_s, mT_s, mNil_s, mCons_s, mAs_s, ar_s, mNew_s, mTup_s, mLst_s, sNext_s, sSeq_s, sDrop_s, sRet_s, sIf_s2, sSet_s, sAsg_s, sPar_s, sStore_s, gAdd_int, gSub_int, gLt_int, gLe_int, gGt_int, gGe_int, gNeg_int, gEq_int, gNe_int,
 mIfE_s2, mAnd_s2, mOr_s2, mNot_s, mAndV_s2, mOrV_s2, mNotV_s, mChain_s2, mChain3_s, mL_s, m2L_s, mMet_s, mExt_s, mExtO_s, mIsi_s, mSl_s, mPo_n, mPo_s, mCat_s, mCatOL_s, mCatLO_s, mCatOO_s, mLRg1_s, mLRg2_s, mTRg1_s, mTRg2_s, mRep_s, sAsgL_s, sPar3_s, sAug_s, sBrk_s, sCnt_s, sRetN_s, tYesD_s, mSorted_s, mSortedL_s, mIS_s, mIL_s, mList_s, sAsgM_s, tNm_s, tSub_s, tTp_s, tTps_nil, tTps_cons, mDict0_s, asg_nm, asg_tp, asg_tpT, asgs_nil, asgs_cons, mDef_s,
 List.getElem?_cons_zero, List.getElem?_cons_succ, List.set_cons_zero, List.set_cons_succ, List.length_cons, List.length_nil, List.cons_append, List.nil_append, List.map_cons, List.map_nil, if_true, if_false, reduceIte, reduceCtorEq, Bool.false_eq_true, Bool.true_eq_false, decide_eq_true_eq, decide_true, decide_false, Bool.not_true, Bool.not_false, Nat.reduceAdd, Nat.reduceLeDiff, Nat.reduceLT, Nat.reduceEqDiff, Int.reduceLT, Int.reduceLE, Int.reduceAdd, Int.reduceSub, Int.reduceMul, Int.reduceNeg, isL, onL, gAppend, gPop, Ve.gTup, sizeLine_eq, b_is_body_2, b_is_body_1, b_is_body, stD, List.reduceReplicate, Nat.reduceSub, g1, g2, k1, k3]
      exact cV_of (nrs_tTs bs) em rfl
    · refine ⟨fun z => (by cases z), fun h => ?_⟩
      have h1 := h.few
      have h2 : 0 < bs.length := List.length_pos_iff.mpr h.ne
      omega
end Lw
namespace Lw
open PySem PySem.Spec L2 Ve
@[simp] def b_home_1 : AS :=
    (sRet (mL (mLc (mIS (mVar 0)) (.nm 3) [3] tYesD (mL (mLc (mR1 (mCons (mC (.int 3)) mNil)) (.nm 2) [2] tYesD (m2 (m2 (mVar 3) (mVar 2) gIx) (m2 (mVar 1) (mVar 2) gIx) gSub)) gTup)) gTup))
def b_home : AS :=
    sSeq (sSet 1 (mNew (mLc (mR1 (mCons (mC (.int 3)) mNil)) (.nm 2) [2] tYesD (mL (mLc (mIS (mVar 0)) (.nm 3) [3] tYesD (m2 (mVar 3) (mVar 2) gIx)) gMinL))))
    b_home_1
def m_home : List D → Hd → Option (D × Hd) := mDef 4 b_home
def c_home := cV m_home
theorem con_home : Cl c_home m_home := cl_cV _
theorem home_ok (hp : Hd) (bs : List (List Int)) (h3 : Three bs) (hne : bs ≠ []) (hl : bs.length ≤ 30) : c_home [.tup (bs.map T)] hp = some (.tup ((HM bs).map T), hp) := by
  have e1 : mLc (mR1 (mCons (mC (.int 3)) mNil)) (.nm 2) [2] tYesD (mL (mLc (mIS (mVar 0)) (.nm 3) [3] tYesD (m2 (mVar 3) (mVar 2) gIx)) gMinL) (stD 4 [.tup (bs.map T)]) [] = some ([.int (mnC bs 0), .int (mnC bs 1), .int (mnC bs 2)], []) := by
    have el := mLc_typed (t := .nm 2) (own := [2]) (tt := tYesD) (te := mL (mLc (mIS (mVar 0)) (.nm 3) [3] tYesD (m2 (mVar 3) (mVar 2) gIx)) gMinL) (ls := stD 4 [.tup (bs.map T)]) (fun i : Nat => D.int (i : Nat)) (List.range 3) (fun _ => true) (fun i : Nat => D.int (mnC bs i)) (mR1_three (hp := []) (fr := mCons (mC (.int 3)) mNil) rfl) (by rw [sizeLine_eq]; decide) rfl (fun i hi => ⟨[some (.tup (bs.map T)), none, some (.int (i : Nat)), none], rfl, rfl, fun _ => by
      have hi3 := List.mem_range.mp hi
      have el := mLc_typed (t := .nm 3) (own := [3]) (tt := tYesD) (te := m2 (mVar 3) (mVar 2) gIx) (ls := [some (.tup (bs.map T)), none, some (.int (i : Nat)), none]) T bs (fun _ => true) (fun l => D.int (l.getD i 0)) (mIS_tup (fa := mVar 0) (hp := []) (mVar_of rfl)) (by rw [sizeLine_eq]; omega) rfl (fun l hl => ⟨[some (.tup (bs.map T)), none, some (.int (i : Nat)), some (T l)], rfl, rfl, fun _ => by
        rw [m2_of (mVar_of (d := T l) rfl) (mVar_of (d := .int (i : Nat)) rfl)]
        exact gIx_T (h3 l hl) hi3⟩)
      refine (mL_of el).trans ?_
      rw [List.filter_eq_self.mpr (fun _ _ => rfl)]
      exact gMinL_mn hne i⟩)
    rw [List.filter_eq_self.mpr (fun _ _ => rfl)] at el
    exact el
  have s1 : sSet 1 (mNew (mLc (mR1 (mCons (mC (.int 3)) mNil)) (.nm 2) [2] tYesD (mL (mLc (mIS (mVar 0)) (.nm 3) [3] tYesD (m2 (mVar 3) (mVar 2) gIx)) gMinL))) (stD 4 [.tup (bs.map T)]) [] = some (.nx, [some (.tup (bs.map T)), some (.ref 0), none, none], [.lst [.int (mnC bs 0), .int (mnC bs 1), .int (mnC bs 2)]]) := (sSet_of (mNew_of e1)).trans rfl
  have el := mLc_typed (t := .nm 3) (own := [3]) (tt := tYesD) (te := mL (mLc (mR1 (mCons (mC (.int 3)) mNil)) (.nm 2) [2] tYesD (m2 (m2 (mVar 3) (mVar 2) gIx) (m2 (mVar 1) (mVar 2) gIx) gSub)) gTup) (ls := [some (.tup (bs.map T)), some (.ref 0), none, none]) T bs (fun _ => true) (fun l => T (mv (-(mnC bs 0)) (-(mnC bs 1)) (-(mnC bs 2)) l)) (mIS_tup (fa := mVar 0) (hp := [.lst [.int (mnC bs 0), .int (mnC bs 1), .int (mnC bs 2)]]) (mVar_of rfl)) (by rw [sizeLine_eq]; omega) rfl (fun l hl => ⟨[some (.tup (bs.map T)), some (.ref 0), none, some (T l)], rfl, rfl, fun _ => by
    obtain ⟨x, y, z, rfl⟩ := h3 l hl
    generalize mnC bs 0 = m0
    generalize mnC bs 1 = m1
    generalize mnC bs 2 = m2
    generalize D.tup (bs.map T) = tp
    kernel_rfl⟩)
  have er : m_home [.tup (bs.map T)] [] = some (.tup ((HM bs).map T), [.lst [.int (mnC bs 0), .int (mnC bs 1), .int (mnC bs 2)]]) := by
    show mDef 4 b_home _ _ = _
    rw [mDef_s]
    have eb : b_home (stD 4 [.tup (bs.map T)]) [] = some (.rt (.tup ((HM bs).map T)), [some (.tup (bs.map T)), some (.ref 0), none, none], [.lst [.int (mnC bs 0), .int (mnC bs 1), .int (mnC bs 2)]]) := by
      unfold b_home
      refine sSeq_of s1 ?_
      unfold b_home_1
      rw [sRet_s]
      have : mL (mLc (mIS (mVar 0)) (.nm 3) [3] tYesD (mL (mLc (mR1 (mCons (mC (.int 3)) mNil)) (.nm 2) [2] tYesD (m2 (m2 (mVar 3) (mVar 2) gIx) (m2 (mVar 1) (mVar 2) gIx) gSub)) gTup)) gTup [some (.tup (bs.map T)), some (.ref 0), none, none] [.lst [.int (mnC bs 0), .int (mnC bs 1), .int (mnC bs 2)]] = some (.tup ((HM bs).map T), [.lst [.int (mnC bs 0), .int (mnC bs 1), .int (mnC bs 2)]]) := by
        refine (mL_of el).trans ?_
        rw [List.filter_eq_self.mpr (fun _ _ => rfl), show (bs.map fun l => T (mv (-(mnC bs 0)) (-(mnC bs 1)) (-(mnC bs 2)) l)) = (HM bs).map T by unfold HM; rw [List.map_map]; rfl]
        rfl
      rw [this]
    rw [eb]
  exact cV_of (nrs_tTs bs) er (nr_tTs _)
@[simp] def b_third_direction_3 : AS :=
    (sRet (m2 (m2 (mC (.int 2)) (mVar 2) gMul) (m2 (mVar 4) (mC (.int 2)) gMod) gAdd))
@[simp] def b_third_direction_2 : AS :=
    sSeq (sSet 4 (m2 (m2 (m2 (mVar 0) (mC (.int 2)) gMod) (m2 (mVar 1) (mC (.int 2)) gMod) gAdd) (mAs (mCons (mVar 3) mNil) gInt) gAdd))
    b_third_direction_3
@[simp] def b_third_direction_1 : AS :=
    sSeq (sSet 3 (m2 (m2 (m2 (m2 (mVar 0) (mC (.int 2)) gDiv) (mC (.int 1)) gAdd) (mC (.int 3)) gMod) (m2 (mVar 1) (mC (.int 2)) gDiv) gNe))
    b_third_direction_2
def b_third_direction : AS :=
    sSeq (sSet 2 (m2 (m2 (mC (.int 3)) (m2 (mVar 0) (mC (.int 2)) gDiv) gSub) (m2 (mVar 1) (mC (.int 2)) gDiv) gSub))
    b_third_direction_1
def m_third_direction : List D → Hd → Option (D × Hd) := mDef 5 b_third_direction
def c_third_direction := cV m_third_direction
theorem con_third_direction : Cl c_third_direction m_third_direction := cl_cV _
def B1_spins : AS :=
    (sIf (mT (m2 (m2 (mVar 1) (mC (.int 2)) gDiv) (m2 (mVar 2) (mC (.int 2)) gDiv) gNe)) (sDrop (mMet isL (mVar 0) (mCons (mTup (mCons (mVar 1) (mCons (mVar 2) (mCons (mAs (mCons (mVar 1) (mCons (mVar 2) mNil)) (ar 2 c_third_direction)) mNil)))) mNil) gAppend)) sNext)
def B2_spins : AS :=
    (sForI (mR1 (mCons (mC k_DIRECTIONS) mNil)) (.nm 2) B1_spins)
@[simp] def b_spins_2 : AS :=
    (sRet (mVar 0))
@[simp] def b_spins_1 : AS :=
    sSeq (sForI (mR1 (mCons (mC k_DIRECTIONS) mNil)) (.nm 1) B2_spins)
    b_spins_2
def b_spins : AS :=
    sSeq (sSet 0 (mNew (mLst mNil)))
    b_spins_1
def m_spins : List D → Hd → Option (D × Hd) := mDef 3 b_spins
def c_spins := cN m_spins
theorem con_spins : Cl c_spins m_spins := cl_cN _
theorem spins_ok (hp : Hd) : c_spins [] hp = some (.ref hp.length, hp ++ [.lst (Ve.SP.map T)]) := rfl
def B1_spun_cube : AS :=
    (sStore (m2 (mVar 3) (m2 (mC (.int 1)) (m2 (mC (.int 2)) (m2 (mVar 4) (mC (.int 2)) gMod) gMul) gSub) gMul) (mVar 2) (m2 (mVar 4) (mC (.int 2)) gDiv))
def F1_spun_cube : AS := (sForI (mZip (mVar 0) (mVar 1)) (.tp ((.nm 3) :: ((.nm 4) :: []))) B1_spun_cube)
@[simp] def b_spun_cube_2 : AS :=
    (sRet (mAs (mCons (mVar 2) mNil) gTupV))
@[simp] def b_spun_cube_1 : AS :=
    sSeq F1_spun_cube
    b_spun_cube_2
def b_spun_cube : AS :=
    sSeq (sSet 2 (mNew (mLst (mCons (mC (.int 0)) (mCons (mC (.int 0)) (mCons (mC (.int 0)) mNil))))))
    b_spun_cube_1
def m_spun_cube : List D → Hd → Option (D × Hd) := mDef 5 b_spun_cube
def c_spun_cube := cV m_spun_cube
theorem con_spun_cube : Cl c_spun_cube m_spun_cube := cl_cV _
theorem spun_cube_ok (hp : Hd) {s : List Int} (hs : s ∈ Ve.SP) (x y z : Int) : c_spun_cube [T [x, y, z], T s] hp = some (T (spC s [x, y, z]), hp) := by
  have h6 : ∀ d ∈ s, 0 ≤ d ∧ d < 6 := fun d hd => by
    have := spMem hs hd
    simp at this
    omega
  have loop := sForI_rel (t := .tp ((.nm 3) :: ((.nm 4) :: []))) (b := B1_spun_cube) (gd := []) (fun p : Int × Int => D.tup [.int p.1, .int p.2]) (fun (m : List Int) ls hp => ∃ v3 v4, ls = [some (T [x, y, z]), some (T s), some (.ref 0), v3, v4] ∧ hp = [.lst (m.map D.int)] ∧ m.length = 3)
    (fun m p => m.set (p.2 / 2).toNat (p.1 * (1 - 2 * (p.2 % 2)))) (fi := mZip (mVar 0) (mVar 1)) (ls := [some (T [x, y, z]), some (T s), some (.ref 0), none, none]) (hp := [.lst ([0, 0, 0].map D.int)]) (mZip_T (mVar_of rfl) (mVar_of rfl)) (fun _ _ _ _ => rfl) [0, 0, 0] ⟨none, none, rfl, rfl, rfl⟩ (by
      rintro ⟨v, d⟩ hx m ls hp ⟨v3, v4, rfl, rfl, hm⟩
      have hd := h6 d (List.of_mem_zip hx).2
      have c1 : cMul 2 (d % 2) = true := cMul_of (by omega)
      have c2 : cMul v (1 - 2 * (d % 2)) = true := cMul_of (by omega)
      have c3 : cDiv d 2 = true := cDiv_of (by omega)
      have c4 := gSet_int (hp := [.lst (m.map D.int)]) (n := 0) (i := d / 2) (v := .int (v * (1 - 2 * (d % 2)))) rfl (by rw [List.length_map]; omega)
      refine ⟨_, _, _, by simp only [mVar_s, mC_s, m2_s, m1_s, mT_s, mNil_s, mCons_s, mAs_s, ar_s, mNew_s, mTup_s, mLst_s, sNext_s, sSeq_s, sDrop_s, sRet_s, sIf_s2, sSet_s, sAsg_s, sPar_s, sStore_s, gAdd_int, gSub_int, gLt_int, gLe_int, gGt_int, gGe_int, gNeg_int, gEq_int, gNe_int,
 mIfE_s2, mAnd_s2, mOr_s2, mNot_s, mAndV_s2, mOrV_s2, mNotV_s, mChain_s2, mChain3_s, mL_s, m2L_s, mMet_s, mExt_s, mExtO_s, mIsi_s, mSl_s, mPo_n, mPo_s, mCat_s, mCatOL_s, mCatLO_s, mCatOO_s, mLRg1_s, mLRg2_s, mTRg1_s, mTRg2_s, mRep_s, sAsgL_s, sPar3_s, sAug_s, sBrk_s, sCnt_s, sRetN_s, tYesD_s, mSorted_s, mSortedL_s, mIS_s, mIL_s, mList_s, sAsgM_s, tNm_s, tSub_s, tTp_s, tTps_nil, tTps_cons, mDict0_s, asg_nm, asg_tp, asg_tpT, asgs_nil, asgs_cons, mDef_s,
 List.getElem?_cons_zero, List.getElem?_cons_succ, List.set_cons_zero, List.set_cons_succ, List.length_cons, List.length_nil, List.cons_append, List.nil_append, List.map_cons, List.map_nil, if_true, if_false, reduceIte, reduceCtorEq, Bool.false_eq_true, Bool.true_eq_false, decide_eq_true_eq, decide_true, decide_false, Bool.not_true, Bool.not_false, Nat.reduceAdd, Nat.reduceLeDiff, Nat.reduceLT, Nat.reduceEqDiff, Int.reduceLT, Int.reduceLE, Int.reduceAdd, Int.reduceSub, Int.reduceMul, Int.reduceNeg, isL, onL, gAppend, gPop, Ve.gTup, sizeLine_eq]; rfl, .inl (by simp only [mVar_s, mC_s, m2_s, m1_s, mT_s, mNil_s, mCons_s, mAs_s, ar_s, mNew_s, mTup_s, mLst_s, sNext_s, sSeq_s, sDrop_s, sRet_s, sIf_s2, sSet_s, sAsg_s, sPar_s, sStore_s, gAdd_int, gSub_int, gLt_int, gLe_int, gGt_int, gGe_int, gNeg_int, gEq_int, gNe_int,
 mIfE_s2, mAnd_s2, mOr_s2, mNot_s, mAndV_s2, mOrV_s2, mNotV_s, mChain_s2, mChain3_s, mL_s, m2L_s, mMet_s, mExt_s, mExtO_s, mIsi_s, mSl_s, mPo_n, mPo_s, mCat_s, mCatOL_s, mCatLO_s, mCatOO_s, mLRg1_s, mLRg2_s, mTRg1_s, mTRg2_s, mRep_s, sAsgL_s, sPar3_s, sAug_s, sBrk_s, sCnt_s, sRetN_s, tYesD_s, mSorted_s, mSortedL_s, mIS_s, mIL_s, mList_s, sAsgM_s, tNm_s, tSub_s, tTp_s, tTps_nil, tTps_cons, mDict0_s, asg_nm, asg_tp, asg_tpT, asgs_nil, asgs_cons, mDef_s,
 List.getElem?_cons_zero, List.getElem?_cons_succ, List.set_cons_zero, List.set_cons_succ, List.length_cons, List.length_nil, List.cons_append, List.nil_append, List.map_cons, List.map_nil, if_true, if_false, reduceIte, reduceCtorEq, Bool.false_eq_true, Bool.true_eq_false, decide_eq_true_eq, decide_true, decide_false, Bool.not_true, Bool.not_false, Nat.reduceAdd, Nat.reduceLeDiff, Nat.reduceLT, Nat.reduceEqDiff, Int.reduceLT, Int.reduceLE, Int.reduceAdd, Int.reduceSub, Int.reduceMul, Int.reduceNeg, isL, onL, gAppend, gPop, Ve.gTup, sizeLine_eq, B1_spun_cube, gMod_int (show (0 : Int) < 2 by decide), gMul_int c1, gMul_int c2, gDiv_int c3, c4]; rfl), some (.int v), some (.int d), rfl, by rw [List.map_set], by rw [List.length_set]; exact hm⟩)
  obtain ⟨ls', hp', e, v3, v4, rfl, rfl, _⟩ := loop
  have em : m_spun_cube [T [x, y, z], T s] [] = some (T (spC s [x, y, z]), [.lst ((spC s [x, y, z]).map D.int)]) := by
    have e2 : F1_spun_cube [some (T [x, y, z]), some (T s), some (.ref 0), none, none] [.lst [.int 0, .int 0, .int 0]] = some (.nx, _, _) := e
    show mDef 5 b_spun_cube _ _ = _
    simp only [mVar_s, mC_s, m2_s, m1_s, mT_s, mNil_s, mCons_s, mAs_s, ar_s, mNew_s, mTup_s, mLst_s, sNext_s, sSeq_s, sDrop_s, sRet_s, sIf_s2, sSet_s, sAsg_s, sPar_s, sStore_s, gAdd_int, gSub_int, gLt_int, gLe_int, gGt_int, gGe_int, gNeg_int, gEq_int, gNe_int,
 mIfE_s2, mAnd_s2, mOr_s2, mNot_s, mAndV_s2, mOrV_s2, mNotV_s, mChain_s2, mChain3_s, mL_s, m2L_s, mMet_s, mExt_s, mExtO_s, mIsi_s, mSl_s, mPo_n, mPo_s, mCat_s, mCatOL_s, mCatLO_s, mCatOO_s, mLRg1_s, mLRg2_s, mTRg1_s, mTRg2_s, mRep_s, sAsgL_s, sPar3_s, sAug_s, sBrk_s, sCnt_s, sRetN_s, tYesD_s, mSorted_s, mSortedL_s, mIS_s, mIL_s, mList_s, sAsgM_s, tNm_s, tSub_s, tTp_s, tTps_nil, tTps_cons, mDict0_s, asg_nm, asg_tp, asg_tpT, asgs_nil, asgs_cons, mDef_s,
 List.getElem?_cons_zero, List.getElem?_cons_succ, List.set_cons_zero, List.set_cons_succ, List.length_cons, List.length_nil, List.cons_append, List.nil_append, List.map_cons, List.map_nil, if_true, if_false, reduceIte, reduceCtorEq, Bool.false_eq_true, Bool.true_eq_false, decide_eq_true_eq, decide_true, decide_false, Bool.not_true, Bool.not_false, Nat.reduceAdd, Nat.reduceLeDiff, Nat.reduceLT, Nat.reduceEqDiff, Int.reduceLT, Int.reduceLE, Int.reduceAdd, Int.reduceSub, Int.reduceMul, Int.reduceNeg, isL, onL, gAppend, gPop, Ve.gTup, sizeLine_eq, b_spun_cube_2, b_spun_cube_1, b_spun_cube, stD, List.length_cons, List.reduceReplicate, Nat.reduceSub, e2, gTupV, seqOfL, lstOf]
    rfl
  exact cV_of (nrs_cons (nr_T _) (nrs_cons (nr_T _) rfl)) em (nr_T _)
def E1_spun : AE :=
    (mAs (mCons (mVar 2) (mCons (mVar 1) mNil)) (ar 2 c_spun_cube))
def C1_spun : AA :=
    (mLc (mIS (mVar 0)) (.nm 2) [2] tYesD E1_spun)
def b_spun : AS :=
    (sRet (mAs (mCons (mL (mSortedL C1_spun) gTup) mNil) (ar 1 c_home)))
def m_spun : List D → Hd → Option (D × Hd) := mDef 3 b_spun
def c_spun := cV m_spun
theorem con_spun : Cl c_spun m_spun := cl_cV _
theorem spun_ok (hp : Hd) {s : List Int} (hs : s ∈ Ve.SP) (bs : List (List Int)) (h3 : Three bs) (hne : bs ≠ []) (hl : bs.length ≤ 30) : c_spun [.tup (bs.map T), T s] hp = some (.tup ((SPUN s bs).map T), hp) := by
  have h3s := three_sp hs h3
  have el : C1_spun [some (.tup (bs.map T)), some (T s), none] [] = some ((bs.map (spC s)).map T, []) := by
    have := mLc_typed (fi := mIS (mVar 0)) (t := .nm 2) (own := [2]) (tt := tYesD) (te := E1_spun) (ls := [some (.tup (bs.map T)), some (T s), none]) (hp := []) (hp1 := []) (gd := []) T bs (fun _ => true) (fun c => T (spC s c)) (mIS_tup (mVar_of rfl)) (by rw [sizeLine_eq]; omega) rfl (fun c hc => by
      obtain ⟨x, y, z, rfl⟩ := h3 c hc
      refine ⟨_, by simp only [mVar_s, mC_s, m2_s, m1_s, mT_s, mNil_s, mCons_s, mAs_s, ar_s, mNew_s, mTup_s, mLst_s, sNext_s, sSeq_s, sDrop_s, sRet_s, sIf_s2, sSet_s, sAsg_s, sPar_s, sStore_s, gAdd_int, gSub_int, gLt_int, gLe_int, gGt_int, gGe_int, gNeg_int, gEq_int, gNe_int,
 mIfE_s2, mAnd_s2, mOr_s2, mNot_s, mAndV_s2, mOrV_s2, mNotV_s, mChain_s2, mChain3_s, mL_s, m2L_s, mMet_s, mExt_s, mExtO_s, mIsi_s, mSl_s, mPo_n, mPo_s, mCat_s, mCatOL_s, mCatLO_s, mCatOO_s, mLRg1_s, mLRg2_s, mTRg1_s, mTRg2_s, mRep_s, sAsgL_s, sPar3_s, sAug_s, sBrk_s, sCnt_s, sRetN_s, tYesD_s, mSorted_s, mSortedL_s, mIS_s, mIL_s, mList_s, sAsgM_s, tNm_s, tSub_s, tTp_s, tTps_nil, tTps_cons, mDict0_s, asg_nm, asg_tp, asg_tpT, asgs_nil, asgs_cons, mDef_s,
 List.getElem?_cons_zero, List.getElem?_cons_succ, List.set_cons_zero, List.set_cons_succ, List.length_cons, List.length_nil, List.cons_append, List.nil_append, List.map_cons, List.map_nil, if_true, if_false, reduceIte, reduceCtorEq, Bool.false_eq_true, Bool.true_eq_false, decide_eq_true_eq, decide_true, decide_false, Bool.not_true, Bool.not_false, Nat.reduceAdd, Nat.reduceLeDiff, Nat.reduceLT, Nat.reduceEqDiff, Int.reduceLT, Int.reduceLE, Int.reduceAdd, Int.reduceSub, Int.reduceMul, Int.reduceNeg, isL, onL, gAppend, gPop, Ve.gTup, sizeLine_eq, wipeL]; rfl, rfl, fun _ => ?_⟩
      simp only [mVar_s, mC_s, m2_s, m1_s, mT_s, mNil_s, mCons_s, mAs_s, ar_s, mNew_s, mTup_s, mLst_s, sNext_s, sSeq_s, sDrop_s, sRet_s, sIf_s2, sSet_s, sAsg_s, sPar_s, sStore_s, gAdd_int, gSub_int, gLt_int, gLe_int, gGt_int, gGe_int, gNeg_int, gEq_int, gNe_int,
 mIfE_s2, mAnd_s2, mOr_s2, mNot_s, mAndV_s2, mOrV_s2, mNotV_s, mChain_s2, mChain3_s, mL_s, m2L_s, mMet_s, mExt_s, mExtO_s, mIsi_s, mSl_s, mPo_n, mPo_s, mCat_s, mCatOL_s, mCatLO_s, mCatOO_s, mLRg1_s, mLRg2_s, mTRg1_s, mTRg2_s, mRep_s, sAsgL_s, sPar3_s, sAug_s, sBrk_s, sCnt_s, sRetN_s, tYesD_s, mSorted_s, mSortedL_s, mIS_s, mIL_s, mList_s, sAsgM_s, tNm_s, tSub_s, tTp_s, tTps_nil, tTps_cons, mDict0_s, asg_nm, asg_tp, asg_tpT, asgs_nil, asgs_cons, mDef_s,
 List.getElem?_cons_zero, List.getElem?_cons_succ, List.set_cons_zero, List.set_cons_succ, List.length_cons, List.length_nil, List.cons_append, List.nil_append, List.map_cons, List.map_nil, if_true, if_false, reduceIte, reduceCtorEq, Bool.false_eq_true, Bool.true_eq_false, decide_eq_true_eq, decide_true, decide_false, Bool.not_true, Bool.not_false, Nat.reduceAdd, Nat.reduceLeDiff, Nat.reduceLT, Nat.reduceEqDiff, Int.reduceLT, Int.reduceLE, Int.reduceAdd, Int.reduceSub, Int.reduceMul, Int.reduceNeg, isL, onL, gAppend, gPop, Ve.gTup, sizeLine_eq, E1_spun, spun_cube_ok _ hs])
    rw [List.filter_eq_self.mpr fun _ _ => rfl] at this
    rw [List.map_map]
    exact this
  have eh := home_ok [] (sortC (bs.map (spC s))) (three_sort h3s) (fun e => hne (List.map_eq_nil_iff.mp (List.eq_nil_of_length_eq_zero (by rw [← (sortC_perm _).length_eq, e]; rfl)))) (by rw [(sortC_perm _).length_eq, List.length_map]; exact hl)
  have em : m_spun [.tup (bs.map T), T s] [] = some (.tup ((SPUN s bs).map T), []) := by
    show mDef 3 b_spun _ _ = _
    simp only [mVar_s, mC_s, m2_s, m1_s, mT_s, mNil_s, mCons_s, mAs_s, ar_s, mNew_s, mTup_s, mLst_s, sNext_s, sSeq_s, sDrop_s, sRet_s, sIf_s2, sSet_s, sAsg_s, sPar_s, sStore_s, gAdd_int, gSub_int, gLt_int, gLe_int, gGt_int, gGe_int, gNeg_int, gEq_int, gNe_int,
 mIfE_s2, mAnd_s2, mOr_s2, mNot_s, mAndV_s2, mOrV_s2, mNotV_s, mChain_s2, mChain3_s, mL_s, m2L_s, mMet_s, mExt_s, mExtO_s, mIsi_s, mSl_s, mPo_n, mPo_s, mCat_s, mCatOL_s, mCatLO_s, mCatOO_s, mLRg1_s, mLRg2_s, mTRg1_s, mTRg2_s, mRep_s, sAsgL_s, sPar3_s, sAug_s, sBrk_s, sCnt_s, sRetN_s, tYesD_s, mSorted_s, mSortedL_s, mIS_s, mIL_s, mList_s, sAsgM_s, tNm_s, tSub_s, tTp_s, tTps_nil, tTps_cons, mDict0_s, asg_nm, asg_tp, asg_tpT, asgs_nil, asgs_cons, mDef_s,
 List.getElem?_cons_zero, List.getElem?_cons_succ, List.set_cons_zero, List.set_cons_succ, List.length_cons, List.length_nil, List.cons_append, List.nil_append, List.map_cons, List.map_nil, if_true, if_false, reduceIte, reduceCtorEq, Bool.false_eq_true, Bool.true_eq_false, decide_eq_true_eq, decide_true, decide_false, Bool.not_true, Bool.not_false, Nat.reduceAdd, Nat.reduceLeDiff, Nat.reduceLT, Nat.reduceEqDiff, Int.reduceLT, Int.reduceLE, Int.reduceAdd, Int.reduceSub, Int.reduceMul, Int.reduceNeg, isL, onL, gAppend, gPop, Ve.gTup, sizeLine_eq, b_spun, stD, List.length_cons, List.reduceReplicate, Nat.reduceSub, el, gSrt_T (three_ne h3s), eh]
    rfl
  exact cV_of (nrs_cons (nr_tTs _) (nrs_cons (nr_T _) rfl)) em (nr_tTs _)
end Lw
namespace Lw
open PySem PySem.Spec L2 Ve
structure BodyT (B : Int) (cs : List (List Int)) : Prop extends BodyS B cs where
  spr : Spr B cs
theorem BodyT.mono {B B' : Int} {cs : List (List Int)} (h : BodyT B cs) (hb : B ≤ B') : BodyT B' cs := ⟨h.toBodyS.mono hb, fun l hl m hm i => Int.le_trans (h.spr l hl m hm i) hb⟩
theorem nb_near {x y z d : Int} (hd : 0 ≤ d ∧ d < 6) (i : Nat) : (nb [x, y, z] d).getD i 0 - [x, y, z].getD i 0 ≤ 1 ∧ [x, y, z].getD i 0 - (nb [x, y, z] d).getD i 0 ≤ 1 := by
  rcases six hd with rfl | rfl | rfl | rfl | rfl | rfl <;> rcases i with _ | _ | _ | i <;> simp [nb] <;> omega
theorem BodyT.add {B : Int} {cs : List (List Int)} (h : BodyT B cs) {a : List Int} (ha : a ∈ cs) {d : Int} (hd : 0 ≤ d ∧ d < 6) (hl : cs.length < 30) : BodyT (B + 1) (addC cs (nb a d)) := by
  refine ⟨h.toBodyS.add ha hd hl, ?_⟩
  obtain ⟨x, y, z, ea, _⟩ := h.cb a ha
  have near := fun i => nb_near (x := x) (y := y) (z := z) hd i
  rw [← ea] at near
  have h0 := h.spr a ha a ha 0
  unfold addC
  split
  · exact (h.mono (by omega)).spr
  · intro l hl' m hm' i
    obtain ⟨n1, n2⟩ := near i
    rcases List.mem_append.mp hl' with p | p
    · rcases List.mem_append.mp hm' with q | q
      · have := h.spr l p m q i
        omega
      · rw [List.mem_singleton.mp q]
        have := h.spr l p a ha i
        omega
    · rw [List.mem_singleton.mp p]
      rcases List.mem_append.mp hm' with q | q
      · have := h.spr a ha m q i
        omega
      · rw [List.mem_singleton.mp q]
        omega
def sprB (W : Int) (bs : List (List Int)) : Bool := bs.all fun l => bs.all fun m => (List.range 3).all fun i => decide (l.getD i 0 - m.getD i 0 ≤ W)
theorem bgs_spr : (BG.all fun bs => sprB 2 bs) = true := by decide +kernel
theorem begun_bodyT {bs : List (List Int)} (h : bs ∈ BG) : BodyT 2 bs := by
  have hb := begun_bodyS h
  refine ⟨hb, fun l hl m hm i => ?_⟩
  by_cases hi : i < 3
  · have := List.all_eq_true.mp bgs_spr bs h
    have := List.all_eq_true.mp (List.all_eq_true.mp (List.all_eq_true.mp this l hl) m hm) i (List.mem_range.mpr hi)
    exact of_decide_eq_true this
  · obtain ⟨x, y, z, rfl, _⟩ := hb.cb l hl
    obtain ⟨x', y', z', rfl, _⟩ := hb.cb m hm
    rcases i with _ | _ | _ | i
    · omega
    · omega
    · omega
    · simp
theorem spr_mv {W : Int} {cs : List (List Int)} (h : ∀ c ∈ cs, ∃ x y z, c = [x, y, z]) (s : Spr W cs) (hW : 0 ≤ W) (a b c : Int) : Spr W (sortC (cs.map (mv a b c))) := fun l hl m hm i => by
  obtain ⟨l0, h1, rfl⟩ := List.mem_map.mp ((sortC_perm _).mem_iff.mp hl)
  obtain ⟨m0, h2, rfl⟩ := List.mem_map.mp ((sortC_perm _).mem_iff.mp hm)
  have key := s l0 h1 m0 h2 i
  obtain ⟨x, y, z, rfl⟩ := h l0 h1
  obtain ⟨x', y', z', rfl⟩ := h m0 h2
  rcases i with _ | _ | _ | i <;> simp [mv] at key ⊢ <;> omega
def B1_L_begun : AS :=
    (sDrop (mExt (mVar 2) (mLc (mR1 (mCons (mC (.int 3)) mNil)) (.nm 6) [6] tYesD (mTup (mCons (mVar 3) (mCons (mVar 4) (mCons (mVar 6) mNil)))))))
def B2_L_begun : AS :=
    (sForI (mR1 (mCons (mC (.int 3)) mNil)) (.nm 4) B1_L_begun)
@[simp] def b_L_begun_7 : AS :=
    (sRet (mNew (mLc (mIS (mVar 2)) (.nm 5) [5] (mT (m2 (mC (.int 1)) (mVar 5) gIn)) (mVar 5))))
@[simp] def b_L_begun_6 : AS :=
    sSeq (sIf (mT (m2 (mVar 1) (mC (.int 6)) gEq)) (sRet (mVar 2)) sNext)
    b_L_begun_7
@[simp] def b_L_begun_5 : AS :=
    sSeq (sDrop (mMet isL (mVar 2) (mCons (mTup (mCons (mC (.int 1)) (mCons (mC (.int 1)) (mCons (mC (.int 1)) mNil)))) mNil) gRemove))
    b_L_begun_6
@[simp] def b_L_begun_4 : AS :=
    sSeq (sIf (mT (m2 (mVar 1) (mC (.int 5)) gEq)) (sRet (mNew (mLc (mIS (mVar 2)) (.nm 5) [5] (mAnd (mT (m2 (m2 (mVar 5) (mC (.int 2)) gIx) (mC (.int 0)) gEq)) (mT (m2 (mSl (mVar 5) none (some (mC (.int 2)))) (mTup (mCons (mC (.int 1)) (mCons (mC (.int 1)) mNil))) gNe))) (mVar 5)))) sNext)
    b_L_begun_5
@[simp] def b_L_begun_3 : AS :=
    sSeq (sForI (mR1 (mCons (mC (.int 3)) mNil)) (.nm 3) B2_L_begun)
    b_L_begun_4
@[simp] def b_L_begun_2 : AS :=
    sSeq (sSet 2 (mNew (mLst mNil)))
    b_L_begun_3
@[simp] def b_L_begun_1 : AS :=
    sSeq (sIf (mT (m2 (mVar 1) (mC (.int 5)) gLt)) (sRet (mNew (mLst (mCons (mTup (mCons (mC (.int 0)) (mCons (mC (.int 0)) (mCons (mC (.int 0)) mNil)))) mNil)))) sNext)
    b_L_begun_2
def b_L_begun : AS :=
    sSeq (sSet 1 (mAs (mCons (mVar 0) (mCons (mC (.int 8)) mNil)) (ar 2 c_L_take)))
    b_L_begun_1
def m_L_begun : List D → Hd → Option (D × Hd) := mDef 7 b_L_begun
def c_L_begun := c1N m_L_begun
theorem con_L_begun : Cl c_L_begun m_L_begun := cl_c1N _
def outN (x : Option (Fl × Ls × Hd)) : Option (Nat × O × Option O) := match x with
  | some (.rt (.ref (k + 1)), _, o' :: g) => some (k, o', g[k]?)
  | _ => none
theorem outN_some {f : AS} {n : Nat} {ds : List D} {hp : Hd} {k : Nat} {o' : O} {oo : Option O} (h : outN (f (stD n ds) hp) = some (k, o', oo)) : ∃ g : Hd, mDef n f ds hp = some (.ref (k + 1), o' :: g) ∧ g[k]? = oo := by
  rw [mDef_s]
  unfold outN at h
  split at h
  · rename_i e
    cases h
    rw [e]
    exact ⟨_, rfl, rfl⟩
  · cases h
def Lb (r : Int) : Ls := [some (.ref 0), some (.int r), none, none, none, none, none]
theorem beg0 (r : Int) (h : r < 5) (o' : O) : outN (b_L_begun_1 (Lb r) [o']) = some (0, o', some (.lst ((BG.getD 0 []).map T))) := by
  have : sIf (mT (m2 (mVar 1) (mC (.int 5)) gLt)) (sRet (mNew (mLst (mCons (mTup (mCons (mC (.int 0)) (mCons (mC (.int 0)) (mCons (mC (.int 0)) mNil)))) mNil)))) sNext (Lb r) [o'] = some (.rt (.ref 1), Lb r, [o', .lst ((BG.getD 0 []).map T)]) := by
    simp [Lb, h, sizeLine_eq]
    rfl
  unfold b_L_begun_1
  rw [sSeq_s, this]
  rfl
theorem beg5 (o' : O) : outN (b_L_begun_1 (Lb 5) [o']) = some (1, o', some (.lst ((BG.getD 1 []).map T))) := by kernel_rfl
theorem beg6 (o' : O) : outN (b_L_begun_1 (Lb 6) [o']) = some (0, o', some (.lst ((BG.getD 2 []).map T))) := by kernel_rfl
theorem beg7 (o' : O) : outN (b_L_begun_1 (Lb 7) [o']) = some (1, o', some (.lst ((BG.getD 3 []).map T))) := by kernel_rfl
theorem begun_run (N : Nat) (hN : N < 1000000) (o : O) (h : Hand N o) : ∃ (bs : List (List Int)) (k : Nat) (o' : O) (g : Hd), m_L_begun [.ref 0] [o] = some (.ref (k + 1), o' :: g) ∧ g[k]? = some (.lst (bs.map T)) ∧ Hand (N + 1) o' ∧ bs ∈ BG := by
  obtain ⟨r, o', e1, e2, e3, h'⟩ := take_ok N hN [o] 0 o rfl h 8 (by decide) (by decide)
  have e1 : c_L_take [.ref 0, .int 8] [o] = some (.int r, [o']) := e1
  have eb : b_L_begun (stD 7 [.ref 0]) [o] = b_L_begun_1 (Lb r) [o'] := by
    unfold b_L_begun
    refine sSeq_of (ls1 := Lb r) (hp1 := [o']) ?_ rfl
    simp [stD, e1, Lb]
  have fin : ∀ (k i : Nat), outN (b_L_begun_1 (Lb r) [o']) = some (k, o', some (.lst ((BG.getD i []).map T))) → BG.getD i [] ∈ BG → ∃ (bs : List (List Int)) (k : Nat) (o' : O) (g : Hd), m_L_begun [.ref 0] [o] = some (.ref (k + 1), o' :: g) ∧ g[k]? = some (.lst (bs.map T)) ∧ Hand (N + 1) o' ∧ bs ∈ BG := by
    intro k i e hi
    rw [← eb] at e
    obtain ⟨g, e4, e5⟩ := outN_some e
    exact ⟨_, k, o', g, e4, e5, h', hi⟩
  by_cases h5 : r < 5
  · exact fin 0 0 (beg0 r h5 o') (by decide)
  · have hr : r = 5 ∨ r = 6 ∨ r = 7 := by omega
    rcases hr with rfl | rfl | rfl
    · exact fin 1 1 (beg5 o') (by decide)
    · exact fin 0 2 (beg6 o') (by decide)
    · exact fin 1 3 (beg7 o') (by decide)
theorem begun_ok (N : Nat) (hN : N < 1000000) (hp : Hd) (n : Nat) (o : O) (e : hp[n]? = some o) (h : Hand N o) : ∃ (bs : List (List Int)) (o' : O), c_L_begun [.ref n] hp = some (.ref hp.length, hp.set n o' ++ [.lst (bs.map T)]) ∧ Hand (N + 1) o' ∧ bs ∈ BG := by
  obtain ⟨bs, k, o', g, e1, e2, h', hb⟩ := begun_run N hN o h
  refine ⟨bs, o', ?_, h', hb⟩
  have hn : (nrs [] && nrO o) = true := by rw [h.nr]; rfl
  have hn2 : (nrO o' && nrO (.lst (bs.map T))) = true := by rw [h'.nr, nrO_Ts]; rfl
  show c1N m_L_begun [.ref n] hp = _
  unfold c1N
  dsimp only
  rw [e]
  dsimp only
  rw [if_pos hn, e1]
  dsimp only
  rw [e2]
  dsimp only
  rw [if_pos hn2]
structure Gr (N : Nat) (cs : List (List Int)) (hp : Hd) : Prop where
  hand : ∃ o, hp[0]? = some o ∧ Hand N o
  dic : hp[2]? = some (.dic (Cd cs))
theorem Gr.app {N : Nat} {cs : List (List Int)} {hp l : Hd} (g : Gr N cs hp) : Gr N cs (hp ++ l) := by
  obtain ⟨⟨o, e, h⟩, d⟩ := g
  exact ⟨⟨o, hget_old e, h⟩, hget_old d⟩
theorem Gr.take {N : Nat} {cs : List (List Int)} {hp : Hd} (g : Gr N cs hp) (hN : N < 1000000) {many : Int} (h1 : 0 < many) (h2 : many < 1073741824) : ∃ r hp', c_L_take [.ref 0, .int many] hp = some (.int r, hp') ∧ 0 ≤ r ∧ r < many ∧ Gr (N + 1) cs hp' := by
  obtain ⟨⟨o, e, h⟩, d⟩ := g
  obtain ⟨r, o', e1, e2, e3, h'⟩ := take_ok N hN hp 0 o e h many h1 h2
  exact ⟨r, _, e1, e2, e3, ⟨o', hset_same e, h'⟩, hset_ne (by decide) d⟩
theorem Gr.pick {N : Nat} {cs : List (List Int)} {hp : Hd} (g : Gr N cs hp) (hN : N < 1000000) {xs : List D} (h0 : xs ≠ []) (h1 : xs.length < 1073741824) : ∃ (i : Nat) (hi : i < xs.length) (hp' : Hd), c_L_pick [.ref 0, .ref hp.length] (hp ++ [.lst xs]) = some (xs[i], hp') ∧ Gr (N + 1) cs hp' := by
  obtain ⟨⟨o, e, h⟩, d⟩ := g
  obtain ⟨i, hi, o', e1, h'⟩ := pick_ok N hN (hp ++ [.lst xs]) 0 hp.length (by have := hlt e; omega) o (hget_old e) h xs hget_new h0 h1
  exact ⟨i, hi, _, e1, ⟨o', hset_same (hget_old e), h'⟩, hset_ne (by decide) (hget_old d)⟩
@[simp] def B1_L_body_3 : AS :=
    (sIf (mT (m2 (mAs (mCons (mVar 2) mNil) gLen) (mC (.int 30)) gLt)) (sStore (mC (.bl true)) (mVar 2) (mVar 3)) (sSet 3 (m2 (mNew (mSorted (mVar 2))) (mC (.int 0)) gIx)))
@[simp] def B1_L_body_2 : AS :=
    sSeq (sSet 3 (mAs (mCons (mVar 3) (mCons (mVar 5) mNil)) (ar 2 c_L_beside)))
    B1_L_body_3
@[simp] def B1_L_body_1 : AS :=
    sSeq (sIf (mT (m2 (mAs (mCons (mVar 0) (mCons (mC (.int 3)) mNil)) (ar 2 c_L_take)) (mC (.int 0)) gGt)) (sSet 3 (mAs (mCons (mVar 0) (mCons (mNew (mSorted (mVar 2))) mNil)) (ar 2 c_L_pick))) sNext)
    B1_L_body_2
def B1_L_body : AS :=
    sSeq (sSet 5 (mAs (mCons (mVar 0) (mCons (mC (.int 6)) mNil)) (ar 2 c_L_take)))
    B1_L_body_1
@[simp] def b_L_body_5 : AS :=
    (sRet (mL (mSortedL (mLock (mVar 2) (mLc (mIK (mVar 2)) (.tp ((.nm 10) :: ((.nm 11) :: ((.nm 12) :: [])))) [10, 11, 12] tYesD (mTup (mCons (m2 (mVar 10) (mVar 6) gAdd) (mCons (m2 (mVar 11) (mVar 7) gAdd) (mCons (m2 (mVar 12) (mVar 8) gAdd) mNil))))))) gTup))
@[simp] def b_L_body_4 : AS :=
    sSeq (sAsgL ((.nm 6) :: ((.nm 7) :: ((.nm 8) :: []))) (mLc (mR1 (mCons (mC (.int 3)) mNil)) (.nm 4) [4] tYesD (mAs (mCons (mVar 0) (mCons (mNew (mLst (mCons (mC (.int 0)) (mCons (mC (.int 3)) (mCons (m1 (mC (.int 7)) gNeg) (mCons (mC (.int 60)) mNil)))))) mNil)) (ar 2 c_L_pick))))
    b_L_body_5
@[simp] def b_L_body_3 : AS :=
    sSeq (sForI (mR1 (mCons (mAs (mCons (mVar 0) (mCons (m2 (mVar 1) (mC (.int 1)) gAdd) mNil)) (ar 2 c_L_take)) mNil)) (.nm 4) B1_L_body)
    b_L_body_4
@[simp] def b_L_body_2 : AS :=
    sSeq (sIf (mT (m2 (mVar 3) (mVar 2) gNotIn)) (sSet 3 (m2 (mNew (mSorted (mVar 2))) (mC (.int 0)) gIx)) sNext)
    b_L_body_3
@[simp] def b_L_body_1 : AS :=
    sSeq (sSet 3 (mTup (mCons (mC (.int 0)) (mCons (mC (.int 0)) (mCons (mC (.int 1)) mNil)))))
    b_L_body_2
def b_L_body : AS :=
    sSeq (sSet 2 (mL (mLc (mIS (mAs (mCons (mVar 0) mNil) (ar 1 c_L_begun))) (.nm 9) [9] tYesD (mTup (mCons (mVar 9) (mCons (mC (.bl true)) mNil)))) gDictL))
    b_L_body_1
def m_L_body : List D → Hd → Option (D × Hd) := mDef 13 b_L_body
theorem bodyB_ok (N : Nat) (hN : N + 3 < 1000000) (ls : Ls) (hp : Hd) (cs : List (List Int)) (last : List Int) (B : Int) (hl : ls.length = 13) (h0 : ls[0]? = some (some (.ref 0))) (h2 : ls[2]? = some (some (.ref 2))) (h3 : ls[3]? = some (some (T last))) (g : Gr N cs hp) (hb : BodyT B cs) (hlast : last ∈ cs) :
    ∃ ls' hp' cs' last', B1_L_body ls hp = some (.nx, ls', hp') ∧ ls'.length = 13 ∧ ls'[0]? = some (some (.ref 0)) ∧ ls'[2]? = some (some (.ref 2)) ∧ ls'[3]? = some (some (T last')) ∧ Gr (N + 3) cs' hp' ∧ BodyT (B + 1) cs' ∧ last' ∈ cs' := by
  obtain ⟨d, hp1, e1, d0, d6, g1⟩ := g.take (by omega) (many := 6) (by decide) (by decide)
  obtain ⟨r, hp2, e2, r0, r3, g2⟩ := g1.take (by omega) (many := 3) (by decide) (by decide)
  have s1 : sSet 5 (mAs (mCons (mVar 0) (mCons (mC (.int 6)) mNil)) (ar 2 c_L_take)) ls hp = some (.nx, ls.set 5 (some (.int d)), hp1) := by
    simp [h0, e1]
  have k0 : (ls.set 5 (some (.int d)))[0]? = some (some (.ref 0)) := by rw [List.getElem?_set_ne (by decide)]; exact h0
  have k2 : (ls.set 5 (some (.int d)))[2]? = some (some (.ref 2)) := by rw [List.getElem?_set_ne (by decide)]; exact h2
  have k3 : (ls.set 5 (some (.int d)))[3]? = some (some (T last)) := by rw [List.getElem?_set_ne (by decide)]; exact h3
  have k5 : (ls.set 5 (some (.int d)))[5]? = some (some (.int d)) := List.getElem?_set_self (by omega)
  have st2 : ∃ last1 hp3, last1 ∈ cs ∧ Gr (N + 3) cs hp3 ∧ sIf (mT (m2 (mAs (mCons (mVar 0) (mCons (mC (.int 3)) mNil)) (ar 2 c_L_take)) (mC (.int 0)) gGt)) (sSet 3 (mAs (mCons (mVar 0) (mCons (mNew (mSorted (mVar 2))) mNil)) (ar 2 c_L_pick))) sNext (ls.set 5 (some (.int d))) hp1 = some (.nx, (ls.set 5 (some (.int d))).set 3 (some (T last1)), hp3) := by
    have et : mT (m2 (mAs (mCons (mVar 0) (mCons (mC (.int 3)) mNil)) (ar 2 c_L_take)) (mC (.int 0)) gGt) (ls.set 5 (some (.int d))) hp1 = some (decide (0 < r), hp2) := by
      simp [k0, e2]
    by_cases hr : 0 < r
    · have em : mSorted (mVar 2) (ls.set 5 (some (.int d))) hp2 = some ((sortC cs).map T, hp2) := mSorted_dic (mVar_of k2) g2.dic hb.nes
      have hne : (sortC cs).map T ≠ [] := by
        intro z
        have hl := congrArg List.length z
        rw [List.length_map, (sortC_perm cs).length_eq] at hl
        exact hb.ne (List.eq_nil_of_length_eq_zero hl)
      have hlen : ((sortC cs).map T).length < 1073741824 := by
        rw [List.length_map, (sortC_perm cs).length_eq]
        have := hb.few
        omega
      obtain ⟨i, hi, hp3, e3, g3⟩ := g2.pick (by omega) hne hlen
      rw [List.getElem_map] at e3
      have hi2 : i < (sortC cs).length := by simpa using hi
      refine ⟨(sortC cs)[i], hp3, (sortC_perm cs).mem_iff.mp (List.getElem_mem hi2), g3, ?_⟩
      rw [decide_eq_true hr] at et
      refine sIf_t et (sSet_of ?_)
      have en : mNew (mSorted (mVar 2)) (ls.set 5 (some (.int d))) hp2 = some (.ref hp2.length, hp2 ++ [.lst ((sortC cs).map T)]) := mNew_of em
      rw [mAs_s, mCons_s, mVar_of k0]
      dsimp only
      rw [mCons_s, en]
      dsimp only
      rw [mNil_s]
      dsimp only
      exact e3
    · refine ⟨last, hp2, hlast, ⟨?_, g2.dic⟩, ?_⟩
      · obtain ⟨o, eo, ho⟩ := g2.hand
        exact ⟨o, eo, ho.mono (by omega)⟩
      · rw [decide_eq_false hr] at et
        refine sIf_f et ?_
        rw [sNext_s]
        congr 3
        refine List.ext_getElem? fun j => ?_
        by_cases hj : j = 3
        · subst hj
          rw [k3, List.getElem?_set_self (by rw [List.length_set]; omega)]
        · rw [List.getElem?_set_ne (Ne.symm hj)]
  obtain ⟨last1, hp3, hl1, g3, s2⟩ := st2
  obtain ⟨x, y, z, ex, _⟩ := hb.cb last1 hl1
  have s3 : sSet 3 (mAs (mCons (mVar 3) (mCons (mVar 5) mNil)) (ar 2 c_L_beside)) ((ls.set 5 (some (.int d))).set 3 (some (T last1))) hp3 = some (.nx, ((ls.set 5 (some (.int d))).set 3 (some (T last1))).set 3 (some (T (nb last1 d))), hp3) := by
    refine sSet_of ?_
    have m3 : ((ls.set 5 (some (.int d))).set 3 (some (T last1)))[3]? = some (some (T last1)) := List.getElem?_set_self (by rw [List.length_set]; omega)
    have m5 : ((ls.set 5 (some (.int d))).set 3 (some (T last1)))[5]? = some (some (.int d)) := by rw [List.getElem?_set_ne (by decide)]; exact k5
    rw [mAs_s, mCons_s, mVar_of m3]
    dsimp only
    rw [mCons_s, mVar_of m5]
    dsimp only
    rw [mNil_s]
    dsimp only
    show c_L_beside [T last1, .int d] hp3 = _
    rw [ex]
    exact beside_ok hp3 x y z d ⟨d0, d6⟩
  have w0 : (((ls.set 5 (some (.int d))).set 3 (some (T last1))).set 3 (some (T (nb last1 d))))[0]? = some (some (.ref 0)) := by
    rw [List.getElem?_set_ne (by decide), List.getElem?_set_ne (by decide)]; exact k0
  have w2 : (((ls.set 5 (some (.int d))).set 3 (some (T last1))).set 3 (some (T (nb last1 d))))[2]? = some (some (.ref 2)) := by
    rw [List.getElem?_set_ne (by decide), List.getElem?_set_ne (by decide)]; exact k2
  have w3 : (((ls.set 5 (some (.int d))).set 3 (some (T last1))).set 3 (some (T (nb last1 d))))[3]? = some (some (T (nb last1 d))) := List.getElem?_set_self (by rw [List.length_set, List.length_set]; omega)
  have wl : (((ls.set 5 (some (.int d))).set 3 (some (T last1))).set 3 (some (T (nb last1 d)))).length = 13 := by rw [List.length_set, List.length_set, List.length_set]; exact hl
  generalize (((ls.set 5 (some (.int d))).set 3 (some (T last1))).set 3 (some (T (nb last1 d)))) = ls3 at s3 w0 w2 w3 wl
  have et : mT (m2 (mAs (mCons (mVar 2) mNil) gLen) (mC (.int 30)) gLt) ls3 hp3 = some (decide ((cs.length : Int) < 30), hp3) := by
    rw [mT_s, m2_s, mAs_s, mCons_s, mVar_of w2]
    dsimp only
    rw [mNil_s]
    dsimp only
    rw [gLen_dic g3.dic]
    rfl
  by_cases hlt30 : cs.length < 30
  · have hd2 : decide ((cs.length : Int) < 30) = true := decide_eq_true (by omega)
    rw [hd2] at et
    refine ⟨ls3, hp3.set 2 (.dic (Cd (addC cs (nb last1 d)))), addC cs (nb last1 d), nb last1 d, ?_, wl, w0, w2, w3, ⟨?_, hset_same g3.dic⟩, hb.add hl1 ⟨d0, d6⟩ hlt30, mem_addC⟩
    · unfold B1_L_body
      refine sSeq_of s1 ?_
      unfold B1_L_body_1
      refine sSeq_of s2 ?_
      unfold B1_L_body_2
      refine sSeq_of s3 ?_
      unfold B1_L_body_3
      refine sIf_t et ?_
      rw [sStore_s, mC_s]
      dsimp only
      rw [mVar_of w2]
      dsimp only
      rw [mVar_of w3]
      dsimp only
      have eg : gSet (.ref 2) (T (nb last1 d)) (.bl true) hp3 = some (hp3.set 2 (.dic (Cd (addC cs (nb last1 d))))) := by
        unfold gSet
        dsimp only
        rw [g3.dic]
        dsimp only
        have hz : (Cd cs).length < sizeLine := by
          unfold Cd
          rw [List.length_map, sizeLine_eq]
          omega
        rw [dKind_Cd, decide_eq_true hz, Bool.and_self, if_pos rfl, putD_Cd]
      rw [eg]
    · obtain ⟨o, eo, ho⟩ := g3.hand
      exact ⟨o, hset_ne (by decide) eo, ho⟩
  · have hd2 : decide ((cs.length : Int) < 30) = false := decide_eq_false (by omega)
    rw [hd2] at et
    have hpos : 0 < (sortC cs).length := by
      rw [(sortC_perm cs).length_eq]
      exact List.length_pos_iff.mpr hb.ne
    refine ⟨ls3.set 3 (some (T (sortC cs)[0])), hp3 ++ [.lst ((sortC cs).map T)], cs, (sortC cs)[0], ?_, by rw [List.length_set]; exact wl, by rw [List.getElem?_set_ne (by decide)]; exact w0, by rw [List.getElem?_set_ne (by decide)]; exact w2, List.getElem?_set_self (by omega), g3.app, hb.mono (by omega), (sortC_perm cs).mem_iff.mp (List.getElem_mem hpos)⟩
    unfold B1_L_body
    refine sSeq_of s1 ?_
    unfold B1_L_body_1
    refine sSeq_of s2 ?_
    unfold B1_L_body_2
    refine sSeq_of s3 ?_
    unfold B1_L_body_3
    refine sIf_f et (sSet_of ?_)
    have em : mSorted (mVar 2) ls3 hp3 = some ((sortC cs).map T, hp3) := mSorted_dic (mVar_of w2) g3.dic hb.nes
    rw [m2_s, mNew_of em]
    dsimp only
    rw [mC_s]
    dsimp only
    exact gIx_lst0 hget_new (by rw [List.getElem?_map, List.getElem?_eq_getElem hpos]; rfl)
theorem pick4 {N : Nat} {cs : List (List Int)} {hp : Hd} {ls : Ls} (g : Gr N cs hp) (hN : N < 1000000) (h0 : ls[0]? = some (some (.ref 0))) :
    ∃ v hp', mAs (mCons (mVar 0) (mCons (mNew (mLst (mCons (mC (.int 0)) (mCons (mC (.int 3)) (mCons (m1 (mC (.int 7)) gNeg) (mCons (mC (.int 60)) mNil)))))) mNil)) (ar 2 c_L_pick) ls hp = some (.int v, hp') ∧ v ∈ D4 ∧ Gr (N + 1) cs hp' := by
  obtain ⟨i, hi, hp', e, g'⟩ := g.pick hN (xs := D4.map D.int) (by decide) (by decide)
  rw [List.getElem_map] at e
  have hi2 : i < D4.length := by simpa using hi
  refine ⟨D4[i], hp', ?_, List.getElem_mem hi2, g'⟩
  have en : mNew (mLst (mCons (mC (.int 0)) (mCons (mC (.int 3)) (mCons (m1 (mC (.int 7)) gNeg) (mCons (mC (.int 60)) mNil))))) ls hp = some (.ref hp.length, hp ++ [.lst (D4.map D.int)]) := by
    simp [sizeLine_eq, D4]
  rw [call2_of (mVar_of h0) en]
  exact e
theorem lcGo_pick4 {cs : List (List Int)} {ls0 : Ls} (h0 : ls0[0]? = some (some (.ref 0))) : ∀ (items : List D) (N : Nat) (hp : Hd), Gr N cs hp → N + items.length < 1000000 →
    ∃ (vs : List Int) (hp' : Hd), lcGo (.nm 4) [] tYesD (mAs (mCons (mVar 0) (mCons (mNew (mLst (mCons (mC (.int 0)) (mCons (mC (.int 3)) (mCons (m1 (mC (.int 7)) gNeg) (mCons (mC (.int 60)) mNil)))))) mNil)) (ar 2 c_L_pick)) ls0 items hp = some (vs.map .int, hp') ∧ vs.length = items.length ∧ (∀ v ∈ vs, v ∈ D4) ∧ Gr (N + items.length) cs hp'
  | [], N, hp, g, _ => ⟨[], hp, rfl, rfl, (fun _ h => nomatch h), g⟩
  | x :: xs, N, hp, g, hN => by
    rw [List.length_cons] at hN
    obtain ⟨v, hp1, e1, hv, g1⟩ := pick4 (ls := ls0.set 4 (some x)) g (by omega) (by rw [List.getElem?_set_ne (by decide)]; exact h0)
    obtain ⟨vs, hp2, e2, hl, hvs, g2⟩ := lcGo_pick4 h0 xs (N + 1) hp1 g1 (by omega)
    refine ⟨v :: vs, hp2, ?_, by rw [List.length_cons, List.length_cons, hl], fun w hw => ?_, by rw [List.length_cons, show N + (xs.length + 1) = N + 1 + xs.length by omega]; exact g2⟩
    · simp only [lcGo, gdOk, if_true, Tg.asg, tYesD]
      rw [e1]
      dsimp only
      rw [e2]
      rfl
    · rcases List.mem_cons.mp hw with z | z
      · rw [z]; exact hv
      · exact hvs w z
theorem body_run (N : Nat) (hN : N + 200 < 1000000) (o : O) (h : Hand N o) (most : Nat) (hm : most ≤ 30) : ∃ (bs : List (List Int)) (o' : O) (g : Hd), m_L_body [.ref 0, .int most] [o] = some (.tup (bs.map T), o' :: g) ∧ Hand (N + 200) o' ∧ Bod (62 + most) bs ∧ Spr (2 + most) bs := by
  let ls0 : Ls := stD 13 [.ref 0, .int most]
  have hls0 : ls0 = [some (.ref 0), some (.int most), none, none, none, none, none, none, none, none, none, none, none] := rfl
  obtain ⟨b0, o1, e1, h1, hb0⟩ := begun_ok N (by omega) [o] 0 o rfl h
  have e1 : c_L_begun [.ref 0] [o] = some (.ref 1, [o1, .lst (b0.map T)]) := e1
  have B0 := begun_bodyT hb0
  have s1 : sSet 2 (mL (mLc (mIS (mAs (mCons (mVar 0) mNil) (ar 1 c_L_begun))) (.nm 9) [9] tYesD (mTup (mCons (mVar 9) (mCons (mC (.bl true)) mNil)))) gDictL) ls0 [o] = some (.nx, ls0.set 2 (some (.ref 2)), [o1, .lst (b0.map T), .dic (Cd b0)]) := by
    refine sSet_of ?_
    have ei : mIS (mAs (mCons (mVar 0) mNil) (ar 1 c_L_begun)) ls0 [o] = some (b0.map T, [(1, b0.map T)], [o1, .lst (b0.map T)]) := mIS_ref (by rw [call1_of (mVar_of rfl)]; exact e1) rfl
    have el := mLc_typed (t := .nm 9) (own := [9]) (tt := tYesD) (te := mTup (mCons (mVar 9) (mCons (mC (.bl true)) mNil))) T b0 (fun _ => true) (fun c => .tup [T c, .bl true]) ei (by have := B0.few; rw [sizeLine_eq]; omega) (gdOk1 rfl) (fun x hx => ⟨_, rfl, rfl, fun _ => by
      rw [mTup_s, mCons_s, mVar_of (d := T x) rfl]
      dsimp only
      rw [mCons_s, mC_s]
      dsimp only
      rw [mNil_s]
      dsimp only
      rw [if_pos (show [T x, D.bl true].length ≤ sizeLine by rw [sizeLine_eq]; exact (by decide : 2 ≤ 16777216))]⟩)
    rw [mL_of el, List.filter_eq_self.mpr (fun _ _ => rfl)]
    exact gDictL_Cd B0.nd
  have g0 : Gr (N + 1) b0 [o1, .lst (b0.map T), .dic (Cd b0)] := ⟨⟨o1, rfl, h1⟩, rfl⟩
  generalize hpa : ([o1, .lst (b0.map T), .dic (Cd b0)] : Hd) = hp1 at s1 g0
  have st2 : ∃ last hp2 ls2, last ∈ b0 ∧ Gr (N + 1) b0 hp2 ∧ ls2.length = 13 ∧ ls2[0]? = some (some (.ref 0)) ∧ ls2[1]? = some (some (.int most)) ∧ ls2[2]? = some (some (.ref 2)) ∧ ls2[3]? = some (some (T last)) ∧ b_L_body_1 (ls0.set 2 (some (.ref 2))) hp1 = b_L_body_3 ls2 hp2 := by
    have s2 : sSet 3 (mTup (mCons (mC (.int 0)) (mCons (mC (.int 0)) (mCons (mC (.int 1)) mNil)))) (ls0.set 2 (some (.ref 2))) hp1 = some (.nx, (ls0.set 2 (some (.ref 2))).set 3 (some (T [0, 0, 1])), hp1) := by
      refine sSet_of ?_
      simp [sizeLine_eq]
      rfl
    have et : mT (m2 (mVar 3) (mVar 2) gNotIn) ((ls0.set 2 (some (.ref 2))).set 3 (some (T [0, 0, 1]))) hp1 = some (!decide ([0, 0, 1] ∈ b0), hp1) := by
      refine mT_of ?_
      rw [m2_of (mVar_of (d := T [0, 0, 1]) rfl) (mVar_of (d := .ref 2) rfl)]
      exact gNotIn_dic g0.dic
    by_cases hin : [0, 0, 1] ∈ b0
    · rw [decide_eq_true hin] at et
      refine ⟨[0, 0, 1], hp1, (ls0.set 2 (some (.ref 2))).set 3 (some (T [0, 0, 1])), hin, g0, rfl, rfl, rfl, rfl, rfl, ?_⟩
      unfold b_L_body_1
      refine sSeq_of s2 ?_
      unfold b_L_body_2
      exact sSeq_of (sIf_f et rfl) rfl
    · rw [decide_eq_false hin] at et
      have hpos : 0 < (sortC b0).length := by
        rw [(sortC_perm b0).length_eq]
        exact List.length_pos_iff.mpr B0.ne
      refine ⟨(sortC b0)[0], hp1 ++ [.lst ((sortC b0).map T)], ((ls0.set 2 (some (.ref 2))).set 3 (some (T [0, 0, 1]))).set 3 (some (T (sortC b0)[0])), (sortC_perm b0).mem_iff.mp (List.getElem_mem hpos), g0.app, rfl, rfl, rfl, rfl, rfl, ?_⟩
      unfold b_L_body_1
      refine sSeq_of s2 ?_
      unfold b_L_body_2
      refine sSeq_of (sIf_t et (sSet_of ?_)) rfl
      have em : mSorted (mVar 2) ((ls0.set 2 (some (.ref 2))).set 3 (some (T [0, 0, 1]))) hp1 = some ((sortC b0).map T, hp1) := mSorted_dic (mVar_of rfl) g0.dic B0.nes
      rw [m2_s, mNew_of em]
      dsimp only
      rw [mC_s]
      dsimp only
      exact gIx_lst0 hget_new (by rw [List.getElem?_map, List.getElem?_eq_getElem hpos]; rfl)
  obtain ⟨last, hp2, ls2, hlast, g2, l13, k0, k1, k2, k3, e2⟩ := st2
  obtain ⟨r, hp3, e3, r0, r1, g3⟩ := g2.take (by omega) (many := (most : Int) + 1) (by omega) (by omega)
  have hr : r.toNat ≤ most := by omega
  have ei : mR1 (mCons (mAs (mCons (mVar 0) (mCons (m2 (mVar 1) (mC (.int 1)) gAdd) mNil)) (ar 2 c_L_take)) mNil) ls2 hp2 = some ((List.range r.toNat).map fun i => D.int (i : Nat), [], hp3) := by
    have ea : mAs (mCons (mVar 0) (mCons (m2 (mVar 1) (mC (.int 1)) gAdd) mNil)) (ar 2 c_L_take) ls2 hp2 = some (.int r, hp3) := by
      rw [call2_of (mVar_of k0) (b := .int ((most : Int) + 1)) (hp2 := hp2) (by rw [m2_of (mVar_of k1) mC_s]; rfl)]
      exact e3
    unfold mR1
    rw [mCons_s, ea]
    dsimp only
    rw [mNil_s]
    dsimp only
    rw [if_pos (by omega)]
  have loop := sFor_inv (t := .nm 4) (b := B1_L_body) (fun i ls hp => ls.length = 13 ∧ ls[0]? = some (some (.ref 0)) ∧ ls[2]? = some (some (.ref 2)) ∧ ∃ cs last, ls[3]? = some (some (T last)) ∧ Gr (N + 2 + 3 * i) cs hp ∧ BodyT (2 + i) cs ∧ last ∈ cs)
    ((List.range r.toNat).map fun i => D.int (i : Nat)) ls2 hp3 0 ⟨l13, k0, k2, b0, last, k3, g3, B0.mono (by omega), hlast⟩ (fun j x ls hp ej ⟨i1, i2, i3, cs, last, i4, i5, i6, i7⟩ => by
      have hj : j < r.toNat := by
        have := (List.getElem?_eq_some_iff.mp ej).1
        simpa using this
      obtain ⟨ls', hp', cs', last', q1, q2, q3, q4, q5, q6, q7, q8⟩ := bodyB_ok (N + 2 + 3 * (0 + j)) (by omega) (ls.set 4 (some x)) hp cs last (2 + ((0 + j : Nat) : Int)) (by rw [List.length_set]; exact i1) (by rw [List.getElem?_set_ne (by decide)]; exact i2) (by rw [List.getElem?_set_ne (by decide)]; exact i3) (by rw [List.getElem?_set_ne (by decide)]; exact i4) i5 i6 i7
      exact ⟨_, ls', hp', rfl, .inl q1, q2, q3, q4, cs', last', q5, q6, q7.mono (by omega), q8⟩)
  obtain ⟨ls4, hp4, e4, l4, m0, m2', cs, last4, m3, g4, B4, _⟩ := loop
  rw [List.length_map, List.length_range] at g4 B4
  have ew : mLc (mR1 (mCons (mC (.int 3)) mNil)) (.nm 4) [4] tYesD (mAs (mCons (mVar 0) (mCons (mNew (mLst (mCons (mC (.int 0)) (mCons (mC (.int 3)) (mCons (m1 (mC (.int 7)) gNeg) (mCons (mC (.int 60)) mNil)))))) mNil)) (ar 2 c_L_pick)) ls4 hp4 = lcGo (.nm 4) [] tYesD (mAs (mCons (mVar 0) (mCons (mNew (mLst (mCons (mC (.int 0)) (mCons (mC (.int 3)) (mCons (m1 (mC (.int 7)) gNeg) (mCons (mC (.int 60)) mNil)))))) mNil)) (ar 2 c_L_pick)) (ls4.set 4 none) [.int 0, .int 1, .int 2] hp4 := by
    unfold mLc
    have : mR1 (mCons (mC (.int 3)) mNil) ls4 hp4 = some ([.int 0, .int 1, .int 2], [], hp4) := rfl
    rw [this]
    dsimp only
    rw [if_pos (by rw [sizeLine_eq]; decide)]
    rfl
  obtain ⟨vs, hp5, e5, vl, vin, g5⟩ := lcGo_pick4 (cs := cs) (ls0 := ls4.set 4 none) (by rw [List.getElem?_set_ne (by decide)]; exact m0) [.int 0, .int 1, .int 2] _ hp4 g4 (by simp; omega)
  obtain ⟨a, b, c, rfl⟩ : ∃ a b c, vs = [a, b, c] := by
    rcases vs with _ | ⟨a, _ | ⟨b, _ | ⟨c, _ | ⟨d, r⟩⟩⟩⟩ <;> simp at vl
    exact ⟨a, b, c, rfl⟩
  have s5 : sAsgL ((.nm 6) :: ((.nm 7) :: ((.nm 8) :: []))) (mLc (mR1 (mCons (mC (.int 3)) mNil)) (.nm 4) [4] tYesD (mAs (mCons (mVar 0) (mCons (mNew (mLst (mCons (mC (.int 0)) (mCons (mC (.int 3)) (mCons (m1 (mC (.int 7)) gNeg) (mCons (mC (.int 60)) mNil)))))) mNil)) (ar 2 c_L_pick))) ls4 hp4 = some (.nx, ((ls4.set 6 (some (.int a))).set 7 (some (.int b))).set 8 (some (.int c)), hp5) := by
    unfold sAsgL
    rw [ew, e5]
    rfl
  generalize hls5 : ((ls4.set 6 (some (.int a))).set 7 (some (.int b))).set 8 (some (.int c)) = ls5 at s5
  have n2 : ls5[2]? = some (some (.ref 2)) := by
    rw [← hls5, List.getElem?_set_ne (by decide), List.getElem?_set_ne (by decide), List.getElem?_set_ne (by decide)]; exact m2'
  have n6 : ls5[6]? = some (some (.int a)) := by
    rw [← hls5, List.getElem?_set_ne (by decide), List.getElem?_set_ne (by decide)]; exact List.getElem?_set_self (by omega)
  have n7 : ls5[7]? = some (some (.int b)) := by
    rw [← hls5, List.getElem?_set_ne (by decide)]; exact List.getElem?_set_self (by rw [List.length_set]; omega)
  have n8 : ls5[8]? = some (some (.int c)) := by
    rw [← hls5]; exact List.getElem?_set_self (by rw [List.length_set, List.length_set]; omega)
  have n13 : ls5.length = 13 := by rw [← hls5, List.length_set, List.length_set, List.length_set]; exact l4
  have s6 : mLock (mVar 2) (mLc (mIK (mVar 2)) (.tp ((.nm 10) :: ((.nm 11) :: ((.nm 12) :: [])))) [10, 11, 12] tYesD (mTup (mCons (m2 (mVar 10) (mVar 6) gAdd) (mCons (m2 (mVar 11) (mVar 7) gAdd) (mCons (m2 (mVar 12) (mVar 8) gAdd) mNil))))) ls5 hp5 = some ((cs.map (mv a b c)).map T, hp5) := by
    have hk : (hp5.set 2 (.dicL (Cd cs)))[2]? = some (.dicL (Cd cs)) := hset_same g5.dic
    have ei : mIK (mVar 2) ls5 (hp5.set 2 (.dicL (Cd cs))) = some (cs.map T, [], hp5.set 2 (.dicL (Cd cs))) := by
      unfold mIK
      rw [mVar_of n2]
      dsimp only
      rw [hk]
      dsimp only
      unfold Cd
      rw [List.map_map]
      rfl
    have el := mLc_typed (t := .tp ((.nm 10) :: ((.nm 11) :: ((.nm 12) :: [])))) (own := [10, 11, 12]) (tt := tYesD) (te := mTup (mCons (m2 (mVar 10) (mVar 6) gAdd) (mCons (m2 (mVar 11) (mVar 7) gAdd) (mCons (m2 (mVar 12) (mVar 8) gAdd) mNil)))) T cs (fun _ => true) (fun l => T (mv a b c l)) ei (by have := B4.few; rw [sizeLine_eq]; omega) rfl (fun l hl => by
      obtain ⟨x, y, z, rfl, _⟩ := B4.cb l hl
      generalize hw : wipeL ls5 [10, 11, 12] = lw
      have lwl : lw.length = 13 := by rw [← hw, wipeL_length]; exact n13
      have w6 : lw[6]? = some (some (.int a)) := by
        rw [← hw]
        show (((ls5.set 12 none).set 11 none).set 10 none)[6]? = _
        rw [List.getElem?_set_ne (by decide), List.getElem?_set_ne (by decide), List.getElem?_set_ne (by decide)]; exact n6
      have w7 : lw[7]? = some (some (.int b)) := by
        rw [← hw]
        show (((ls5.set 12 none).set 11 none).set 10 none)[7]? = _
        rw [List.getElem?_set_ne (by decide), List.getElem?_set_ne (by decide), List.getElem?_set_ne (by decide)]; exact n7
      have w8 : lw[8]? = some (some (.int c)) := by
        rw [← hw]
        show (((ls5.set 12 none).set 11 none).set 10 none)[8]? = _
        rw [List.getElem?_set_ne (by decide), List.getElem?_set_ne (by decide), List.getElem?_set_ne (by decide)]; exact n8
      refine ⟨((lw.set 10 (some (.int x))).set 11 (some (.int y))).set 12 (some (.int z)), rfl, rfl, fun _ => ?_⟩
      have v6 : (((lw.set 10 (some (.int x))).set 11 (some (.int y))).set 12 (some (.int z)))[6]? = some (some (.int a)) := by
        rw [List.getElem?_set_ne (by decide), List.getElem?_set_ne (by decide), List.getElem?_set_ne (by decide)]; exact w6
      have v7 : (((lw.set 10 (some (.int x))).set 11 (some (.int y))).set 12 (some (.int z)))[7]? = some (some (.int b)) := by
        rw [List.getElem?_set_ne (by decide), List.getElem?_set_ne (by decide), List.getElem?_set_ne (by decide)]; exact w7
      have v8 : (((lw.set 10 (some (.int x))).set 11 (some (.int y))).set 12 (some (.int z)))[8]? = some (some (.int c)) := by
        rw [List.getElem?_set_ne (by decide), List.getElem?_set_ne (by decide), List.getElem?_set_ne (by decide)]; exact w8
      have v10 : (((lw.set 10 (some (.int x))).set 11 (some (.int y))).set 12 (some (.int z)))[10]? = some (some (.int x)) := by
        rw [List.getElem?_set_ne (by decide), List.getElem?_set_ne (by decide)]; exact List.getElem?_set_self (by omega)
      have v11 : (((lw.set 10 (some (.int x))).set 11 (some (.int y))).set 12 (some (.int z)))[11]? = some (some (.int y)) := by
        rw [List.getElem?_set_ne (by decide)]; exact List.getElem?_set_self (by rw [List.length_set]; omega)
      have v12 : (((lw.set 10 (some (.int x))).set 11 (some (.int y))).set 12 (some (.int z)))[12]? = some (some (.int z)) := List.getElem?_set_self (by rw [List.length_set, List.length_set]; omega)
      rw [mTup_s, mCons_s, m2_of (mVar_of v10) (mVar_of v6), gAdd_int]
      dsimp only
      rw [mCons_s, m2_of (mVar_of v11) (mVar_of v7), gAdd_int]
      dsimp only
      rw [mCons_s, m2_of (mVar_of v12) (mVar_of v8), gAdd_int]
      dsimp only
      rw [mNil_s]
      dsimp only
      rw [if_pos (show ([D.int (x + a), D.int (y + b), D.int (z + c)] : List D).length ≤ sizeLine by rw [sizeLine_eq]; exact (by decide : 3 ≤ 16777216))]
      rfl)
    unfold mLock
    rw [mVar_of n2]
    dsimp only
    rw [g5.dic]
    dsimp only
    rw [el]
    dsimp only
    unfold unl
    rw [hk]
    dsimp only
    rw [List.set_set, set_same g5.dic, List.filter_eq_self.mpr (fun _ _ => rfl), List.map_map]
    rfl
  have B6 := B4.told (a := a) (b := b) (c := c) (M := 60) (d4_in (vin a (by simp))) (d4_in (vin b (by simp))) (d4_in (vin c (by simp)))
  have nes : ∀ l ∈ cs.map (mv a b c), l ≠ [] := fun l hl => by
    obtain ⟨m, hm', rfl⟩ := List.mem_map.mp hl
    obtain ⟨x, y, z, rfl, _⟩ := B4.cb m hm'
    exact fun z => by cases z
  obtain ⟨o5, eo5, ho5⟩ := g5.hand
  obtain ⟨hh, gg, rfl⟩ : ∃ hh gg, hp5 = hh :: gg := by
    cases hp5 with
    | nil => cases eo5
    | cons hh gg => exact ⟨hh, gg, rfl⟩
  have : hh = o5 := by simpa using eo5
  subst this
  refine ⟨sortC (cs.map (mv a b c)), hh, gg, ?_, ho5.mono (by simp; omega), ⟨B6.srt, fun l hl => (B6.cb l hl).mono (by omega), B6.conn, B6.ne, B6.few⟩, fun l hl m hm i => Int.le_trans (spr_mv (fun c hc => by obtain ⟨x, y, z, e, _⟩ := B4.cb c hc; exact ⟨x, y, z, e⟩) B4.spr (by omega) a b c l hl m hm i) (by omega)⟩
  show mDef 13 b_L_body [.ref 0, .int most] [o] = _
  rw [mDef_s]
  have eb : b_L_body (stD 13 [.ref 0, .int most]) [o] = some (.rt (.tup ((sortC (cs.map (mv a b c))).map T)), ls5, hh :: gg) := by
    unfold b_L_body
    refine sSeq_of s1 ?_
    rw [e2]
    unfold b_L_body_3
    refine sSeq_of (by
      unfold sForI
      rw [ei]
      exact e4) ?_
    unfold b_L_body_4
    refine sSeq_of s5 ?_
    unfold b_L_body_5
    rw [sRet_s]
    have : mL (mSortedL (mLock (mVar 2) (mLc (mIK (mVar 2)) (.tp ((.nm 10) :: ((.nm 11) :: ((.nm 12) :: [])))) [10, 11, 12] tYesD (mTup (mCons (m2 (mVar 10) (mVar 6) gAdd) (mCons (m2 (mVar 11) (mVar 7) gAdd) (mCons (m2 (mVar 12) (mVar 8) gAdd) mNil))))))) gTup ls5 (hh :: gg) = some (.tup ((sortC (cs.map (mv a b c))).map T), hh :: gg) := by
      unfold mL mSortedL
      rw [s6]
      dsimp only
      rw [gSrt_T nes]
      rfl
    rw [this]
  rw [eb]
def c_L_body := c1V m_L_body
theorem con_L_body : Cl c_L_body m_L_body := cl_c1V _
theorem body_ok (N : Nat) (hN : N + 200 < 1000000) (hp : Hd) (n : Nat) (o : O) (e : hp[n]? = some o) (h : Hand N o) (most : Nat) (hm : most ≤ 30) : ∃ (bs : List (List Int)) (o' : O), c_L_body [.ref n, .int most] hp = some (.tup (bs.map T), hp.set n o') ∧ Hand (N + 200) o' ∧ Bod (62 + most) bs ∧ Spr (2 + most) bs := by
  obtain ⟨bs, o', g, e1, h', hb⟩ := body_run N hN o h most hm
  refine ⟨bs, o', ?_, h', hb⟩
  show c1V m_L_body [.ref n, .int most] hp = _
  unfold c1V
  dsimp only
  rw [e]
  dsimp only
  rw [if_pos (show (nrs [D.int most] && nrO o) = true by rw [h.nr]; rfl), e1]
  dsimp only
  rw [if_pos (show (nr (.tup (bs.map T)) && nrO o') = true by rw [h'.nr, nr_tTs]; rfl)]
end Lw
namespace Lw
open PySem PySem.Spec L2 Ve
def mtS (s : List Int) (i k : Nat) : Int := if s.getD k 0 / 2 = (i : Nat) then 1 - 2 * (s.getD k 0 % 2) else 0
theorem sp_mt {s : List Int} (hs : s ∈ Ve.SP) (x y z : Int) : spC s [x, y, z] = [mtS s 0 0 * x + mtS s 0 1 * y + mtS s 0 2 * z, mtS s 1 0 * x + mtS s 1 1 * y + mtS s 1 2 * z, mtS s 2 0 * x + mtS s 2 1 * y + mtS s 2 2 * z] := by
  simp only [Ve.SP, List.mem_cons, List.not_mem_nil, or_false] at hs
  rcases hs with rfl | rfl | rfl | rfl | rfl | rfl | rfl | rfl | rfl | rfl | rfl | rfl | rfl | rfl | rfl | rfl | rfl | rfl | rfl | rfl | rfl | rfl | rfl | rfl <;> simp [spC, mtS]
def cmpB (s t : List Int) : Bool := Ve.SP.contains (bth t s) && (List.range 3).all fun i => (List.range 3).all fun k => mtS t i 0 * mtS s 0 k + mtS t i 1 * mtS s 1 k + mtS t i 2 * mtS s 2 k == mtS (bth t s) i k
theorem cmp_all : (Ve.SP.all fun s => Ve.SP.all fun t => cmpB s t) = true := by decide +kernel
theorem cmp_at {s t : List Int} (hs : s ∈ Ve.SP) (ht : t ∈ Ve.SP) : bth t s ∈ Ve.SP ∧ ∀ i k, i < 3 → k < 3 → mtS (bth t s) i k = mtS t i 0 * mtS s 0 k + mtS t i 1 * mtS s 1 k + mtS t i 2 * mtS s 2 k := by
  have h := List.all_eq_true.mp (List.all_eq_true.mp cmp_all s hs) t ht
  unfold cmpB at h
  rw [Bool.and_eq_true] at h
  refine ⟨by simpa using h.1, fun i k hi hk => ?_⟩
  have := List.all_eq_true.mp (List.all_eq_true.mp h.2 i (List.mem_range.mpr hi)) k (List.mem_range.mpr hk)
  exact (beq_iff_eq.mp this).symm
theorem sp_cmp {s t : List Int} (hs : s ∈ Ve.SP) (ht : t ∈ Ve.SP) (x y z : Int) : spC t (spC s [x, y, z]) = spC (bth t s) [x, y, z] := by
  obtain ⟨h1, h2⟩ := cmp_at hs ht
  rw [sp_mt hs, sp_mt ht, sp_mt h1, h2 0 0 (by decide) (by decide), h2 0 1 (by decide) (by decide), h2 0 2 (by decide) (by decide), h2 1 0 (by decide) (by decide), h2 1 1 (by decide) (by decide), h2 1 2 (by decide) (by decide), h2 2 0 (by decide) (by decide), h2 2 1 (by decide) (by decide), h2 2 2 (by decide) (by decide)]
  congr 1
  · grind
  · congr 1
    · grind
    · congr 1
      grind
theorem bth_onto : (Ve.SP.all fun s => Ve.SP.all fun u => Ve.SP.any fun t => bth t s == u) = true := by decide +kernel
theorem bth_ex {s u : List Int} (hs : s ∈ Ve.SP) (hu : u ∈ Ve.SP) : ∃ t ∈ Ve.SP, bth t s = u := by
  have h := List.all_eq_true.mp (List.all_eq_true.mp bth_onto s hs) u hu
  obtain ⟨t, ht, e⟩ := List.any_eq_true.mp h
  exact ⟨t, ht, beq_iff_eq.mp e⟩
theorem SPUN_perm {s : List Int} {bs cs : List (List Int)} (h : bs.Perm cs) : SPUN s bs = SPUN s cs := by
  unfold SPUN
  rw [sortC_eq_of_perm (h.map (spC s))]
theorem map_mv_sp {t : List Int} (ht : t ∈ Ve.SP) {ys : List (List Int)} (hy : Three ys) (a b c : Int) : (ys.map (mv a b c)).map (spC t) = (ys.map (spC t)).map (mv ((spC t [a, b, c]).getD 0 0) ((spC t [a, b, c]).getD 1 0) ((spC t [a, b, c]).getD 2 0)) := by
  rw [List.map_map, List.map_map]
  refine List.map_congr_left fun l hl => ?_
  obtain ⟨x, y, z, rfl⟩ := hy l hl
  exact sp_mv ht _ _ _ x y z
theorem SPUN_mv {t : List Int} (ht : t ∈ Ve.SP) {ys : List (List Int)} (hy : Three ys) (hne : ys ≠ []) (a b c : Int) : SPUN t (ys.map (mv a b c)) = SPUN t ys := by
  unfold SPUN
  have h3 := three_sp ht hy
  rw [map_mv_sp ht hy, sortC_mv h3, HM_mv (three_sort h3) fun e => hne (List.map_eq_nil_iff.mp (List.eq_nil_of_length_eq_zero (by rw [← (sortC_perm _).length_eq, e]; rfl)))]
theorem SPUN_HM {t : List Int} (ht : t ∈ Ve.SP) {ys : List (List Int)} (hy : Three ys) (hne : ys ≠ []) : SPUN t (HM ys) = SPUN t ys := SPUN_mv ht hy hne _ _ _
theorem SPUN_cmp {s t : List Int} (hs : s ∈ Ve.SP) (ht : t ∈ Ve.SP) {bs : List (List Int)} (h3 : Three bs) (hne : bs ≠ []) : SPUN t (SPUN s bs) = SPUN (bth t s) bs := by
  have h3s := three_sp hs h3
  have e : SPUN s bs = HM (sortC (bs.map (spC s))) := rfl
  have ne : sortC (bs.map (spC s)) ≠ [] := fun e => hne (List.map_eq_nil_iff.mp (List.eq_nil_of_length_eq_zero (by rw [← (sortC_perm _).length_eq, e]; rfl)))
  rw [e, SPUN_HM ht (three_sort h3s) ne, SPUN_perm (sortC_perm _)]
  unfold SPUN
  congr 2
  rw [List.map_map]
  refine List.map_congr_left fun l hl => ?_
  obtain ⟨x, y, z, rfl⟩ := h3 l hl
  exact sp_cmp hs ht x y z
def CLS (bs : List (List Int)) : List (List (List Int)) := Ve.SP.map fun s => SPUN s bs
theorem CLS_ne (bs : List (List Int)) : CLS bs ≠ [] := by
  intro h
  exact absurd (List.map_eq_nil_iff.mp h) (by decide)
theorem CLS_mv {ys : List (List Int)} (hy : Three ys) (hne : ys ≠ []) (a b c : Int) : CLS (ys.map (mv a b c)) = CLS ys := List.map_congr_left fun _ hs => SPUN_mv hs hy hne a b c
theorem CLS_HM {ys : List (List Int)} (hy : Three ys) (hne : ys ≠ []) : CLS (HM ys) = CLS ys := CLS_mv hy hne _ _ _
theorem CLS_spun {s : List Int} (hs : s ∈ Ve.SP) {bs : List (List Int)} (h3 : Three bs) (hne : bs ≠ []) (k : List (List Int)) : k ∈ CLS (SPUN s bs) ↔ k ∈ CLS bs := by
  unfold CLS
  rw [List.mem_map, List.mem_map]
  constructor
  · rintro ⟨t, ht, rfl⟩
    exact ⟨_, (cmp_at hs ht).1, (SPUN_cmp hs ht h3 hne).symm⟩
  · rintro ⟨u, hu, rfl⟩
    obtain ⟨t, ht, e⟩ := bth_ex hs hu
    exact ⟨t, ht, by rw [SPUN_cmp hs ht h3 hne, e]⟩
theorem minT_CLS_spun {s : List Int} (hs : s ∈ Ve.SP) {bs : List (List Int)} (h3 : Three bs) (hne : bs ≠ []) : minT (CLS (SPUN s bs)) = minT (CLS bs) := minT_same (CLS_ne _) (CLS_spun hs h3 hne)
theorem minT_mem {l : List (List (List Int))} (h : l ≠ []) : minT l ∈ l := by
  cases l with
  | nil => exact absurd rfl h
  | cons b bs =>
    show ofT2 (PySem.W.minOf (toT2 b) (bs.map toT2)) ∈ _
    have := minOf_mem (toT2 b) (bs.map toT2)
    rw [← List.map_cons] at this
    obtain ⟨c, hc, e⟩ := List.mem_map.mp this
    rw [← e, of_to]
    exact hc
theorem minT_le {l : List (List (List Int))} {c : List (List Int)} (h : c ∈ l) : leT2 (minT l) c = true := by
  cases l with
  | nil => cases h
  | cons b bs =>
    have := minOf_le tot2 (toT2 b) (bs.map toT2) (toT2 c) (by rw [← List.map_cons]; exact List.mem_map_of_mem h)
    show leT2 (ofT2 (PySem.W.minOf (toT2 b) (bs.map toT2))) c = true
    unfold leT2
    rw [to_of, this]
    rfl
theorem sortT_first {l : List (List (List Int))} (h : l ≠ []) : (sortT l)[0]? = some (minT l) := by
  have pm := sortT_perm l
  have so := sortT_sorted l
  cases e : sortT l with
  | nil =>
    rw [e] at pm
    exact absurd (List.Perm.nil_eq pm).symm h
  | cons b r =>
    rw [e] at pm so
    have h1 : leT2 (minT l) b = true := minT_le (pm.mem_iff.mp List.mem_cons_self)
    have h2 : leT2 b (minT l) = true := by
      rcases List.mem_cons.mp (pm.mem_iff.mpr (minT_mem h)) with z | z
      · rw [z]
        have := leT2_total b b
        rwa [Bool.or_self] at this
      · exact (List.pairwise_cons.mp so).1 _ z
    rw [List.getElem?_cons_zero, leT2_anti h1 h2]
theorem sp_one : Ve.SP.contains [0, 2, 4] = true := by decide
structure Ris (bs : List (List Int)) : Prop where
  three : Three bs
  srt : bs.Pairwise (· < ·)
  ne : bs ≠ []
  few : bs.length ≤ 30
theorem Ris.sort {bs : List (List Int)} (h : Ris bs) : sortC bs = bs := sortC_self (h.srt.imp fun h => List.le_of_lt h)
theorem Ris.one {bs : List (List Int)} (h : Ris bs) : SPUN [0, 2, 4] bs = HM bs := by
  unfold SPUN
  have : bs.map (spC [0, 2, 4]) = bs := by
    conv => rhs; rw [← List.map_id bs]
    refine List.map_congr_left fun l hl => ?_
    obtain ⟨x, y, z, rfl⟩ := h.three l hl
    exact sp_id x y z
  rw [this, h.sort]
theorem Ris.home {bs : List (List Int)} (h : Ris bs) : sortC (HM bs) = HM bs := by
  rw [← HM_sort h.three, h.sort]
theorem ris_bod {B : Int} {bs : List (List Int)} (h : Bod B bs) : Ris bs := ⟨three_of h.cb, h.srt, h.ne, h.few⟩
theorem least_iff {bs cs : List (List Int)} (hb : Ris bs) (hc : Ris cs) : minT (CLS cs) = minT (CLS bs) ↔ HM cs ∈ CLS bs := by
  constructor
  · intro e
    have h1 := minT_mem (CLS_ne cs)
    have h2 := minT_mem (CLS_ne bs)
    rw [e] at h1
    obtain ⟨t, ht, e1⟩ := List.mem_map.mp h1
    obtain ⟨s, hs, e2⟩ := List.mem_map.mp h2
    obtain ⟨u, hu, eu⟩ := bth_ex ht (by simpa using sp_one : [0, 2, 4] ∈ Ve.SP)
    have e3 : HM cs = SPUN (bth u s) bs := by
      rw [← SPUN_cmp hs hu hb.three hb.ne, e2, ← e1, SPUN_cmp ht hu hc.three hc.ne, eu, hc.one]
    rw [e3]
    exact List.mem_map.mpr ⟨_, (cmp_at hs hu).1, rfl⟩
  · intro h
    obtain ⟨s, hs, e⟩ := List.mem_map.mp h
    rw [← CLS_HM hc.three hc.ne, ← e, minT_CLS_spun hs hb.three hb.ne]
theorem SPUN_ris {s : List Int} (hs : s ∈ Ve.SP) {bs : List (List Int)} (h : Ris bs) : Ris (SPUN s bs) := by
  have h3 := three_sp hs h.three
  have pm := sortC_perm (bs.map (spC s))
  have nd : (bs.map (spC s)).Nodup := by
    refine List.pairwise_map.mpr (List.Pairwise.imp_of_mem (fun {l m} hl hm hne e => hne ?_) (nodup_of_lt h.srt))
    obtain ⟨x, y, z, rfl⟩ := h.three l hl
    obtain ⟨x', y', z', rfl⟩ := h.three m hm
    obtain ⟨t, ht, et⟩ := bth_ex hs (by simpa using sp_one : [0, 2, 4] ∈ Ve.SP)
    have := congrArg (spC t) e
    rw [sp_cmp hs ht, sp_cmp hs ht, et, sp_id, sp_id] at this
    exact this
  have lt : (sortC (bs.map (spC s))).Pairwise (· < ·) := (List.Pairwise.and (sortC_sorted _) (pm.nodup_iff.mpr nd)).imp fun ⟨h1, h2⟩ => lt_of h1 h2
  have h3s := three_sort h3
  refine ⟨three_HM h3s, ?_, fun e => ?_, ?_⟩
  · show ((sortC (bs.map (spC s))).map _).Pairwise _
    rw [List.pairwise_map]
    refine lt.imp_of_mem fun {l m} hl hm hlt => ?_
    obtain ⟨x, y, z, rfl⟩ := h3s l hl
    obtain ⟨x', y', z', rfl⟩ := h3s m hm
    refine lt_of (mv_le _ _ _ _ _ _ _ _ _ (List.le_of_lt hlt)) fun e => ?_
    simp only [mv, List.cons.injEq, and_true] at e
    have : ([x, y, z] : List Int) = [x', y', z'] := by
      congr 1
      · omega
      · congr 1
        · omega
        · congr 1
          omega
    rw [this] at hlt
    exact absurd hlt (List.lt_irrefl _)
  · have := congrArg List.length e
    unfold SPUN HM at this
    rw [List.length_map, (sortC_perm _).length_eq, List.length_map] at this
    exact h.ne (List.eq_nil_of_length_eq_zero this)
  · unfold SPUN HM
    rw [List.length_map, (sortC_perm _).length_eq, List.length_map]
    exact h.few
end Lw
namespace Lw
open PySem PySem.Spec L2 Ve
theorem gSrtO_TT {hp : Hd} {n : Nat} {L : List (List (List Int))} (e : hp[n]? = some (.lst (L.map TT))) (h : ∀ b ∈ L, b ≠ []) : gSrtO (.ref n) hp = some ((sortT L).map TT, hp) := by
  have e2 : seqOfL (.ref n) hp = some (L.map TT) := lstOf_ref e
  unfold gSrtO
  rw [e2]
  exact gSrt_TT h
def E1_least_body : AE :=
    (mAs (mCons (mVar 0) (mCons (mVar 1) mNil)) (ar 2 c_spun))
def C1_least_body : AA :=
    (mLc (mIS (mAs mNil (ar 0 c_spins))) (.nm 1) [1] tYesD E1_least_body)
def b_least_body : AS :=
    (sRet (mL C1_least_body (gBestL false)))
def m_least_body : List D → Hd → Option (D × Hd) := mDef 2 b_least_body
def c_least_body := cV m_least_body
theorem con_least_body : Cl c_least_body m_least_body := cl_cV _
theorem least_ok (hp : Hd) {bs : List (List Int)} (h : Ris bs) : c_least_body [.tup (bs.map T)] hp = some (TT (minT (CLS bs)), hp) := by
  have el : C1_least_body [some (.tup (bs.map T)), none] [] = some ((CLS bs).map TT, [.lst (Ve.SP.map T)]) := by
    have := mLc_typed (fi := mIS (mAs mNil (ar 0 c_spins))) (t := .nm 1) (own := [1]) (tt := tYesD) (te := E1_least_body) (ls := [some (.tup (bs.map T)), none]) (hp := []) (hp1 := [.lst (Ve.SP.map T)]) T Ve.SP (fun _ => true) (fun s => TT (SPUN s bs)) (mIS_ref (n := 0) (call_of nil_of rfl (spins_ok [])) rfl) (by decide) (gdOk1 rfl) (fun s hs => ⟨_, asg_nm, rfl, fun _ => call_of (cons_of (mVar_of rfl) (cons_of (mVar_of rfl) nil_of)) rfl (spun_ok _ hs bs h.three h.ne h.few)⟩)
    rw [List.filter_eq_self.mpr fun _ _ => rfl] at this
    rw [CLS, List.map_map]
    exact this
  exact cV_of (nrs_tTs _) (def_of (ret_of ((mL_of el).trans (gBestL_TT (CLS_ne bs))))) (nr_TT _)
theorem pick_tup (N : Nat) (hN : N < 1000000) (hp : Hd) (n : Nat) (o : O) (e : hp[n]? = some o) (h : Hand N o) (xs : List D) (h0 : xs ≠ []) (h1 : xs.length < 1073741824) :
    ∃ (i : Nat) (hi : i < xs.length) (o' : O), c_L_pick [.ref n, .tup xs] hp = some (xs[i], hp.set n o') ∧ Hand (N + 1) o' := by
  have hl : 0 < xs.length := List.length_pos_iff.mpr h0
  obtain ⟨r, o', e1, e2, e3, h'⟩ := take_ok N hN hp n o e h (xs.length : Int) (by omega) (by omega)
  have hr : r.toNat < xs.length := by omega
  refine ⟨r.toNat, hr, o', ?_, h'⟩
  have hix : atI xs r = some xs[r.toNat] := by
    have := atI_nat (xs := xs) (j := r.toNat) (List.getElem?_eq_getElem hr)
    rwa [Int.toNat_of_nonneg e2] at this
  simp [c_L_pick, m_L_pick, b_L_pick, stD, gLen, e1, gIx, hix]
theorem tup_ref {hp : Hd} {q : Nat} {ds : List D} (g : hp[q]? = some (.lst ds)) : gTupV [.ref q] hp = some (.tup ds, hp) := by
  show (match seqOfL (.ref q) hp with
    | some ds => some (D.tup ds, hp)
    | none => none) = _
  have : seqOfL (.ref q) hp = some ds := by
    unfold seqOfL lstOf
    simp only [g]
  rw [this]
def mir3 (c : List Int) : List Int := match c with
  | [x, y, z] => [-x, y, z]
  | _ => c
theorem mir3_ris {bs : List (List Int)} (h : Ris bs) : Ris (sortC (bs.map mir3)) := by
  have pm := sortC_perm (bs.map mir3)
  have nd : (bs.map mir3).Nodup := by
    refine List.pairwise_map.mpr (List.Pairwise.imp_of_mem (fun {l m} hl hm hne e => hne ?_) (nodup_of_lt h.srt))
    obtain ⟨x, y, z, rfl⟩ := h.three l hl
    obtain ⟨x', y', z', rfl⟩ := h.three m hm
    simp only [mir3, List.cons.injEq, and_true] at e
    congr 1
    · omega
    · congr 1
      · omega
      · congr 1
        omega
  have lt : (sortC (bs.map mir3)).Pairwise (· < ·) := (List.Pairwise.and (sortC_sorted _) (pm.nodup_iff.mpr nd)).imp fun ⟨h1, h2⟩ => lt_of h1 h2
  refine ⟨fun l hl => ?_, lt, fun e => ?_, by rw [pm.length_eq, List.length_map]; exact h.few⟩
  · obtain ⟨m, hm, rfl⟩ := List.mem_map.mp (pm.mem_iff.mp hl)
    obtain ⟨x, y, z, rfl⟩ := h.three m hm
    exact ⟨_, _, _, rfl⟩
  · have := pm.length_eq
    rw [e, List.length_map] at this
    exact h.ne (List.eq_nil_of_length_eq_zero this.symm)
theorem cut_sub {α : Type} {xs : List α} {a b : Option Int} {x : α} (h : x ∈ cutD xs a b) : x ∈ xs := by
  unfold cutD at h
  exact List.mem_of_mem_drop (List.mem_of_mem_take h)
theorem cut_len {α : Type} (xs : List α) (a b : Option Int) : (cutD xs a b).length ≤ xs.length := by
  unfold cutD
  rw [List.length_take, List.length_drop]
  omega
theorem cut_map {α β : Type} (f : α → β) (xs : List α) (a b : Option Int) : cutD (xs.map f) a b = (cutD xs a b).map f := by
  unfold cutD
  rw [List.length_map, List.map_take, List.map_drop]
theorem mSl_Ts {fa : AE} {lo hi : Option AE} {ls : Ls} {hp : Hd} {xs : List (List Int)} {a b : Option Int} (e : fa ls hp = some (.tup (xs.map T), hp)) (ea : mPo lo ls hp = some (a, hp)) (eb : mPo hi ls hp = some (b, hp)) : mSl fa lo hi ls hp = some (.tup ((cutD xs a b).map T), hp) := by
  rw [mSl_s, e]
  dsimp only
  rw [ea]
  dsimp only
  rw [eb]
  show some (D.tup (cutD (xs.map T) a b), hp) = _
  rw [cut_map]
theorem mPo_int {fa : AE} {ls : Ls} {hp : Hd} {i : Int} (e : fa ls hp = some (.int i, hp)) : mPo (some fa) ls hp = some (some i, hp) := by
  rw [mPo_s, e]
theorem add_Ts {f g : AE} {ls : Ls} {hp : Hd} {xs ys : List (List Int)} (e1 : f ls hp = some (.tup (xs.map T), hp)) (e2 : g ls hp = some (.tup (ys.map T), hp)) (h : xs.length + ys.length ≤ 10000) : m2 f g gAdd ls hp = some (.tup ((xs ++ ys).map T), hp) := by
  refine (m2_ev e1 e2 (if_pos (by rw [List.length_map, List.length_map, sizeLine_eq]; omega))).trans ?_
  rw [List.map_append]
theorem rt_seq {f g : AS} {ls ls1 : Ls} {hp hp1 : Hd} {d : D} (e : f ls hp = some (.rt d, ls1, hp1)) : sSeq f g ls hp = some (.rt d, ls1, hp1) := by
  rw [sSeq_s, e]
def E1_L_other : AE :=
    (mTup (mCons (m1 (mVar 7) gNeg) (mCons (mVar 8) (mCons (mVar 9) mNil))))
def C1_L_other : AA :=
    (mLc (mIS (mVar 1)) (.tp ((.nm 7) :: ((.nm 8) :: ((.nm 9) :: [])))) [7, 8, 9] tYesD E1_L_other)
@[simp] def b_L_other_8 : AS :=
    (sRet (mVar 3))
@[simp] def b_L_other_7 : AS :=
    sSeq (sIf (mT (mAs (mCons (mAs (mCons (mVar 6) mNil) gTupV) mNil) (ar 1 c_is_body))) (sRet (mAs (mCons (mVar 6) mNil) gTupV)) sNext)
    b_L_other_8
@[simp] def b_L_other_6 : AS :=
    sSeq (sSet 6 (mNew (mSortedSetZT (m2 (m2 (mSl (mVar 1) none (some (mVar 4))) (mSl (mVar 1) (some (m2 (mVar 4) (mC (.int 1)) gAdd)) none) gAdd) (mTup (mCons (mVar 5) mNil)) gAdd))))
    b_L_other_7
@[simp] def b_L_other_5 : AS :=
    sSeq (sSet 5 (mAs (mCons (mAs (mCons (mVar 0) (mCons (mVar 1) mNil)) (ar 2 c_L_pick)) (mCons (mAs (mCons (mVar 0) (mCons (mC (.int 6)) mNil)) (ar 2 c_L_take)) mNil)) (ar 2 c_L_beside)))
    b_L_other_6
@[simp] def b_L_other_4 : AS :=
    sSeq (sSet 4 (mAs (mCons (mVar 0) (mCons (mAs (mCons (mVar 1) mNil) gLen) mNil)) (ar 2 c_L_take)))
    b_L_other_5
@[simp] def b_L_other_3 : AS :=
    sSeq (sIf (mT (m2 (mVar 2) (mC (.int 1)) gEq)) (sRet (mVar 3)) sNext)
    b_L_other_4
@[simp] def b_L_other_2 : AS :=
    sSeq (sSet 3 (mL (mSortedL C1_L_other) gTup))
    b_L_other_3
@[simp] def b_L_other_1 : AS :=
    sSeq (sIf (mT (m2 (mVar 2) (mC (.int 0)) gEq)) (sRet (mAs (mCons (mVar 1) (mCons (mAs (mCons (mVar 0) (mCons (mAs mNil (ar 0 c_spins)) mNil)) (ar 2 c_L_pick)) mNil)) (ar 2 c_spun))) sNext)
    b_L_other_2
def b_L_other : AS :=
    sSeq (sSet 2 (mAs (mCons (mVar 0) (mCons (mC (.int 4)) mNil)) (ar 2 c_L_take)))
    b_L_other_1
def m_L_other : List D → Hd → Option (D × Hd) := mDef 10 b_L_other
def c_L_other := c1V m_L_other
theorem con_L_other : Cl c_L_other m_L_other := cl_c1V _
theorem other_run (N : Nat) (hN : N + 10 < 1000000) (o : O) (h : Hand N o) {bs : List (List Int)} (hb : Ris bs) : ∃ (cs : List (List Int)) (o' : O) (g : Hd), m_L_other [.ref 0, .tup (bs.map T)] [o] = some (.tup (cs.map T), o' :: g) ∧ Hand (N + 4) o' ∧ Ris cs := by
  obtain ⟨w, o1, e1, w0, w4, h1⟩ := take_ok N (by omega) [o] 0 o rfl h 4 (by decide) (by decide)
  have s1 : sSet 2 (mAs (mCons (mVar 0) (mCons (mC (.int 4)) mNil)) (ar 2 c_L_take)) (stD 10 [.ref 0, .tup (bs.map T)]) [o] = some (.nx, [some (.ref 0), some (.tup (bs.map T)), some (.int w), none, none, none, none, none, none, none], [o1]) := sSet_of (call_of (cons_of (mVar_of rfl) (cons_of mC_of nil_of)) rfl e1)
  have bl : (bs.map T).length < 1073741824 := by rw [List.length_map]; have := hb.few; omega
  have bn : bs.map T ≠ [] := fun e => hb.ne (List.map_eq_nil_iff.mp e)
  have t2 : mT (m2 (mVar 2) (mC (.int 0)) gEq) [some (.ref 0), some (.tup (bs.map T)), some (.int w), none, none, none, none, none, none, none] [o1] = some (w == 0, [o1]) := mT_of (m2_ev (mVar_of rfl) mC_of rfl)
  by_cases c0 : w = 0
  · rw [show (w == 0) = true by rw [c0]; rfl] at t2
    obtain ⟨i, hi, o2, e2, h2⟩ := pick_ok (N + 1) (by omega) [o1, .lst (Ve.SP.map T)] 0 1 (by decide) o1 rfl h1 (Ve.SP.map T) rfl (by decide) (by decide)
    rw [List.getElem_map] at e2
    have hs : Ve.SP[i]'(by simpa using hi) ∈ Ve.SP := List.getElem_mem _
    generalize Ve.SP[i]'(by simpa using hi) = s at e2 hs
    refine ⟨SPUN s bs, o2, _, def_of (sSeq_of s1 (rt_seq (sIf_t t2 (ret_of (call_of (cons_of (mVar_of rfl) (cons_of (call_of (cons_of (mVar_of rfl) (cons_of (call_of nil_of rfl (spins_ok [o1])) nil_of)) rfl e2) nil_of)) rfl (spun_ok _ hs bs hb.three hb.ne hb.few)))))), h2.mono (by omega), SPUN_ris hs hb⟩
  · rw [show (w == 0) = false by rw [beq_eq_false_iff_ne]; exact c0] at t2
    have el : C1_L_other [some (.ref 0), some (.tup (bs.map T)), some (.int w), none, none, none, none, none, none, none] [o1] = some ((bs.map mir3).map T, [o1]) := by
      have := mLc_typed (fi := mIS (mVar 1)) (t := .tp ((.nm 7) :: ((.nm 8) :: ((.nm 9) :: [])))) (own := [7, 8, 9]) (tt := tYesD) (te := E1_L_other) (ls := [some (.ref 0), some (.tup (bs.map T)), some (.int w), none, none, none, none, none, none, none]) (hp := [o1]) (hp1 := [o1]) (gd := []) T bs (fun _ => true) (fun c => T (mir3 c)) (mIS_tup (mVar_of rfl)) (by rw [sizeLine_eq]; have := hb.few; omega) rfl (fun c hc => by
        obtain ⟨x, y, z, rfl⟩ := hb.three c hc
        exact ⟨[some (.ref 0), some (.tup (bs.map T)), some (.int w), none, none, none, none, some (.int x), some (.int y), some (.int z)], rfl, rfl, fun _ => rfl⟩)
      rw [List.filter_eq_self.mpr fun _ _ => rfl] at this
      rw [List.map_map]
      exact this
    have hm := mir3_ris hb
    have m3 : Three (bs.map mir3) := fun l hl => hm.three l ((sortC_perm _).mem_iff.mpr hl)
    generalize hms : sortC (bs.map mir3) = ms at hm
    have s3 : sSet 3 (mL (mSortedL C1_L_other) gTup) [some (.ref 0), some (.tup (bs.map T)), some (.int w), none, none, none, none, none, none, none] [o1] = some (.nx, [some (.ref 0), some (.tup (bs.map T)), some (.int w), some (.tup (ms.map T)), none, none, none, none, none, none], [o1]) := by
      refine sSet_of (d := .tup (ms.map T)) ((mL_of (hp' := [o1]) (ds := ms.map T) ?_).trans ?_)
      · rw [mSortedL_s, el]
        dsimp only
        rw [gSrt_T (three_ne m3), hms]
      · rfl
    have t4 : mT (m2 (mVar 2) (mC (.int 1)) gEq) [some (.ref 0), some (.tup (bs.map T)), some (.int w), some (.tup (ms.map T)), none, none, none, none, none, none] [o1] = some (w == 1, [o1]) := mT_of (m2_ev (mVar_of rfl) mC_of rfl)
    by_cases c1 : w = 1
    · rw [show (w == 1) = true by rw [c1]; rfl] at t4
      exact ⟨ms, o1, [], def_of (sSeq_of s1 (sSeq_of (sIf_f t2 rfl) (sSeq_of s3 (rt_seq (sIf_t t4 (ret_of (mVar_of rfl))))))), h1.mono (by omega), hm⟩
    · rw [show (w == 1) = false by rw [beq_eq_false_iff_ne]; exact c1] at t4
      obtain ⟨a, o2, e5, a0, a1, h2⟩ := take_ok (N + 1) (by omega) [o1] 0 o1 rfl h1 (bs.map T).length (by rw [List.length_map]; have := List.length_pos_iff.mpr hb.ne; omega) (by omega)
      have s5 : sSet 4 (mAs (mCons (mVar 0) (mCons (mAs (mCons (mVar 1) mNil) gLen) mNil)) (ar 2 c_L_take)) [some (.ref 0), some (.tup (bs.map T)), some (.int w), some (.tup (ms.map T)), none, none, none, none, none, none] [o1] = some (.nx, [some (.ref 0), some (.tup (bs.map T)), some (.int w), some (.tup (ms.map T)), some (.int a), none, none, none, none, none], [o2]) :=
        sSet_of (call_of (cons_of (mVar_of rfl) (cons_of (as_of (cons_of (mVar_of rfl) nil_of) rfl) nil_of)) rfl e5)
      obtain ⟨j, hj, o3, e6, h3⟩ := pick_tup (N + 2) (by omega) [o2] 0 o2 rfl h2 (bs.map T) bn bl
      rw [List.getElem_map] at e6
      have hc : bs[j]'(by simpa using hj) ∈ bs := List.getElem_mem _
      generalize bs[j]'(by simpa using hj) = c at e6 hc
      obtain ⟨x, y, z, rfl⟩ := hb.three c hc
      obtain ⟨d, o4, e7, d0, d6, h4⟩ := take_ok (N + 3) (by omega) [o3] 0 o3 rfl h3 6 (by decide) (by decide)
      have s6 : sSet 5 (mAs (mCons (mAs (mCons (mVar 0) (mCons (mVar 1) mNil)) (ar 2 c_L_pick)) (mCons (mAs (mCons (mVar 0) (mCons (mC (.int 6)) mNil)) (ar 2 c_L_take)) mNil)) (ar 2 c_L_beside)) [some (.ref 0), some (.tup (bs.map T)), some (.int w), some (.tup (ms.map T)), some (.int a), none, none, none, none, none] [o2] = some (.nx, [some (.ref 0), some (.tup (bs.map T)), some (.int w), some (.tup (ms.map T)), some (.int a), some (T (nb [x, y, z] d)), none, none, none, none], [o4]) :=
        sSet_of (call_of (cons_of (call_of (cons_of (mVar_of rfl) (cons_of (mVar_of rfl) nil_of)) rfl e6) (cons_of (call_of (cons_of (mVar_of rfl) (cons_of mC_of nil_of)) rfl e7) nil_of)) rfl (beside_ok _ x y z d ⟨d0, d6⟩))
      have n3 : ∃ p q r, nb [x, y, z] d = [p, q, r] := by
        rcases six ⟨d0, d6⟩ with rfl | rfl | rfl | rfl | rfl | rfl <;> exact ⟨_, _, _, rfl⟩
      have b3 := hb.three
      generalize nb [x, y, z] d = mo at s6 n3
      have l1 := cut_len bs none (some a)
      have l2 := cut_len bs (some (a + 1)) none
      have few := hb.few
      have tl : ∀ l ∈ (cutD bs none (some a) ++ cutD bs (some (a + 1)) none) ++ [mo], ∃ p q r, l = [p, q, r] := fun l hl => by
        rcases List.mem_append.mp hl with hl | hl
        · rcases List.mem_append.mp hl with hl | hl
          · exact b3 l (cut_sub hl)
          · exact b3 l (cut_sub hl)
        · rw [List.mem_singleton.mp hl]
          exact n3
      have es : mSortedSetZT (m2 (m2 (mSl (mVar 1) none (some (mVar 4))) (mSl (mVar 1) (some (m2 (mVar 4) (mC (.int 1)) gAdd)) none) gAdd) (mTup (mCons (mVar 5) mNil)) gAdd) [some (.ref 0), some (.tup (bs.map T)), some (.int w), some (.tup (ms.map T)), some (.int a), some (T mo), none, none, none, none] [o4] = some ((sortC (ddp ((cutD bs none (some a) ++ cutD bs (some (a + 1)) none) ++ [mo]))).map T, [o4]) :=
        sortedSetZT_of (add_Ts (add_Ts (mSl_Ts (mVar_of rfl) rfl (mPo_int (mVar_of rfl))) (mSl_Ts (mVar_of rfl) (mPo_int (m2_ev (mVar_of rfl) mC_of rfl)) rfl) (by omega)) (tup_of (ds := [mo].map T) (cons_of (mVar_of rfl) nil_of) (by show 1 ≤ 1000; decide)) (by rw [List.length_append, List.length_singleton]; omega)) (by rw [List.length_append, List.length_append, List.length_singleton]; omega) (fun c hc z => by
          obtain ⟨p, q, r, e⟩ := tl c hc
          rw [e] at z
          cases z)
      generalize hgs : sortC (ddp ((cutD bs none (some a) ++ cutD bs (some (a + 1)) none) ++ [mo])) = gs at es
      have g3 : Three gs := fun l hl => by
        rw [← hgs] at hl
        exact tl l (ddp_mem.mp ((sortC_perm _).mem_iff.mp hl))
      have gsr : gs.Pairwise (· < ·) := by rw [← hgs]; exact sortC_lt (ddp_nodup _)
      have gl : gs.length ≤ 61 := by
        rw [← hgs, (sortC_perm _).length_eq]
        refine Nat.le_trans (ddp_len _) ?_
        rw [List.length_append, List.length_append, List.length_singleton]
        omega
      have s7 := sSet_of (i := 6) (mNew_of es)
      obtain ⟨b, eb, ib⟩ := isbody_told (([o4] : Hd) ++ [.lst (gs.map T)]) gs g3 gsr (by omega)
      have et : mAs (mCons (mVar 6) mNil) gTupV [some (.ref 0), some (.tup (bs.map T)), some (.int w), some (.tup (ms.map T)), some (.int a), some (T mo), some (.ref 1), none, none, none] (([o4] : Hd) ++ [.lst (gs.map T)]) = some (.tup (gs.map T), ([o4] : Hd) ++ [.lst (gs.map T)]) := as_of (cons_of (mVar_of rfl) nil_of) (tup_ref (q := 1) rfl)
      have t8 := mT_of (call_of (k := 1) (g := c_is_body) (cons_of et nil_of) rfl eb)
      cases b with
      | true =>
        exact ⟨gs, o4, [.lst (gs.map T)], def_of (sSeq_of s1 (sSeq_of (sIf_f t2 rfl) (sSeq_of s3 (sSeq_of (sIf_f t4 rfl) (sSeq_of s5 (sSeq_of s6 (sSeq_of s7 (rt_seq (sIf_t t8 (ret_of et)))))))))), h4, ris_bod (ib.mp rfl)⟩
      | false =>
        exact ⟨ms, o4, [.lst (gs.map T)], def_of (sSeq_of s1 (sSeq_of (sIf_f t2 rfl) (sSeq_of s3 (sSeq_of (sIf_f t4 rfl) (sSeq_of s5 (sSeq_of s6 (sSeq_of s7 (sSeq_of (sIf_f t8 rfl) (ret_of (mVar_of rfl)))))))))), h4, hm⟩
theorem other_ok (N : Nat) (hN : N + 10 < 1000000) (hp : Hd) (n : Nat) (o : O) (e : hp[n]? = some o) (h : Hand N o) {bs : List (List Int)} (hb : Ris bs) : ∃ (cs : List (List Int)) (o' : O), c_L_other [.ref n, .tup (bs.map T)] hp = some (.tup (cs.map T), hp.set n o') ∧ Hand (N + 4) o' ∧ Ris cs := by
  obtain ⟨cs, o', g, em, h', hc⟩ := other_run N hN o h hb
  exact ⟨cs, o', c1V_of e (nrs_tTs _) h.nr em (nr_tTs _) h'.nr, h', hc⟩
end Lw
namespace Lw
open PySem PySem.Spec L2 Ve
@[simp] def b_L_home_1 : AS :=
    (sRet (mL (mSortedL (mLc (mIS (mVar 0)) (.nm 5) [5] tYesD (mTup (mCons (m2 (m2 (mVar 5) (mC (.int 0)) gIx) (mVar 1) gSub) (mCons (m2 (m2 (mVar 5) (mC (.int 1)) gIx) (mVar 2) gSub) (mCons (m2 (m2 (mVar 5) (mC (.int 2)) gIx) (mVar 3) gSub) mNil)))))) gTup))
def b_L_home : AS :=
    sSeq (sAsgL ((.nm 1) :: ((.nm 2) :: ((.nm 3) :: []))) (mLc (mR1 (mCons (mC (.int 3)) mNil)) (.nm 4) [4] tYesD (mL (mLc (mIS (mVar 0)) (.nm 5) [5] tYesD (m2 (mVar 5) (mVar 4) gIx)) gMinL)))
    b_L_home_1
def m_L_home : List D → Hd → Option (D × Hd) := mDef 6 b_L_home
def c_L_home := cV m_L_home
theorem con_L_home : Cl c_L_home m_L_home := cl_cV _
theorem lhome_ok (hp : Hd) (bs : List (List Int)) (h3 : Three bs) (hne : bs ≠ []) (hl : bs.length ≤ 30) : c_L_home [.tup (bs.map T)] hp = some (.tup ((sortC (HM bs)).map T), hp) := by
  have e1 : mLc (mR1 (mCons (mC (.int 3)) mNil)) (.nm 4) [4] tYesD (mL (mLc (mIS (mVar 0)) (.nm 5) [5] tYesD (m2 (mVar 5) (mVar 4) gIx)) gMinL) (stD 6 [.tup (bs.map T)]) [] = some ([.int (mnC bs 0), .int (mnC bs 1), .int (mnC bs 2)], []) := by
    have el := mLc_typed (t := .nm 4) (own := [4]) (tt := tYesD) (te := mL (mLc (mIS (mVar 0)) (.nm 5) [5] tYesD (m2 (mVar 5) (mVar 4) gIx)) gMinL) (ls := stD 6 [.tup (bs.map T)]) (fun i : Nat => D.int (i : Nat)) (List.range 3) (fun _ => true) (fun i : Nat => D.int (mnC bs i)) (mR1_three (hp := []) (fr := mCons (mC (.int 3)) mNil) rfl) (by rw [sizeLine_eq]; decide) rfl (fun i hi => ⟨[some (.tup (bs.map T)), none, none, none, some (.int (i : Nat)), none], rfl, rfl, fun _ => by
      have hi3 := List.mem_range.mp hi
      have el := mLc_typed (t := .nm 5) (own := [5]) (tt := tYesD) (te := m2 (mVar 5) (mVar 4) gIx) (ls := [some (.tup (bs.map T)), none, none, none, some (.int (i : Nat)), none]) T bs (fun _ => true) (fun l => D.int (l.getD i 0)) (mIS_tup (fa := mVar 0) (hp := []) (mVar_of rfl)) (by rw [sizeLine_eq]; omega) rfl (fun l hl => ⟨[some (.tup (bs.map T)), none, none, none, some (.int (i : Nat)), some (T l)], rfl, rfl, fun _ => by
        rw [m2_of (mVar_of (d := T l) rfl) (mVar_of (d := .int (i : Nat)) rfl)]
        exact gIx_T (h3 l hl) hi3⟩)
      refine (mL_of el).trans ?_
      rw [List.filter_eq_self.mpr (fun _ _ => rfl)]
      exact gMinL_mn hne i⟩)
    rw [List.filter_eq_self.mpr (fun _ _ => rfl)] at el
    exact el
  have er : m_L_home [.tup (bs.map T)] [] = some (.tup ((sortC (HM bs)).map T), []) := by
    show mDef 6 b_L_home _ _ = _
    rw [mDef_s]
    have s1 : sAsgL ((.nm 1) :: ((.nm 2) :: ((.nm 3) :: []))) (mLc (mR1 (mCons (mC (.int 3)) mNil)) (.nm 4) [4] tYesD (mL (mLc (mIS (mVar 0)) (.nm 5) [5] tYesD (m2 (mVar 5) (mVar 4) gIx)) gMinL)) (stD 6 [.tup (bs.map T)]) [] = some (.nx, [some (.tup (bs.map T)), some (.int (mnC bs 0)), some (.int (mnC bs 1)), some (.int (mnC bs 2)), none, none], []) := by
      unfold sAsgL
      rw [e1]
      rfl
    have el := mLc_typed (t := .nm 5) (own := [5]) (tt := tYesD) (te := mTup (mCons (m2 (m2 (mVar 5) (mC (.int 0)) gIx) (mVar 1) gSub) (mCons (m2 (m2 (mVar 5) (mC (.int 1)) gIx) (mVar 2) gSub) (mCons (m2 (m2 (mVar 5) (mC (.int 2)) gIx) (mVar 3) gSub) mNil)))) (ls := [some (.tup (bs.map T)), some (.int (mnC bs 0)), some (.int (mnC bs 1)), some (.int (mnC bs 2)), none, none]) T bs (fun _ => true) (fun l => T (mv (-(mnC bs 0)) (-(mnC bs 1)) (-(mnC bs 2)) l)) (mIS_tup (fa := mVar 0) (hp := []) (mVar_of rfl)) (by rw [sizeLine_eq]; omega) rfl (fun l hl => ⟨[some (.tup (bs.map T)), some (.int (mnC bs 0)), some (.int (mnC bs 1)), some (.int (mnC bs 2)), none, some (T l)], rfl, rfl, fun _ => by
      obtain ⟨x, y, z, rfl⟩ := h3 l hl
      show some (D.tup [.int (x - mnC bs 0), .int (y - mnC bs 1), .int (z - mnC bs 2)], ([] : Hd)) = some (T [x + -(mnC bs 0), y + -(mnC bs 1), z + -(mnC bs 2)], [])
      rfl⟩)
    have eb : b_L_home (stD 6 [.tup (bs.map T)]) [] = some (.rt (.tup ((sortC (HM bs)).map T)), [some (.tup (bs.map T)), some (.int (mnC bs 0)), some (.int (mnC bs 1)), some (.int (mnC bs 2)), none, none], []) := by
      unfold b_L_home
      refine sSeq_of s1 ?_
      unfold b_L_home_1
      rw [sRet_s]
      have : mL (mSortedL (mLc (mIS (mVar 0)) (.nm 5) [5] tYesD (mTup (mCons (m2 (m2 (mVar 5) (mC (.int 0)) gIx) (mVar 1) gSub) (mCons (m2 (m2 (mVar 5) (mC (.int 1)) gIx) (mVar 2) gSub) (mCons (m2 (m2 (mVar 5) (mC (.int 2)) gIx) (mVar 3) gSub) mNil)))))) gTup [some (.tup (bs.map T)), some (.int (mnC bs 0)), some (.int (mnC bs 1)), some (.int (mnC bs 2)), none, none] [] = some (.tup ((sortC (HM bs)).map T), []) := by
        unfold mL mSortedL
        rw [el]
        dsimp only
        rw [List.filter_eq_self.mpr (fun _ _ => rfl), show (bs.map fun l => T (mv (-(mnC bs 0)) (-(mnC bs 1)) (-(mnC bs 2)) l)) = (HM bs).map T by unfold HM; rw [List.map_map]; rfl, gSrt_T (three_ne (three_HM h3))]
        rfl
      rw [this]
    rw [eb]
  exact cV_of (nrs_tTs bs) er (nr_tTs _)
def E1_law : AE :=
    (mAs (mCons (mVar 3) (mCons (mVar 12) mNil)) (ar 2 c_spun))
def C1_law : AA :=
    (mLc (mIS (mAs mNil (ar 0 c_spins))) (.nm 12) [12] tYesD E1_law)
def E2_law : AE :=
    (m2 (mAs (mCons (mVar 2) (mCons (mC (.int 9)) mNil)) (ar 2 c_L_take)) (mC (.int 4)) gSub)
def C2_law : AA :=
    (mLc (mR1 (mCons (mC (.int 3)) mNil)) (.nm 13) [13] tYesD E2_law)
def E3_law : AE :=
    (mTup (mCons (m2 (mVar 14) (mVar 6) gAdd) (mCons (m2 (mVar 15) (mVar 7) gAdd) (mCons (m2 (mVar 16) (mVar 8) gAdd) mNil))))
def C3_law : AA :=
    (mLc (mIS (mVar 9)) (.tp ((.nm 14) :: ((.nm 15) :: ((.nm 16) :: [])))) [14, 15, 16] tYesD E3_law)
@[simp] def B1_law_10 : AS :=
    (sIf (mT (m2 (m2 (mAs (mCons (mVar 11) mNil) (ar 1 c_least_body)) (mVar 5) gEq) (m2 (mAs (mCons (mVar 11) mNil) (ar 1 c_L_home)) (mVar 4) gIn) gNe)) (sRet (mC (.bl false))) sNext)
@[simp] def B1_law_9 : AS :=
    sSeq (sSet 11 (mAs (mCons (mVar 2) (mCons (mVar 3) mNil)) (ar 2 c_L_other)))
    B1_law_10
@[simp] def B1_law_8 : AS :=
    sSeq (sIf (mOr (mT (m2 (mAs (mCons (mVar 9) mNil) (ar 1 c_least_body)) (mVar 5) gNe)) (mT (m2 (mAs (mCons (mVar 10) mNil) (ar 1 c_least_body)) (mVar 5) gNe))) (sRet (mC (.bl false))) sNext)
    B1_law_9
@[simp] def B1_law_7 : AS :=
    sSeq (sSet 10 (mL C3_law gTup))
    B1_law_8
@[simp] def B1_law_6 : AS :=
    sSeq (sSet 9 (mAs (mCons (mVar 2) (mCons (mVar 4) mNil)) (ar 2 c_L_pick)))
    B1_law_7
@[simp] def B1_law_5 : AS :=
    sSeq (sAsgL ((.nm 6) :: ((.nm 7) :: ((.nm 8) :: []))) C2_law)
    B1_law_6
@[simp] def B1_law_4 : AS :=
    sSeq (sIf (mOr (mT (m2 (mAs (mCons (mVar 3) mNil) (ar 1 c_least_body)) (mVar 5) gNe)) (mT (m2 (mAs (mCons (mAs (mCons (mVar 3) mNil) (ar 1 c_home)) mNil) (ar 1 c_least_body)) (mVar 5) gNe))) (sRet (mC (.bl false))) sNext)
    B1_law_5
@[simp] def B1_law_3 : AS :=
    sSeq (sSet 5 (m2 (mNew (mSorted (mVar 4))) (mC (.int 0)) gIx))
    B1_law_4
@[simp] def B1_law_2 : AS :=
    sSeq (sSet 4 (mNew C1_law))
    B1_law_3
@[simp] def B1_law_1 : AS :=
    sSeq (sSet 3 (mAs (mCons (mVar 2) (mCons (mC (.int 8)) mNil)) (ar 2 c_L_body)))
    B1_law_2
def B1_law : AS :=
    sSeq (sSet 2 (mAs (mCons (mVar 0) (mCons (mVar 1) mNil)) (ar 2 c_L_hand)))
    B1_law_1
def F1_law : AS := (sForI (mR1 (mCons (mAs (mCons (mC (.int 2)) (mCons (mAs (mCons (mC (.int 3)) (mCons (mAs (mCons (mVar 0) mNil) gLen) mNil)) gMin2) mNil)) gMax2) mNil)) (.nm 1) B1_law)
@[simp] def b_law_1 : AS :=
    (sRet (mC (.bl true)))
def b_law : AS :=
    sSeq F1_law
    b_law_1
def m_law : List D → Hd → Option (D × Hd) := mDef 17 b_law
theorem three_draws (N : Nat) (hN : N + 10 < 1000000) {n m : Nat} (hnm : n ≠ m) {xs : List D} {H : Hd} {o : O} (hn : H[n]? = some o) (ho : Hand N o) (hm : H[m]? = some (.lst xs)) {ls : Ls} (hl : ls.length = 17) (h2 : ls[2]? = some (some (.ref n))) :
    ∃ (a b c : Int) (H' : Hd) (o' : O), C2_law ls H = some ([.int a, .int b, .int c], H') ∧ H'[n]? = some o' ∧ Hand (N + 3) o' ∧ H'[m]? = some (.lst xs) := by
  obtain ⟨out, H', e, vs, rfl, lv, o', k1, k2, k3⟩ := mLc_pre (fi := mR1 (mCons (mC (.int 3)) mNil)) (t := .nm 13) (own := [13]) (te := E2_law) (gd := []) (items := List.range 3) (ls := ls) (hp := H) (hp1 := H) (fun i : Nat => D.int (i : Nat))
    (fun d out H => ∃ vs : List Int, out = vs.map D.int ∧ vs.length = d.length ∧ ∃ o', H[n]? = some o' ∧ Hand (N + d.length) o' ∧ H[m]? = some (.lst xs))
    (mR1_nat (j := 3) rfl (by decide)) (by rw [sizeLine_eq]; decide) (fun _ _ _ _ => rfl) ⟨[], rfl, rfl, o, hn, ho, hm⟩ (by
      rintro d i r out H ed ⟨vs, rfl, lv, o, k1, k2, k3⟩
      have ld : d.length < 3 := by
        have := congrArg List.length ed
        rw [List.length_range, List.length_append, List.length_cons] at this
        omega
      obtain ⟨v, o2, e, v0, v9, ho2⟩ := take_ok (N + d.length) (by omega) H n o k1 k2 9 (by decide) (by decide)
      have g2 : ((wipeL ls [13]).set 13 (some (.int (i : Nat))))[2]? = some (some (.ref n)) := by
        rw [List.getElem?_set_ne (by decide)]
        show (ls.set 13 none)[2]? = _
        rw [List.getElem?_set_ne (by decide)]
        exact h2
      refine ⟨(wipeL ls [13]).set 13 (some (.int (i : Nat))), .int (v - 4), H.set n o2, rfl, m2_ev (call_of (cons_of (mVar_of g2) (cons_of mC_of nil_of)) rfl e) mC_of rfl, vs ++ [v - 4], by rw [List.map_append]; rfl, by rw [List.length_append, List.length_append, List.length_singleton, List.length_singleton, lv], o2, hset_same k1, by rw [List.length_append, List.length_singleton]; exact ho2, hset_ne (fun z => hnm z) k3⟩)
  rw [List.length_range] at lv k2
  match vs, lv with
  | [a, b, c], _ => exact ⟨a, b, c, H', o', e, k1, k2, k3⟩
theorem dec_any {p : Prop} (i : Decidable p) : @decide p i = true ↔ p := by
  cases i with
  | isTrue h => exact ⟨fun _ => h, fun _ => rfl⟩
  | isFalse h => exact ⟨fun z => (by cases z), fun z => absurd z h⟩
theorem case_ok (ns : List Int) {k : Nat} (hk : k < 100) {H : Hd} (v2 v3 v4 v5 v6 v7 v8 v9 v10 v11 v12 v13 v14 v15 v16 : Option D) :
    ∃ w2 w3 w4 w5 w6 w7 w8 w9 w10 w11 w12 w13 w14 w15 w16 H', B1_law [some (.scr ns), some (.int (k : Nat)), v2, v3, v4, v5, v6, v7, v8, v9, v10, v11, v12, v13, v14, v15, v16] H = some (.nx, [some (.scr ns), some (.int (k : Nat)), w2, w3, w4, w5, w6, w7, w8, w9, w10, w11, w12, w13, w14, w15, w16], H') := by
  obtain ⟨o, e1, ho⟩ := hand_ok ns k hk H
  obtain ⟨bs, o2, e2, ho2, hb0, hsp⟩ := body_ok 0 (by decide) (H ++ [o]) H.length o hget_new ho 8 (by decide)
  have hb := ris_bod hb0
  have gn : ((H ++ [o]).set H.length o2)[H.length]? = some o2 := hset_same hget_new
  have s1 : sSet 2 (mAs (mCons (mVar 0) (mCons (mVar 1) mNil)) (ar 2 c_L_hand)) [some (.scr ns), some (.int (k : Nat)), v2, v3, v4, v5, v6, v7, v8, v9, v10, v11, v12, v13, v14, v15, v16] H = some (.nx, [some (.scr ns), some (.int (k : Nat)), some (.ref H.length), v3, v4, v5, v6, v7, v8, v9, v10, v11, v12, v13, v14, v15, v16], H ++ [o]) := sSet_of (call_of (cons_of (mVar_of rfl) (cons_of (mVar_of rfl) nil_of)) rfl e1)
  have s2 : sSet 3 (mAs (mCons (mVar 2) (mCons (mC (.int 8)) mNil)) (ar 2 c_L_body)) [some (.scr ns), some (.int (k : Nat)), some (.ref H.length), v3, v4, v5, v6, v7, v8, v9, v10, v11, v12, v13, v14, v15, v16] (H ++ [o]) = some (.nx, [some (.scr ns), some (.int (k : Nat)), some (.ref H.length), some (.tup (bs.map T)), v4, v5, v6, v7, v8, v9, v10, v11, v12, v13, v14, v15, v16], (H ++ [o]).set H.length o2) := sSet_of (call_of (cons_of (mVar_of rfl) (cons_of mC_of nil_of)) rfl e2)
  generalize (H ++ [o]).set H.length o2 = H2 at s2 gn
  generalize H.length = n at s1 s2 gn
  have ln : n < H2.length := hlt gn
  have c1 : C1_law [some (.scr ns), some (.int (k : Nat)), some (.ref n), some (.tup (bs.map T)), v4, v5, v6, v7, v8, v9, v10, v11, v12, v13, v14, v15, v16] H2 = some ((CLS bs).map TT, H2 ++ [.lst (Ve.SP.map T)]) := by
    have := mLc_typed (fi := mIS (mAs mNil (ar 0 c_spins))) (t := .nm 12) (own := [12]) (tt := tYesD) (te := E1_law) (ls := [some (.scr ns), some (.int (k : Nat)), some (.ref n), some (.tup (bs.map T)), v4, v5, v6, v7, v8, v9, v10, v11, v12, v13, v14, v15, v16]) (hp := H2) (hp1 := H2 ++ [.lst (Ve.SP.map T)]) T Ve.SP (fun _ => true) (fun s => TT (SPUN s bs)) (mIS_ref (n := H2.length) (call_of nil_of rfl (spins_ok H2)) hget_new) (by decide) (gdOk1 hget_new) (fun s hs => ⟨_, asg_nm, rfl, fun _ => call_of (cons_of (mVar_of rfl) (cons_of (mVar_of rfl) nil_of)) rfl (spun_ok _ hs bs hb.three hb.ne hb.few)⟩)
    rw [List.filter_eq_self.mpr fun _ _ => rfl] at this
    rw [CLS, List.map_map]
    exact this
  have s3 := sSet_of (i := 4) (mNew_of c1)
  have m4 : (H2 ++ [O.lst (Ve.SP.map T)] ++ [O.lst ((CLS bs).map TT)])[(H2 ++ [O.lst (Ve.SP.map T)]).length]? = some (.lst ((CLS bs).map TT)) := hget_new
  have n4 : (H2 ++ [O.lst (Ve.SP.map T)] ++ [O.lst ((CLS bs).map TT)])[n]? = some o2 := hget_old (hget_old gn)
  have nm : n ≠ (H2 ++ [O.lst (Ve.SP.map T)]).length := by rw [List.length_append]; omega
  generalize H2 ++ [O.lst (Ve.SP.map T)] ++ [O.lst ((CLS bs).map TT)] = H4 at s3 m4 n4
  generalize (H2 ++ [O.lst (Ve.SP.map T)]).length = m at s3 m4 nm
  have s3' : sSet 4 (mNew C1_law) [some (.scr ns), some (.int (k : Nat)), some (.ref n), some (.tup (bs.map T)), v4, v5, v6, v7, v8, v9, v10, v11, v12, v13, v14, v15, v16] H2 = some (.nx, [some (.scr ns), some (.int (k : Nat)), some (.ref n), some (.tup (bs.map T)), some (.ref m), v5, v6, v7, v8, v9, v10, v11, v12, v13, v14, v15, v16], H4) := s3
  clear s3
  have cne : ∀ b ∈ CLS bs, b ≠ [] := fun b hbm => by
    obtain ⟨s, hs, rfl⟩ := List.mem_map.mp hbm
    exact (SPUN_ris hs hb).ne
  have es : mNew (mSorted (mVar 4)) [some (.scr ns), some (.int (k : Nat)), some (.ref n), some (.tup (bs.map T)), some (.ref m), v5, v6, v7, v8, v9, v10, v11, v12, v13, v14, v15, v16] H4 = some (.ref H4.length, H4 ++ [.lst ((sortT (CLS bs)).map TT)]) := by
    refine mNew_of (ds := (sortT (CLS bs)).map TT) (hp' := H4) ?_
    rw [mSorted_s, mVar_of (d := .ref m) rfl]
    exact gSrtO_TT m4 cne
  have fst : ((sortT (CLS bs)).map TT)[0]? = some (TT (minT (CLS bs))) := by
    rw [List.getElem?_map, sortT_first (CLS_ne bs)]
    rfl
  have s4 : sSet 5 (m2 (mNew (mSorted (mVar 4))) (mC (.int 0)) gIx) [some (.scr ns), some (.int (k : Nat)), some (.ref n), some (.tup (bs.map T)), some (.ref m), v5, v6, v7, v8, v9, v10, v11, v12, v13, v14, v15, v16] H4 = some (.nx, [some (.scr ns), some (.int (k : Nat)), some (.ref n), some (.tup (bs.map T)), some (.ref m), some (TT (minT (CLS bs))), v6, v7, v8, v9, v10, v11, v12, v13, v14, v15, v16], H4 ++ [.lst ((sortT (CLS bs)).map TT)]) :=
    sSet_of (m2_ev es mC_of (gIx_refN (j := 0) hget_new fst))
  have m5 := hget_old (l := [O.lst ((sortT (CLS bs)).map TT)]) m4
  have n5 := hget_old (l := [O.lst ((sortT (CLS bs)).map TT)]) n4
  generalize H4 ++ [O.lst ((sortT (CLS bs)).map TT)] = H5 at s4 m5 n5
  have ne0 : ∀ (x : List (List Int)) (hp : Hd), gNe (TT x) (TT x) hp = some (.bl false, hp) := fun x hp => by
    rw [eTT.gNe (by decide) hp x x]
    simp
  have t5a : mT (m2 (mAs (mCons (mVar 3) mNil) (ar 1 c_least_body)) (mVar 5) gNe) [some (.scr ns), some (.int (k : Nat)), some (.ref n), some (.tup (bs.map T)), some (.ref m), some (TT (minT (CLS bs))), v6, v7, v8, v9, v10, v11, v12, v13, v14, v15, v16] H5 = some (false, H5) :=
    mT_of (m2_ev (call_of (cons_of (mVar_of rfl) nil_of) rfl (least_ok H5 hb)) (mVar_of rfl) (ne0 _ H5))
  have hh : Ris (HM bs) := by
    have := SPUN_ris (s := [0, 2, 4]) (by simpa using sp_one) hb
    rwa [hb.one] at this
  have t5b : mT (m2 (mAs (mCons (mAs (mCons (mVar 3) mNil) (ar 1 c_home)) mNil) (ar 1 c_least_body)) (mVar 5) gNe) [some (.scr ns), some (.int (k : Nat)), some (.ref n), some (.tup (bs.map T)), some (.ref m), some (TT (minT (CLS bs))), v6, v7, v8, v9, v10, v11, v12, v13, v14, v15, v16] H5 = some (false, H5) := by
    refine mT_of (m2_ev (call_of (cons_of (call_of (cons_of (mVar_of rfl) nil_of) rfl (home_ok H5 bs hb.three hb.ne hb.few)) nil_of) rfl (least_ok H5 hh)) (mVar_of rfl) ?_)
    rw [CLS_HM hb.three hb.ne]
    exact ne0 _ H5
  obtain ⟨a, b, c, H6, o6, e6, n6, ho6, m6⟩ := three_draws 200 (by decide) nm n5 ho2 m5 (ls := [some (.scr ns), some (.int (k : Nat)), some (.ref n), some (.tup (bs.map T)), some (.ref m), some (TT (minT (CLS bs))), v6, v7, v8, v9, v10, v11, v12, v13, v14, v15, v16]) rfl rfl
  have s6 : sAsgL ((.nm 6) :: ((.nm 7) :: ((.nm 8) :: []))) C2_law [some (.scr ns), some (.int (k : Nat)), some (.ref n), some (.tup (bs.map T)), some (.ref m), some (TT (minT (CLS bs))), v6, v7, v8, v9, v10, v11, v12, v13, v14, v15, v16] H5 = some (.nx, [some (.scr ns), some (.int (k : Nat)), some (.ref n), some (.tup (bs.map T)), some (.ref m), some (TT (minT (CLS bs))), some (.int a), some (.int b), some (.int c), v9, v10, v11, v12, v13, v14, v15, v16], H6) := by
    rw [sAsgL_s, e6]
    rfl
  obtain ⟨i, hi, o7, e7, ho7⟩ := pick_ok 203 (by decide) H6 n m nm o6 n6 ho6 ((CLS bs).map TT) m6 (fun z => CLS_ne bs (List.map_eq_nil_iff.mp z)) (by rw [List.length_map]; unfold CLS; rw [List.length_map]; decide)
  rw [List.getElem_map] at e7
  have hx : (CLS bs)[i]'(by simpa using hi) ∈ CLS bs := List.getElem_mem _
  generalize (CLS bs)[i]'(by simpa using hi) = x at e7 hx
  obtain ⟨s, hs, rfl⟩ := List.mem_map.mp hx
  have n7 : (H6.set n o7)[n]? = some o7 := hset_same n6
  have m7 : (H6.set n o7)[m]? = some (.lst ((CLS bs).map TT)) := hset_ne nm m6
  generalize H6.set n o7 = H7 at e7 n7 m7
  have xr := SPUN_ris hs hb
  have xl := minT_CLS_spun hs hb.three hb.ne
  generalize hx1 : SPUN s bs = x at e7 xr xl
  have s7 : sSet 9 (mAs (mCons (mVar 2) (mCons (mVar 4) mNil)) (ar 2 c_L_pick)) [some (.scr ns), some (.int (k : Nat)), some (.ref n), some (.tup (bs.map T)), some (.ref m), some (TT (minT (CLS bs))), some (.int a), some (.int b), some (.int c), v9, v10, v11, v12, v13, v14, v15, v16] H6 = some (.nx, [some (.scr ns), some (.int (k : Nat)), some (.ref n), some (.tup (bs.map T)), some (.ref m), some (TT (minT (CLS bs))), some (.int a), some (.int b), some (.int c), some (TT x), v10, v11, v12, v13, v14, v15, v16], H7) := sSet_of (call_of (cons_of (mVar_of rfl) (cons_of (mVar_of rfl) nil_of)) rfl e7)
  have c8 : C3_law [some (.scr ns), some (.int (k : Nat)), some (.ref n), some (.tup (bs.map T)), some (.ref m), some (TT (minT (CLS bs))), some (.int a), some (.int b), some (.int c), some (TT x), v10, v11, v12, v13, v14, v15, v16] H7 = some ((x.map (mv a b c)).map T, H7) := by
    have := mLc_typed (fi := mIS (mVar 9)) (t := .tp ((.nm 14) :: ((.nm 15) :: ((.nm 16) :: [])))) (own := [14, 15, 16]) (tt := tYesD) (te := E3_law) (ls := [some (.scr ns), some (.int (k : Nat)), some (.ref n), some (.tup (bs.map T)), some (.ref m), some (TT (minT (CLS bs))), some (.int a), some (.int b), some (.int c), some (TT x), v10, v11, v12, v13, v14, v15, v16]) (hp := H7) (hp1 := H7) (gd := []) T x (fun _ => true) (fun l => T (mv a b c l)) (mIS_tup (mVar_of rfl)) (by rw [sizeLine_eq]; have := xr.few; omega) rfl (fun l hl => by
      obtain ⟨p, q, r, rfl⟩ := xr.three l hl
      exact ⟨[some (.scr ns), some (.int (k : Nat)), some (.ref n), some (.tup (bs.map T)), some (.ref m), some (TT (minT (CLS bs))), some (.int a), some (.int b), some (.int c), some (TT x), v10, v11, v12, v13, some (.int p), some (.int q), some (.int r)], rfl, rfl, fun _ => rfl⟩)
    rw [List.filter_eq_self.mpr fun _ _ => rfl] at this
    rw [List.map_map]
    exact this
  have yr : Ris (x.map (mv a b c)) := by
    refine ⟨three_map xr.three, ?_, fun z => xr.ne (List.map_eq_nil_iff.mp z), by rw [List.length_map]; exact xr.few⟩
    rw [List.pairwise_map]
    refine xr.srt.imp_of_mem fun {l l'} hl hm hlt => ?_
    obtain ⟨p, q, r, rfl⟩ := xr.three l hl
    obtain ⟨p', q', r', rfl⟩ := xr.three l' hm
    refine lt_of (mv_le _ _ _ _ _ _ _ _ _ (List.le_of_lt hlt)) fun e => ?_
    simp only [mv, List.cons.injEq, and_true] at e
    have : ([p, q, r] : List Int) = [p', q', r'] := by
      congr 1
      · omega
      · congr 1
        · omega
        · congr 1
          omega
    rw [this] at hlt
    exact absurd hlt (List.lt_irrefl _)
  have yl : minT (CLS (x.map (mv a b c))) = minT (CLS bs) := by rw [CLS_mv xr.three xr.ne, xl]
  generalize x.map (mv a b c) = y at c8 yr yl
  have s8 : sSet 10 (mL C3_law gTup) [some (.scr ns), some (.int (k : Nat)), some (.ref n), some (.tup (bs.map T)), some (.ref m), some (TT (minT (CLS bs))), some (.int a), some (.int b), some (.int c), some (TT x), v10, v11, v12, v13, v14, v15, v16] H7 = some (.nx, [some (.scr ns), some (.int (k : Nat)), some (.ref n), some (.tup (bs.map T)), some (.ref m), some (TT (minT (CLS bs))), some (.int a), some (.int b), some (.int c), some (TT x), some (TT y), v11, v12, v13, v14, v15, v16], H7) :=
    sSet_of ((mL_of c8).trans rfl)
  have t9a : mT (m2 (mAs (mCons (mVar 9) mNil) (ar 1 c_least_body)) (mVar 5) gNe) [some (.scr ns), some (.int (k : Nat)), some (.ref n), some (.tup (bs.map T)), some (.ref m), some (TT (minT (CLS bs))), some (.int a), some (.int b), some (.int c), some (TT x), some (TT y), v11, v12, v13, v14, v15, v16] H7 = some (false, H7) := by
    refine mT_of (m2_ev (call_of (cons_of (mVar_of rfl) nil_of) rfl (least_ok H7 xr)) (mVar_of rfl) ?_)
    rw [xl]
    exact ne0 _ H7
  have t9b : mT (m2 (mAs (mCons (mVar 10) mNil) (ar 1 c_least_body)) (mVar 5) gNe) [some (.scr ns), some (.int (k : Nat)), some (.ref n), some (.tup (bs.map T)), some (.ref m), some (TT (minT (CLS bs))), some (.int a), some (.int b), some (.int c), some (TT x), some (TT y), v11, v12, v13, v14, v15, v16] H7 = some (false, H7) := by
    refine mT_of (m2_ev (call_of (cons_of (mVar_of rfl) nil_of) rfl (least_ok H7 yr)) (mVar_of rfl) ?_)
    rw [yl]
    exact ne0 _ H7
  obtain ⟨cs, o8, e10, _, cr⟩ := other_ok 204 (by decide) H7 n o7 n7 ho7 hb
  have m8 : (H7.set n o8)[m]? = some (.lst ((CLS bs).map TT)) := hset_ne nm m7
  generalize H7.set n o8 = H8 at e10 m8
  have s10 : sSet 11 (mAs (mCons (mVar 2) (mCons (mVar 3) mNil)) (ar 2 c_L_other)) [some (.scr ns), some (.int (k : Nat)), some (.ref n), some (.tup (bs.map T)), some (.ref m), some (TT (minT (CLS bs))), some (.int a), some (.int b), some (.int c), some (TT x), some (TT y), v11, v12, v13, v14, v15, v16] H7 = some (.nx, [some (.scr ns), some (.int (k : Nat)), some (.ref n), some (.tup (bs.map T)), some (.ref m), some (TT (minT (CLS bs))), some (.int a), some (.int b), some (.int c), some (TT x), some (TT y), some (.tup (cs.map T)), v12, v13, v14, v15, v16], H8) := sSet_of (call_of (cons_of (mVar_of rfl) (cons_of (mVar_of rfl) nil_of)) rfl e10)
  obtain ⟨b1, q1, i1⟩ : ∃ b, gEq (TT (minT (CLS cs))) (TT (minT (CLS bs))) H8 = some (.bl b, H8) ∧ (b = true ↔ minT (CLS cs) = minT (CLS bs)) := ⟨_, eTT.gEq (by decide) H8 _ _, dec_any _⟩
  obtain ⟨b2, q2, i2⟩ : ∃ b, gIn (TT (sortC (HM cs))) (.ref m) H8 = some (.bl b, H8) ∧ (b = true ↔ sortC (HM cs) ∈ CLS bs) := ⟨_, eTT.gIn_lst (by decide) m8 _, dec_any _⟩
  have q3 : b1 = b2 := by
    rw [Bool.eq_iff_iff, i1, i2, cr.home]
    exact least_iff hb cr
  have t11 : mT (m2 (m2 (mAs (mCons (mVar 11) mNil) (ar 1 c_least_body)) (mVar 5) gEq) (m2 (mAs (mCons (mVar 11) mNil) (ar 1 c_L_home)) (mVar 4) gIn) gNe) [some (.scr ns), some (.int (k : Nat)), some (.ref n), some (.tup (bs.map T)), some (.ref m), some (TT (minT (CLS bs))), some (.int a), some (.int b), some (.int c), some (TT x), some (TT y), some (.tup (cs.map T)), v12, v13, v14, v15, v16] H8 = some (false, H8) := by
    refine mT_of (m2_ev (m2_ev (call_of (cons_of (mVar_of rfl) nil_of) rfl (least_ok H8 cr)) (mVar_of rfl) q1) (m2_ev (call_of (cons_of (mVar_of rfl) nil_of) rfl (lhome_ok H8 cs cr.three cr.ne cr.few)) (mVar_of rfl) q2) ?_)
    rw [q3]
    cases b2 <;> rfl
  exact ⟨_, _, _, _, _, _, _, _, _, _, _, _, _, _, _, H8, sSeq_of s1 (sSeq_of s2 (sSeq_of s3' (sSeq_of s4 (sSeq_of (sIf_f (or_f t5a t5b) rfl) (sSeq_of s6 (sSeq_of s7 (sSeq_of s8 (sSeq_of (sIf_f (or_f t9a t9b) rfl) (sSeq_of s10 (sIf_f t11 rfl))))))))))⟩
theorem law_pure (ns : List Int) (h : ns.length ≤ 63) : ∃ hp', m_law [.scr ns] [] = some (.bl true, hp') := by
  obtain ⟨M, hM, eM⟩ := head_ok 2 3 (by decide) (by decide) (ls := [some (.scr ns), none, none, none, none, none, none, none, none, none, none, none, none, none, none, none, none]) (ns := ns) rfl []
  obtain ⟨ls', hp', e, v1, v2, v3, v4, v5, v6, v7, v8, v9, v10, v11, v12, v13, v14, v15, v16, rfl⟩ := sForI_pre (t := .nm 1) (b := B1_law) (fun i : Nat => D.int (i : Nat)) (fun _ ls hp => ∃ v1 v2 v3 v4 v5 v6 v7 v8 v9 v10 v11 v12 v13 v14 v15 v16, ls = [some (.scr ns), v1, v2, v3, v4, v5, v6, v7, v8, v9, v10, v11, v12, v13, v14, v15, v16]) eM (fun _ _ _ _ => rfl) ⟨_, _, _, _, _, _, _, _, _, _, _, _, _, _, _, _, rfl⟩ (by
    rintro dn k r ls hp ed ⟨v1, v2, v3, v4, v5, v6, v7, v8, v9, v10, v11, v12, v13, v14, v15, v16, rfl⟩
    have hk : k < 100 := by
      have : k ∈ List.range M := by rw [ed]; simp
      have := List.mem_range.mp this
      omega
    obtain ⟨w2, w3, w4, w5, w6, w7, w8, w9, w10, w11, w12, w13, w14, w15, w16, H', e⟩ := case_ok ns hk (H := hp) v2 v3 v4 v5 v6 v7 v8 v9 v10 v11 v12 v13 v14 v15 v16
    exact ⟨_, _, _, asg_nm, .inl e, _, _, _, _, _, _, _, _, _, _, _, _, _, _, _, _, rfl⟩)
  exact ⟨hp', def_of (sSeq_of (show F1_law _ _ = _ from e) (ret_of mC_of))⟩
end Lw
namespace Lw
open PySem PySem.Spec L2 Ve
def topS (i : Nat) : Stmt := PySem.Challenge.pw_flatbody_k06_whole_least_bodies.main.body.getD i (.Pass ⟨0, 0, 0, 0⟩)
abbrev s_beside_cube : Stmt := topS 1
abbrev N_beside_cube : List Str := ["cube", "d", "axis"]
theorem sc_beside_cube : FnScope N_beside_cube ["cube", "d"] (defScope s_beside_cube) := ⟨rfl, rfl, rfl, by decide +kernel, rfl, by decide +kernel, by decide +kernel⟩
abbrev s_is_whole : Stmt := topS 6
abbrev N_is_whole : List Str := ["thing"]
theorem sc_is_whole : FnScope N_is_whole ["thing"] (defScope s_is_whole) := ⟨rfl, rfl, rfl, by decide +kernel, rfl, by decide +kernel, by decide +kernel⟩
abbrev s_is_cube : Stmt := topS 7
abbrev N_is_cube : List Str := ["thing", "number"]
theorem sc_is_cube : FnScope N_is_cube ["thing"] (defScope s_is_cube) := ⟨rfl, rfl, rfl, by decide +kernel, rfl, by decide +kernel, by decide +kernel⟩
abbrev s_hang_together : Stmt := topS 8
abbrev N_hang_together : List Str := ["cubes", "known", "met", "waiting", "here", "d", "other", "cube"]
theorem sc_hang_together : FnScope N_hang_together ["cubes"] (defScope s_hang_together) := ⟨rfl, rfl, rfl, by decide +kernel, rfl, by decide +kernel, by decide +kernel⟩
abbrev s_is_body : Stmt := topS 9
abbrev N_is_body : List Str := ["thing", "one", "other", "cube"]
theorem sc_is_body : FnScope N_is_body ["thing"] (defScope s_is_body) := ⟨rfl, rfl, rfl, by decide +kernel, rfl, by decide +kernel, by decide +kernel⟩
abbrev s_home : Stmt := topS 10
abbrev N_home : List Str := ["body", "least", "axis", "cube"]
theorem sc_home : FnScope N_home ["body"] (defScope s_home) := ⟨rfl, rfl, rfl, by decide +kernel, rfl, by decide +kernel, by decide +kernel⟩
abbrev s_third_direction : Stmt := topS 11
abbrev N_third_direction : List Str := ["one", "other", "axis", "mirrored_so", "turned_about"]
theorem sc_third_direction : FnScope N_third_direction ["one", "other"] (defScope s_third_direction) := ⟨rfl, rfl, rfl, by decide +kernel, rfl, by decide +kernel, by decide +kernel⟩
abbrev s_spins : Stmt := topS 12
abbrev N_spins : List Str := ["found", "one", "other"]
theorem sc_spins : FnScope N_spins [] (defScope s_spins) := ⟨rfl, rfl, rfl, by decide +kernel, rfl, by decide +kernel, by decide +kernel⟩
abbrev s_spun_cube : Stmt := topS 13
abbrev N_spun_cube : List Str := ["cube", "spin", "made", "number", "d"]
theorem sc_spun_cube : FnScope N_spun_cube ["cube", "spin"] (defScope s_spun_cube) := ⟨rfl, rfl, rfl, by decide +kernel, rfl, by decide +kernel, by decide +kernel⟩
abbrev s_spun : Stmt := topS 14
abbrev N_spun : List Str := ["body", "spin", "cube"]
theorem sc_spun : FnScope N_spun ["body", "spin"] (defScope s_spun) := ⟨rfl, rfl, rfl, by decide +kernel, rfl, by decide +kernel, by decide +kernel⟩
abbrev s_least_body : Stmt := topS 15
abbrev N_least_body : List Str := ["body", "spin"]
theorem sc_least_body : FnScope N_least_body ["body"] (defScope s_least_body) := ⟨rfl, rfl, rfl, by decide +kernel, rfl, by decide +kernel, by decide +kernel⟩
abbrev s_L_hand : Stmt := topS 17
abbrev N_L_hand : List Str := ["_law_script", "_law_k", "_law_cell"]
theorem sc_L_hand : FnScope N_L_hand ["_law_script", "_law_k"] (defScope s_L_hand) := ⟨rfl, rfl, rfl, by decide +kernel, rfl, by decide +kernel, by decide +kernel⟩
abbrev s_L_take : Stmt := topS 18
abbrev N_L_take : List Str := ["_law_hand_here", "_law_many", "_law_digit", "_law_turn", "_law_mixed", "_law_other_here"]
theorem sc_L_take : FnScope N_L_take ["_law_hand_here", "_law_many"] (defScope s_L_take) := ⟨rfl, rfl, rfl, by decide +kernel, rfl, by decide +kernel, by decide +kernel⟩
abbrev s_L_pick : Stmt := topS 19
abbrev N_L_pick : List Str := ["_law_hand_here", "_law_some"]
theorem sc_L_pick : FnScope N_L_pick ["_law_hand_here", "_law_some"] (defScope s_L_pick) := ⟨rfl, rfl, rfl, by decide +kernel, rfl, by decide +kernel, by decide +kernel⟩
abbrev s_L_beside : Stmt := topS 20
abbrev N_L_beside : List Str := ["_law_cube", "_law_d", "_law_step"]
theorem sc_L_beside : FnScope N_L_beside ["_law_cube", "_law_d"] (defScope s_L_beside) := ⟨rfl, rfl, rfl, by decide +kernel, rfl, by decide +kernel, by decide +kernel⟩
abbrev s_L_begun : Stmt := topS 21
abbrev N_L_begun : List Str := ["_law_hand_here", "_law_way", "_law_found", "_law_x", "_law_y", "_law_cube", "_law_z"]
theorem sc_L_begun : FnScope N_L_begun ["_law_hand_here"] (defScope s_L_begun) := ⟨rfl, rfl, rfl, by decide +kernel, rfl, by decide +kernel, by decide +kernel⟩
abbrev s_L_body : Stmt := topS 22
abbrev N_L_body : List Str := ["_law_hand_here", "_law_most", "_law_cubes", "_law_last", "_law_k", "_law_d", "_law_a", "_law_b", "_law_c", "_law_cube", "_law_x", "_law_y", "_law_z"]
theorem sc_L_body : FnScope N_L_body ["_law_hand_here", "_law_most"] (defScope s_L_body) := ⟨rfl, rfl, rfl, by decide +kernel, rfl, by decide +kernel, by decide +kernel⟩
abbrev s_L_home : Stmt := topS 23
abbrev N_L_home : List Str := ["_law_cubes", "_law_x", "_law_y", "_law_z", "_law_axis", "_law_cube"]
theorem sc_L_home : FnScope N_L_home ["_law_cubes"] (defScope s_L_home) := ⟨rfl, rfl, rfl, by decide +kernel, rfl, by decide +kernel, by decide +kernel⟩
abbrev s_L_other : Stmt := topS 24
abbrev N_L_other : List Str := ["_law_hand_here", "_law_body_here", "_law_way", "_law_mirrored_so", "_law_at", "_law_more", "_law_grown", "_law_x", "_law_y", "_law_z"]
theorem sc_L_other : FnScope N_L_other ["_law_hand_here", "_law_body_here"] (defScope s_L_other) := ⟨rfl, rfl, rfl, by decide +kernel, rfl, by decide +kernel, by decide +kernel⟩
abbrev s_law : Stmt := topS 25
abbrev N_law : List Str := ["_law_script", "_law_k", "_law_hand_here", "_law_body_here", "_law_some", "_law_due", "_law_a", "_law_b", "_law_c", "_law_one", "_law_moved", "_law_other_here", "_law_spin", "_law_j", "_law_x", "_law_y", "_law_z"]
theorem sc_law : FnScope N_law ["_law_script"] (defScope s_law) := ⟨rfl, rfl, rfl, by decide +kernel, rfl, by decide +kernel, by decide +kernel⟩
structure Bi (mg : Str → Option Value) : Prop where
  z_isinstance : mg "isinstance" = none
  z_int : mg "int" = none
  z_bool : mg "bool" = none
  z_tuple : mg "tuple" = none
  z_len : mg "len" = none
  z_all : mg "all" = none
  z_dict : mg "dict" = none
  z_range : mg "range" = none
  z_zip : mg "zip" = none
  z_min : mg "min" = none
  z_sorted : mg "sorted" = none
  z_set : mg "set" = none
  z_max : mg "max" = none
structure Ks (K : PySem.W.Frag) (mg : Str → Option Value) : Prop where
  g_MOST_CUBES' : ∃ u v, mg "MOST_CUBES" = some u ∧ RelV v u ∧ ∀ H μ, Rp K H μ k_MOST_CUBES v
  g_FARTHEST' : ∃ u v, mg "FARTHEST" = some u ∧ RelV v u ∧ ∀ H μ, Rp K H μ k_FARTHEST v
  g_DIRECTIONS' : ∃ u v, mg "DIRECTIONS" = some u ∧ RelV v u ∧ ∀ H μ, Rp K H μ k_DIRECTIONS v
section
variable {K : PySem.W.Frag} {mg : Str → Option Value}
theorem Ks.g_MOST_CUBES (C : Ks K mg) : mg "MOST_CUBES" = some C.g_MOST_CUBES'.choose := C.g_MOST_CUBES'.choose_spec.choose_spec.1
theorem Ks.r_MOST_CUBES (C : Ks K mg) : RelV C.g_MOST_CUBES'.choose_spec.choose C.g_MOST_CUBES'.choose := C.g_MOST_CUBES'.choose_spec.choose_spec.2.1
theorem Ks.p_MOST_CUBES (C : Ks K mg) : ∀ H μ, Rp K H μ k_MOST_CUBES C.g_MOST_CUBES'.choose_spec.choose := C.g_MOST_CUBES'.choose_spec.choose_spec.2.2
theorem Ks.g_FARTHEST (C : Ks K mg) : mg "FARTHEST" = some C.g_FARTHEST'.choose := C.g_FARTHEST'.choose_spec.choose_spec.1
theorem Ks.r_FARTHEST (C : Ks K mg) : RelV C.g_FARTHEST'.choose_spec.choose C.g_FARTHEST'.choose := C.g_FARTHEST'.choose_spec.choose_spec.2.1
theorem Ks.p_FARTHEST (C : Ks K mg) : ∀ H μ, Rp K H μ k_FARTHEST C.g_FARTHEST'.choose_spec.choose := C.g_FARTHEST'.choose_spec.choose_spec.2.2
theorem Ks.g_DIRECTIONS (C : Ks K mg) : mg "DIRECTIONS" = some C.g_DIRECTIONS'.choose := C.g_DIRECTIONS'.choose_spec.choose_spec.1
theorem Ks.r_DIRECTIONS (C : Ks K mg) : RelV C.g_DIRECTIONS'.choose_spec.choose C.g_DIRECTIONS'.choose := C.g_DIRECTIONS'.choose_spec.choose_spec.2.1
theorem Ks.p_DIRECTIONS (C : Ks K mg) : ∀ H μ, Rp K H μ k_DIRECTIONS C.g_DIRECTIONS'.choose_spec.choose := C.g_DIRECTIONS'.choose_spec.choose_spec.2.2
end
section
variable {P : Program} {w : World} {K : PySem.W.Frag} {mg : Str → Option Value} {base : Heap}
set_option maxHeartbeats 0 in
theorem ok_beside_cube (B : Bi mg) (C : Ks K mg) {f : Addr} {fd : FuncData} (F : Fun K "beside_cube" "beside_cube" s_beside_cube f fd) (gm : mg "beside_cube" = some (.ref f)) (hb : Binds K fd ["cube", "d"] []) : Fn P w K mg base 1 "beside_cube" 2 m_beside_cube := by
  refine fn_mk (N := N_beside_cube) (fb := b_beside_cube) F sc_beside_cube gm hb fun cdv A outer s H E hr => ?_
  have hu := hu_ofG hr
  exact (dss_cons (ds_set (i := 2) sc_beside_cube.nd rfl (by first | exact Or.inl rfl | exact Or.inr rfl) (de_op o_div (de_var 1) de_int))
    (dss_one (ds_ret (de_op o_add (de_op o_add (de_slice (de_var 0) dpo_none (dpo_some (de_var 2))) (de_tup (da_cons (de_op o_sub (de_op o_add (de_ix hu (de_var 0) (de_var 2)) de_int) (de_op o_mul de_int (de_op o_mod (de_var 1) de_int))) da_nil))) (de_slice (de_var 0) (dpo_some (de_op o_add (de_var 2) de_int)) dpo_none)))))
set_option maxHeartbeats 0 in
theorem ok_is_whole (B : Bi mg) (C : Ks K mg) {f : Addr} {fd : FuncData} (F : Fun K "is_whole" "is_whole" s_is_whole f fd) (gm : mg "is_whole" = some (.ref f)) (hb : Binds K fd ["thing"] []) : Fn P w K mg base 1 "is_whole" 1 m_is_whole := by
  refine fn_mk (N := N_is_whole) (fb := b_is_whole) F sc_is_whole gm hb fun cdv A outer s H E hr => ?_
  have hu := hu_ofG hr
  exact (dss_one (ds_ret (de_and (de_isi (T := "int") (by rfl) B.z_isinstance bb_isinstance (de_var 0) (by rfl) B.z_int bb_int) (de_one (de_not (de_isi (T := "bool") (by rfl) B.z_isinstance bb_isinstance (de_var 0) (by rfl) B.z_bool bb_bool))))))
set_option maxHeartbeats 0 in
theorem ok_is_cube (B : Bi mg) (C : Ks K mg) {f : Addr} {fd : FuncData} (F : Fun K "is_cube" "is_cube" s_is_cube f fd) (gm : mg "is_cube" = some (.ref f)) (hb : Binds K fd ["thing"] []) (F_is_whole : Fn P w K mg base 1 "is_whole" 1 c_is_whole) : Fn P w K mg base 2 "is_cube" 1 m_is_cube := by
  refine fn_mk (N := N_is_cube) (fb := b_is_cube) F sc_is_cube gm hb fun cdv A outer s H E hr => ?_
  have hu := hu_ofG hr
  exact (dss_cons (ds_if (dt_w (dw_or (dt_not (dt_val (de_isi (T := "tuple") (by rfl) B.z_isinstance bb_isinstance (de_var 0) (by rfl) B.z_tuple bb_tuple))) (dw_or1 (dt_cmp (o_ne hr.units) (de_callB c_len (by rfl) B.z_len bb_len (da_cons (de_var 0) da_nil)) de_int (nomark _))))) (dss_one (ds_ret de_bl)) dss_nil)
    (dss_one (ds_ret (de_callBL (n_all rfl) (by rfl) B.z_all bb_all (le_lc (own := [("number", 1)]) rfl sc_is_cube.nd (di_seq (de_var 0)) (blkOk_by (N := N_is_cube) (sc := defScope s_is_cube) (by decide +kernel)) (fun _ _ _ _ _ => (dg_name (i := 1) sc_is_cube.nd rfl (by first | exact Or.inl rfl | exact Or.inr rfl))) (fun _ _ _ _ _ => dts_nil) (fun _ _ _ _ _ => (de_and (de_callF (F_is_whole.mono (by decide)) hr (by rfl) (da_cons (de_var 1) da_nil)) (de_one (de_chain o_le o_le (de_un u_neg (de_glob (by rfl) C.g_FARTHEST C.r_FARTHEST C.p_FARTHEST)) (de_var 1) (de_glob (by rfl) C.g_FARTHEST C.r_FARTHEST C.p_FARTHEST))))))))))
set_option maxHeartbeats 0 in
theorem ok_hang_together (B : Bi mg) (C : Ks K mg) {f : Addr} {fd : FuncData} (F : Fun K "hang_together" "hang_together" s_hang_together f fd) (gm : mg "hang_together" = some (.ref f)) (hb : Binds K fd ["cubes"] []) (F_beside_cube : Fn P w K mg base 1 "beside_cube" 2 c_beside_cube) : Fn P w K mg base 2 "hang_together" 1 m_hang_together := by
  refine fn_mk (N := N_hang_together) (fb := b_hang_together) F sc_hang_together gm hb fun cdv A outer s H E hr => ?_
  have hu := hu_ofG hr
  exact (dss_cons (ds_set (i := 1) sc_hang_together.nd rfl (by first | exact Or.inl rfl | exact Or.inr rfl) (de_callTyL (n_dict hr.units65 rfl) (by rfl) B.z_dict bb_dict (le_lc (own := [("cube", 7)]) rfl sc_hang_together.nd (di_seq (de_var 0)) (blkOk_by (N := N_hang_together) (sc := defScope s_hang_together) (by decide +kernel)) (fun _ _ _ _ _ => (dg_name (i := 7) sc_hang_together.nd rfl (by first | exact Or.inl rfl | exact Or.inr rfl))) (fun _ _ _ _ _ => dts_nil) (fun _ _ _ _ _ => (de_tup (da_cons (de_var 7) (da_cons de_bl da_nil)))))))
    (dss_cons (ds_set (i := 2) sc_hang_together.nd rfl (by first | exact Or.inl rfl | exact Or.inr rfl) (de_dict hr.units (dp_cons (de_ix hu (de_var 0) de_int) de_bl dp_nil)))
    (dss_cons (ds_set (i := 3) sc_hang_together.nd rfl (by first | exact Or.inl rfl | exact Or.inr rfl) (de_new (le_lst (da_cons (de_ix hu (de_var 0) de_int) da_nil))))
    (dss_cons (ds_while 1000000 PassesOwn.never (dt_cmp o_gt (de_callB c_len (by rfl) B.z_len bb_len (da_cons (de_var 3) da_nil)) de_int (nomark _)) (dss_cons (ds_set (i := 4) sc_hang_together.nd rfl (by first | exact Or.inl rfl | exact Or.inr rfl) (de_lm0 PySem.F.slot_list_pop PySem.F.type_list_pop t_pop (de_var 3)))
    (dss_one (ds_for PassesOwn.never rfl (di_range1 (by rfl) B.z_range (da_cons (de_glob (by rfl) C.g_DIRECTIONS C.r_DIRECTIONS C.p_DIRECTIONS) da_nil)) (dg_name (i := 5) sc_hang_together.nd rfl (by first | exact Or.inl rfl | exact Or.inr rfl)) (dss_cons (ds_set (i := 6) sc_hang_together.nd rfl (by first | exact Or.inl rfl | exact Or.inr rfl) (de_callF (F_beside_cube.mono (by decide)) hr (by rfl) (da_cons (de_var 4) (da_cons (de_var 5) da_nil))))
    (dss_one (ds_if (dt_w (dw_and (dt_cmp (o_in hr.units65) (de_var 6) (de_var 1) rfl) (dw_and1 (dt_cmp (o_notIn hr.units65) (de_var 6) (de_var 2) rfl)))) (dss_cons (ds_store hu de_bl (de_var 2) (de_var 6))
    (dss_one (ds_expr (de_lm PySem.F.slot_list_append PySem.F.type_list_append t_append (de_var 3) (da_cons (de_var 6) da_nil))))) dss_nil)))))))
    (dss_one (ds_ret (de_cmp (o_eq hr.units) (de_callB c_len (by rfl) B.z_len bb_len (da_cons (de_var 2) da_nil)) (de_callB c_len (by rfl) B.z_len bb_len (da_cons (de_var 1) da_nil)) (nomark _))))))))
set_option maxHeartbeats 0 in
theorem ok_is_body (B : Bi mg) (C : Ks K mg) {f : Addr} {fd : FuncData} (F : Fun K "is_body" "is_body" s_is_body f fd) (gm : mg "is_body" = some (.ref f)) (hb : Binds K fd ["thing"] []) (F_hang_together : Fn P w K mg base 2 "hang_together" 1 c_hang_together) (F_is_cube : Fn P w K mg base 2 "is_cube" 1 c_is_cube) : Fn P w K mg base 3 "is_body" 1 m_is_body := by
  refine fn_mk (N := N_is_body) (fb := b_is_body) F sc_is_body gm hb fun cdv A outer s H E hr => ?_
  have hu := hu_ofG hr
  exact (dss_cons (ds_if (dt_w (dw_or (dt_not (dt_val (de_isi (T := "tuple") (by rfl) B.z_isinstance bb_isinstance (de_var 0) (by rfl) B.z_tuple bb_tuple))) (dw_or (dt_not (dt_chain o_le o_le de_int (de_callB c_len (by rfl) B.z_len bb_len (da_cons (de_var 0) da_nil)) (de_glob (by rfl) C.g_MOST_CUBES C.r_MOST_CUBES C.p_MOST_CUBES))) (dw_or1 (dt_not (dt_val (de_callBL (n_all rfl) (by rfl) B.z_all bb_all (le_lc (own := [("cube", 3)]) rfl sc_is_body.nd (di_seq (de_var 0)) (blkOk_by (N := N_is_body) (sc := defScope s_is_body) (by decide +kernel)) (fun _ _ _ _ _ => (dg_name (i := 3) sc_is_body.nd rfl (by first | exact Or.inl rfl | exact Or.inr rfl))) (fun _ _ _ _ _ => dts_nil) (fun _ _ _ _ _ => (de_callF (F_is_cube.mono (by decide)) hr (by rfl) (da_cons (de_var 3) da_nil))))))))))) (dss_one (ds_ret de_bl)) dss_nil)
    (dss_cons (ds_if (dt_not (dt_val (de_callBL (n_all rfl) (by rfl) B.z_all bb_all (le_lc (own := [("one", 1), ("other", 2)]) rfl sc_is_body.nd (di_zip (by rfl) B.z_zip (de_var 0) (de_slice (de_var 0) (dpo_some de_int) dpo_none)) (blkOk_by (N := N_is_body) (sc := defScope s_is_body) (by decide +kernel)) (fun _ _ _ _ _ => (dg_tup rfl (dgs_cons (dg_name (i := 1) sc_is_body.nd rfl (by first | exact Or.inl rfl | exact Or.inr rfl)) (dgs_cons (dg_name (i := 2) sc_is_body.nd rfl (by first | exact Or.inl rfl | exact Or.inr rfl)) dgs_nil)))) (fun _ _ _ _ _ => dts_nil) (fun _ _ _ _ _ => (de_cmp (o_lt hr.units0) (de_var 1) (de_var 2) (nomark _))))))) (dss_one (ds_ret de_bl)) dss_nil)
    (dss_one (ds_ret (de_callF (F_hang_together.mono (by decide)) hr (by rfl) (da_cons (de_var 0) da_nil))))))
set_option maxHeartbeats 0 in
theorem ok_home (B : Bi mg) (C : Ks K mg) {f : Addr} {fd : FuncData} (F : Fun K "home" "home" s_home f fd) (gm : mg "home" = some (.ref f)) (hb : Binds K fd ["body"] []) : Fn P w K mg base 1 "home" 1 m_home := by
  refine fn_mk (N := N_home) (fb := b_home) F sc_home gm hb fun cdv A outer s H E hr => ?_
  have hu := hu_ofG hr
  exact (dss_cons (ds_set (i := 1) sc_home.nd rfl (by first | exact Or.inl rfl | exact Or.inr rfl) (de_new (le_lc (own := [("axis", 2)]) rfl sc_home.nd (di_range1 (by rfl) B.z_range (da_cons de_int da_nil)) (blkOk_by (N := N_home) (sc := defScope s_home) (by decide +kernel)) (fun _ _ _ _ _ => (dg_name (i := 2) sc_home.nd rfl (by first | exact Or.inl rfl | exact Or.inr rfl))) (fun _ _ _ _ _ => dts_nil) (fun _ _ _ _ _ => (de_callBL (n_min rfl) (by rfl) B.z_min bb_min (le_lc (own := [("cube", 3)]) rfl sc_home.nd (di_seq (de_var 0)) (blkOk_by (by kernel_rfl)) (fun _ _ _ _ _ => (dg_name (i := 3) sc_home.nd rfl (by first | exact Or.inl rfl | exact Or.inr rfl))) (fun _ _ _ _ _ => dts_nil) (fun _ _ _ _ _ => (de_ix hu (de_var 3) (de_var 2)))))))))
    (dss_one (ds_ret (de_callTyL n_tuple (by rfl) B.z_tuple bb_tuple (le_lc (own := [("cube", 3)]) rfl sc_home.nd (di_seq (de_var 0)) (blkOk_by (N := N_home) (sc := defScope s_home) (by decide +kernel)) (fun _ _ _ _ _ => (dg_name (i := 3) sc_home.nd rfl (by first | exact Or.inl rfl | exact Or.inr rfl))) (fun _ _ _ _ _ => dts_nil) (fun _ _ _ _ _ => (de_callTyL n_tuple (by rfl) B.z_tuple bb_tuple (le_lc (own := [("axis", 2)]) rfl sc_home.nd (di_range1 (by rfl) B.z_range (da_cons de_int da_nil)) (blkOk_by (by kernel_rfl)) (fun _ _ _ _ _ => (dg_name (i := 2) sc_home.nd rfl (by first | exact Or.inl rfl | exact Or.inr rfl))) (fun _ _ _ _ _ => dts_nil) (fun _ _ _ _ _ => (de_op o_sub (de_ix hu (de_var 3) (de_var 2)) (de_ix hu (de_var 1) (de_var 2))))))))))))
set_option maxHeartbeats 0 in
theorem ok_third_direction (B : Bi mg) (C : Ks K mg) {f : Addr} {fd : FuncData} (F : Fun K "third_direction" "third_direction" s_third_direction f fd) (gm : mg "third_direction" = some (.ref f)) (hb : Binds K fd ["one", "other"] []) : Fn P w K mg base 1 "third_direction" 2 m_third_direction := by
  refine fn_mk (N := N_third_direction) (fb := b_third_direction) F sc_third_direction gm hb fun cdv A outer s H E hr => ?_
  have hu := hu_ofG hr
  exact (dss_cons (ds_set (i := 2) sc_third_direction.nd rfl (by first | exact Or.inl rfl | exact Or.inr rfl) (de_op o_sub (de_op o_sub de_int (de_op o_div (de_var 0) de_int)) (de_op o_div (de_var 1) de_int)))
    (dss_cons (ds_set (i := 3) sc_third_direction.nd rfl (by first | exact Or.inl rfl | exact Or.inr rfl) (de_cmp (o_ne hr.units) (de_op o_mod (de_op o_add (de_op o_div (de_var 0) de_int) de_int) de_int) (de_op o_div (de_var 1) de_int) (nomark _)))
    (dss_cons (ds_set (i := 4) sc_third_direction.nd rfl (by first | exact Or.inl rfl | exact Or.inr rfl) (de_op o_add (de_op o_add (de_op o_mod (de_var 0) de_int) (de_op o_mod (de_var 1) de_int)) (de_callTy c_int (by rfl) B.z_int bb_int (da_cons (de_var 3) da_nil))))
    (dss_one (ds_ret (de_op o_add (de_op o_mul de_int (de_var 2)) (de_op o_mod (de_var 4) de_int)))))))
set_option maxHeartbeats 0 in
theorem ok_spins (B : Bi mg) (C : Ks K mg) {f : Addr} {fd : FuncData} (F : Fun K "spins" "spins" s_spins f fd) (gm : mg "spins" = some (.ref f)) (hb : Binds K fd [] []) (F_third_direction : Fn P w K mg base 1 "third_direction" 2 c_third_direction) : Fn P w K mg base 2 "spins" 0 m_spins := by
  refine fn_mk (N := N_spins) (fb := b_spins) F sc_spins gm hb fun cdv A outer s H E hr => ?_
  have hu := hu_ofG hr
  exact (dss_cons (ds_set (i := 0) sc_spins.nd rfl (by first | exact Or.inl rfl | exact Or.inr rfl) (de_new (le_lst da_nil)))
    (dss_cons (ds_for PassesOwn.never rfl (di_range1 (by rfl) B.z_range (da_cons (de_glob (by rfl) C.g_DIRECTIONS C.r_DIRECTIONS C.p_DIRECTIONS) da_nil)) (dg_name (i := 1) sc_spins.nd rfl (by first | exact Or.inl rfl | exact Or.inr rfl)) (dss_one (ds_for PassesOwn.never rfl (di_range1 (by rfl) B.z_range (da_cons (de_glob (by rfl) C.g_DIRECTIONS C.r_DIRECTIONS C.p_DIRECTIONS) da_nil)) (dg_name (i := 2) sc_spins.nd rfl (by first | exact Or.inl rfl | exact Or.inr rfl)) (dss_one (ds_if (dt_cmp (o_ne hr.units) (de_op o_div (de_var 1) de_int) (de_op o_div (de_var 2) de_int) (nomark _)) (dss_one (ds_expr (de_lm PySem.F.slot_list_append PySem.F.type_list_append t_append (de_var 0) (da_cons (de_tup (da_cons (de_var 1) (da_cons (de_var 2) (da_cons (de_callF (F_third_direction.mono (by decide)) hr (by rfl) (da_cons (de_var 1) (da_cons (de_var 2) da_nil))) da_nil)))) da_nil)))) dss_nil)))))
    (dss_one (ds_ret (de_var 0)))))
set_option maxHeartbeats 0 in
theorem ok_spun_cube (B : Bi mg) (C : Ks K mg) {f : Addr} {fd : FuncData} (F : Fun K "spun_cube" "spun_cube" s_spun_cube f fd) (gm : mg "spun_cube" = some (.ref f)) (hb : Binds K fd ["cube", "spin"] []) : Fn P w K mg base 1 "spun_cube" 2 m_spun_cube := by
  refine fn_mk (N := N_spun_cube) (fb := b_spun_cube) F sc_spun_cube gm hb fun cdv A outer s H E hr => ?_
  have hu := hu_ofG hr
  exact (dss_cons (ds_set (i := 2) sc_spun_cube.nd rfl (by first | exact Or.inl rfl | exact Or.inr rfl) (de_new (le_lst (da_cons de_int (da_cons de_int (da_cons de_int da_nil))))))
    (dss_cons (ds_for (fi := (mZip (mVar 0) (mVar 1))) (t := (.tp ((.nm 3) :: ((.nm 4) :: [])))) (f := B1_spun_cube) PassesOwn.never rfl (di_zip (by rfl) B.z_zip (de_var 0) (de_var 1)) (dg_tup rfl (dgs_cons (dg_name (i := 3) sc_spun_cube.nd rfl (by first | exact Or.inl rfl | exact Or.inr rfl)) (dgs_cons (dg_name (i := 4) sc_spun_cube.nd rfl (by first | exact Or.inl rfl | exact Or.inr rfl)) dgs_nil))) (dss_one (ds_store hu (de_op o_mul (de_var 3) (de_op o_sub de_int (de_op o_mul de_int (de_op o_mod (de_var 4) de_int)))) (de_var 2) (de_op o_div (de_var 4) de_int))))
    (dss_one (ds_ret (de_callTy c_tuple (by rfl) B.z_tuple bb_tuple (da_cons (de_var 2) da_nil))))))
set_option maxHeartbeats 0 in
theorem ok_spun (B : Bi mg) (C : Ks K mg) {f : Addr} {fd : FuncData} (F : Fun K "spun" "spun" s_spun f fd) (gm : mg "spun" = some (.ref f)) (hb : Binds K fd ["body", "spin"] []) (F_home : Fn P w K mg base 1 "home" 1 c_home) (F_spun_cube : Fn P w K mg base 1 "spun_cube" 2 c_spun_cube) : Fn P w K mg base 2 "spun" 2 m_spun := by
  refine fn_mk (N := N_spun) (fb := b_spun) F sc_spun gm hb fun cdv A outer s H E hr => ?_
  have hu := hu_ofG hr
  exact (dss_one (ds_ret (de_callF (F_home.mono (by decide)) hr (by rfl) (da_cons (de_callTyL n_tuple (by rfl) B.z_tuple bb_tuple (le_sortedL hr.units (by rfl) B.z_sorted bb_sorted (le_lc (own := [("cube", 2)]) rfl sc_spun.nd (di_seq (de_var 0)) (blkOk_by (N := N_spun) (sc := defScope s_spun) (by decide +kernel)) (fun _ _ _ _ _ => (dg_name (i := 2) sc_spun.nd rfl (by first | exact Or.inl rfl | exact Or.inr rfl))) (fun _ _ _ _ _ => dts_nil) (fun _ _ _ _ _ => (de_callF (F_spun_cube.mono (by decide)) hr (by rfl) (da_cons (de_var 2) (da_cons (de_var 1) da_nil))))))) da_nil))))
set_option maxHeartbeats 0 in
theorem ok_least_body (B : Bi mg) (C : Ks K mg) {f : Addr} {fd : FuncData} (F : Fun K "least_body" "least_body" s_least_body f fd) (gm : mg "least_body" = some (.ref f)) (hb : Binds K fd ["body"] []) (F_spins : Fn P w K mg base 2 "spins" 0 c_spins) (F_spun : Fn P w K mg base 2 "spun" 2 c_spun) : Fn P w K mg base 3 "least_body" 1 m_least_body := by
  refine fn_mk (N := N_least_body) (fb := b_least_body) F sc_least_body gm hb fun cdv A outer s H E hr => ?_
  have hu := hu_ofG hr
  exact (dss_one (ds_ret (de_callBL (n_best false rfl hr.units) (by rfl) B.z_min bb_min (le_lc (own := [("spin", 1)]) rfl sc_least_body.nd (di_seq (de_callF0 (F_spins.mono (by decide)) hr (by rfl))) (blkOk_by (N := N_least_body) (sc := defScope s_least_body) (by decide +kernel)) (fun _ _ _ _ _ => (dg_name (i := 1) sc_least_body.nd rfl (by first | exact Or.inl rfl | exact Or.inr rfl))) (fun _ _ _ _ _ => dts_nil) (fun _ _ _ _ _ => (de_callF (F_spun.mono (by decide)) hr (by rfl) (da_cons (de_var 0) (da_cons (de_var 1) da_nil))))))))
set_option maxHeartbeats 0 in
theorem ok_L_hand (B : Bi mg) (C : Ks K mg) {f : Addr} {fd : FuncData} (F : Fun K "_law_hand" "_law_hand" s_L_hand f fd) (gm : mg "_law_hand" = some (.ref f)) (hb : Binds K fd ["_law_script", "_law_k"] []) : Fn P w K mg base 1 "_law_hand" 2 m_L_hand := by
  refine fn_mk (N := N_L_hand) (fb := b_L_hand) F sc_L_hand gm hb fun cdv A outer s H E hr => ?_
  have hu := hu_ofG hr
  exact (dss_cons (ds_set (i := 2) sc_L_hand.nd rfl (by first | exact Or.inl rfl | exact Or.inr rfl) de_int)
    (dss_cons (ds_if (dt_cmp (o_lt hr.units0) (de_var 1) (de_callB c_len (by rfl) B.z_len bb_len (da_cons (de_var 0) da_nil)) (nomark _)) (dss_one (ds_set (i := 2) sc_L_hand.nd rfl (by first | exact Or.inl rfl | exact Or.inr rfl) (de_ix hu (de_var 0) (de_var 1)))) dss_nil)
    (dss_one (ds_ret (de_new (le_lst (da_cons (de_op o_mul (de_var 2) (de_callTy c_int (by rfl) B.z_int bb_int (da_cons (de_cmp o_ge (de_var 2) (de_op o_pow de_int de_int) (nomark _)) da_nil))) (da_cons (de_op o_add (de_op o_add (de_op o_mod (de_var 2) de_int) (de_op o_mul de_int (de_var 1))) de_int) (da_cons de_int da_nil)))))))))
set_option maxHeartbeats 0 in
theorem ok_L_take (B : Bi mg) (C : Ks K mg) {f : Addr} {fd : FuncData} (F : Fun K "_law_take" "_law_take" s_L_take f fd) (gm : mg "_law_take" = some (.ref f)) (hb : Binds K fd ["_law_hand_here", "_law_many"] []) : Fn P w K mg base 1 "_law_take" 2 m_L_take := by
  refine fn_mk (N := N_L_take) (fb := b_L_take) F sc_L_take gm hb fun cdv A outer s H E hr => ?_
  have hu := hu_ofG hr
  exact (dss_cons (ds_if (dt_cmp o_gt (de_ix hu (de_var 0) de_int) de_int (nomark _)) (dss_cons (ds_set (i := 2) sc_L_take.nd rfl (by first | exact Or.inl rfl | exact Or.inr rfl) (de_op o_mod (de_ix hu (de_var 0) de_int) (de_var 1)))
    (dss_cons (ds_store hu (de_op o_div (de_ix hu (de_var 0) de_int) (de_var 1)) (de_var 0) de_int)
    (dss_one (ds_ret (de_var 2))))) dss_nil)
    (dss_cons (ds_store hu (de_op o_add (de_ix hu (de_var 0) de_int) de_int) (de_var 0) de_int)
    (dss_cons (ds_set (i := 3) sc_L_take.nd rfl (by first | exact Or.inl rfl | exact Or.inr rfl) (de_ix hu (de_var 0) de_int))
    (dss_cons (ds_set (i := 4) sc_L_take.nd rfl (by first | exact Or.inl rfl | exact Or.inr rfl) (de_op o_mod (de_op o_mul (de_ix hu (de_var 0) de_int) (de_op o_add (de_op o_add de_int (de_op o_mul (de_op o_mul de_int (de_var 3)) (de_var 3))) (de_op o_mul de_int (de_var 3)))) de_int))
    (dss_cons (ds_set (i := 5) sc_L_take.nd rfl (by first | exact Or.inl rfl | exact Or.inr rfl) (de_op o_add (de_op o_add (de_op o_mod (de_var 4) de_int) (de_op o_mul (de_var 3) de_int)) de_int))
    (dss_cons (ds_set (i := 4) sc_L_take.nd rfl (by first | exact Or.inl rfl | exact Or.inr rfl) (de_op o_mod (de_op o_mul (de_var 4) (de_var 5)) de_int))
    (dss_one (ds_ret (de_op o_mod (de_op o_add (de_op o_div (de_var 4) de_int) (de_op o_div (de_var 4) de_int)) (de_var 1))))))))))
set_option maxHeartbeats 0 in
theorem ok_L_pick (B : Bi mg) (C : Ks K mg) {f : Addr} {fd : FuncData} (F : Fun K "_law_pick" "_law_pick" s_L_pick f fd) (gm : mg "_law_pick" = some (.ref f)) (hb : Binds K fd ["_law_hand_here", "_law_some"] []) (F_L_take : Fn P w K mg base 1 "_law_take" 2 c_L_take) : Fn P w K mg base 2 "_law_pick" 2 m_L_pick := by
  refine fn_mk (N := N_L_pick) (fb := b_L_pick) F sc_L_pick gm hb fun cdv A outer s H E hr => ?_
  have hu := hu_ofG hr
  exact (dss_one (ds_ret (de_ix hu (de_var 1) (de_callF (F_L_take.mono (by decide)) hr (by rfl) (da_cons (de_var 0) (da_cons (de_callB c_len (by rfl) B.z_len bb_len (da_cons (de_var 1) da_nil)) da_nil))))))
set_option maxHeartbeats 0 in
theorem ok_L_beside (B : Bi mg) (C : Ks K mg) {f : Addr} {fd : FuncData} (F : Fun K "_law_beside" "_law_beside" s_L_beside f fd) (gm : mg "_law_beside" = some (.ref f)) (hb : Binds K fd ["_law_cube", "_law_d"] []) : Fn P w K mg base 1 "_law_beside" 2 m_L_beside := by
  refine fn_mk (N := N_L_beside) (fb := b_L_beside) F sc_L_beside gm hb fun cdv A outer s H E hr => ?_
  have hu := hu_ofG hr
  exact (dss_cons (ds_set (i := 2) sc_L_beside.nd rfl (by first | exact Or.inl rfl | exact Or.inr rfl) (de_ix hu (de_new (le_lst (da_cons de_int (da_cons (de_un u_neg de_int) da_nil)))) (de_op o_mod (de_var 1) de_int)))
    (dss_one (ds_ret (de_op o_add (de_op o_add (de_slice (de_var 0) dpo_none (dpo_some (de_op o_div (de_var 1) de_int))) (de_tup (da_cons (de_op o_add (de_ix hu (de_var 0) (de_op o_div (de_var 1) de_int)) (de_var 2)) da_nil))) (de_slice (de_var 0) (dpo_some (de_op o_add (de_op o_div (de_var 1) de_int) de_int)) dpo_none)))))
set_option maxHeartbeats 0 in
theorem ok_L_begun (B : Bi mg) (C : Ks K mg) {f : Addr} {fd : FuncData} (F : Fun K "_law_begun" "_law_begun" s_L_begun f fd) (gm : mg "_law_begun" = some (.ref f)) (hb : Binds K fd ["_law_hand_here"] []) (F_L_take : Fn P w K mg base 1 "_law_take" 2 c_L_take) : Fn P w K mg base 2 "_law_begun" 1 m_L_begun := by
  refine fn_mk (N := N_L_begun) (fb := b_L_begun) F sc_L_begun gm hb fun cdv A outer s H E hr => ?_
  have hu := hu_ofG hr
  exact (dss_cons (ds_set (i := 1) sc_L_begun.nd rfl (by first | exact Or.inl rfl | exact Or.inr rfl) (de_callF (F_L_take.mono (by decide)) hr (by rfl) (da_cons (de_var 0) (da_cons de_int da_nil))))
    (dss_cons (ds_if (dt_cmp (o_lt hr.units0) (de_var 1) de_int (nomark _)) (dss_one (ds_ret (de_new (le_lst (da_cons (de_tup (da_cons de_int (da_cons de_int (da_cons de_int da_nil)))) da_nil))))) dss_nil)
    (dss_cons (ds_set (i := 2) sc_L_begun.nd rfl (by first | exact Or.inl rfl | exact Or.inr rfl) (de_new (le_lst da_nil)))
    (dss_cons (ds_for PassesOwn.never rfl (di_range1 (by rfl) B.z_range (da_cons de_int da_nil)) (dg_name (i := 3) sc_L_begun.nd rfl (by first | exact Or.inl rfl | exact Or.inr rfl)) (dss_one (ds_for PassesOwn.never rfl (di_range1 (by rfl) B.z_range (da_cons de_int da_nil)) (dg_name (i := 4) sc_L_begun.nd rfl (by first | exact Or.inl rfl | exact Or.inr rfl)) (dss_one (ds_expr (de_extend (de_var 2) (le_lc (own := [("_law_z", 6)]) rfl sc_L_begun.nd (di_range1 (by rfl) B.z_range (da_cons de_int da_nil)) (blkOk_by (N := N_L_begun) (sc := defScope s_L_begun) (by decide +kernel)) (fun _ _ _ _ _ => (dg_name (i := 6) sc_L_begun.nd rfl (by first | exact Or.inl rfl | exact Or.inr rfl))) (fun _ _ _ _ _ => dts_nil) (fun _ _ _ _ _ => (de_tup (da_cons (de_var 3) (da_cons (de_var 4) (da_cons (de_var 6) da_nil))))))))))))
    (dss_cons (ds_if (dt_cmp (o_eq hr.units) (de_var 1) de_int (nomark _)) (dss_one (ds_ret (de_new (le_lc (own := [("_law_cube", 5)]) rfl sc_L_begun.nd (di_seq (de_var 2)) (blkOk_by (N := N_L_begun) (sc := defScope s_L_begun) (by decide +kernel)) (fun _ _ _ _ _ => (dg_name (i := 5) sc_L_begun.nd rfl (by first | exact Or.inl rfl | exact Or.inr rfl))) (fun _ _ _ _ _ => (dts_one (dt_w (dw_and (dt_cmp (o_eq hr.units) (de_ix hu (de_var 5) de_int) de_int (nomark _)) (dw_and1 (dt_cmp (o_ne hr.units) (de_slice (de_var 5) dpo_none (dpo_some de_int)) (de_tup (da_cons de_int (da_cons de_int da_nil))) (nomark _))))))) (fun _ _ _ _ _ => (de_var 5)))))) dss_nil)
    (dss_cons (ds_expr (de_lm PySem.F.slot_list_remove PySem.F.type_list_remove (t_remove hr.units65) (de_var 2) (da_cons (de_tup (da_cons de_int (da_cons de_int (da_cons de_int da_nil)))) da_nil)))
    (dss_cons (ds_if (dt_cmp (o_eq hr.units) (de_var 1) de_int (nomark _)) (dss_one (ds_ret (de_var 2))) dss_nil)
    (dss_one (ds_ret (de_new (le_lc (own := [("_law_cube", 5)]) rfl sc_L_begun.nd (di_seq (de_var 2)) (blkOk_by (N := N_L_begun) (sc := defScope s_L_begun) (by decide +kernel)) (fun _ _ _ _ _ => (dg_name (i := 5) sc_L_begun.nd rfl (by first | exact Or.inl rfl | exact Or.inr rfl))) (fun _ _ _ _ _ => (dts_one (dt_cmp (o_in hr.units65) de_int (de_var 5) rfl))) (fun _ _ _ _ _ => (de_var 5)))))))))))))
set_option maxHeartbeats 0 in
theorem ok_L_body (B : Bi mg) (C : Ks K mg) {f : Addr} {fd : FuncData} (F : Fun K "_law_body" "_law_body" s_L_body f fd) (gm : mg "_law_body" = some (.ref f)) (hb : Binds K fd ["_law_hand_here", "_law_most"] []) (F_L_begun : Fn P w K mg base 2 "_law_begun" 1 c_L_begun) (F_L_beside : Fn P w K mg base 1 "_law_beside" 2 c_L_beside) (F_L_pick : Fn P w K mg base 2 "_law_pick" 2 c_L_pick) (F_L_take : Fn P w K mg base 1 "_law_take" 2 c_L_take) : Fn P w K mg base 3 "_law_body" 2 m_L_body := by
  refine fn_mk (N := N_L_body) (fb := b_L_body) F sc_L_body gm hb fun cdv A outer s H E hr => ?_
  have hu := hu_ofG hr
  exact (dss_cons (ds_set (i := 2) sc_L_body.nd rfl (by first | exact Or.inl rfl | exact Or.inr rfl) (de_callTyL (n_dict hr.units65 rfl) (by rfl) B.z_dict bb_dict (le_lc (own := [("_law_cube", 9)]) rfl sc_L_body.nd (di_seq (de_callF (F_L_begun.mono (by decide)) hr (by rfl) (da_cons (de_var 0) da_nil))) (blkOk_by (N := N_L_body) (sc := defScope s_L_body) (by decide +kernel)) (fun _ _ _ _ _ => (dg_name (i := 9) sc_L_body.nd rfl (by first | exact Or.inl rfl | exact Or.inr rfl))) (fun _ _ _ _ _ => dts_nil) (fun _ _ _ _ _ => (de_tup (da_cons (de_var 9) (da_cons de_bl da_nil)))))))
    (dss_cons (ds_set (i := 3) sc_L_body.nd rfl (by first | exact Or.inl rfl | exact Or.inr rfl) (de_tup (da_cons de_int (da_cons de_int (da_cons de_int da_nil)))))
    (dss_cons (ds_if (dt_cmp (o_notIn hr.units65) (de_var 3) (de_var 2) rfl) (dss_one (ds_set (i := 3) sc_L_body.nd rfl (by first | exact Or.inl rfl | exact Or.inr rfl) (de_ix hu (de_new (le_sorted rfl hr.units (by rfl) B.z_sorted bb_sorted (de_var 2))) de_int))) dss_nil)
    (dss_cons (ds_for PassesOwn.never rfl (di_range1 (by rfl) B.z_range (da_cons (de_callF (F_L_take.mono (by decide)) hr (by rfl) (da_cons (de_var 0) (da_cons (de_op o_add (de_var 1) de_int) da_nil))) da_nil)) (dg_name (i := 4) sc_L_body.nd rfl (by first | exact Or.inl rfl | exact Or.inr rfl)) (dss_cons (ds_set (i := 5) sc_L_body.nd rfl (by first | exact Or.inl rfl | exact Or.inr rfl) (de_callF (F_L_take.mono (by decide)) hr (by rfl) (da_cons (de_var 0) (da_cons de_int da_nil))))
    (dss_cons (ds_if (dt_cmp o_gt (de_callF (F_L_take.mono (by decide)) hr (by rfl) (da_cons (de_var 0) (da_cons de_int da_nil))) de_int (nomark _)) (dss_one (ds_set (i := 3) sc_L_body.nd rfl (by first | exact Or.inl rfl | exact Or.inr rfl) (de_callF (F_L_pick.mono (by decide)) hr (by rfl) (da_cons (de_var 0) (da_cons (de_new (le_sorted rfl hr.units (by rfl) B.z_sorted bb_sorted (de_var 2))) da_nil))))) dss_nil)
    (dss_cons (ds_set (i := 3) sc_L_body.nd rfl (by first | exact Or.inl rfl | exact Or.inr rfl) (de_callF (F_L_beside.mono (by decide)) hr (by rfl) (da_cons (de_var 3) (da_cons (de_var 5) da_nil))))
    (dss_one (ds_if (dt_cmp (o_lt hr.units0) (de_callB c_len (by rfl) B.z_len bb_len (da_cons (de_var 2) da_nil)) de_int (nomark _)) (dss_one (ds_store hu de_bl (de_var 2) (de_var 3))) (dss_one (ds_set (i := 3) sc_L_body.nd rfl (by first | exact Or.inl rfl | exact Or.inr rfl) (de_ix hu (de_new (le_sorted rfl hr.units (by rfl) B.z_sorted bb_sorted (de_var 2))) de_int)))))))))
    (dss_cons (ds_asgL rfl (le_lc (own := [("_law_k", 4)]) rfl sc_L_body.nd (di_range1 (by rfl) B.z_range (da_cons de_int da_nil)) (blkOk_by (N := N_L_body) (sc := defScope s_L_body) (by decide +kernel)) (fun _ _ _ _ _ => (dg_name (i := 4) sc_L_body.nd rfl (by first | exact Or.inl rfl | exact Or.inr rfl))) (fun _ _ _ _ _ => dts_nil) (fun _ _ _ _ _ => (de_callF (F_L_pick.mono (by decide)) hr (by rfl) (da_cons (de_var 0) (da_cons (de_new (le_lst (da_cons de_int (da_cons de_int (da_cons (de_un u_neg de_int) (da_cons de_int da_nil)))))) da_nil))))) (dgs_cons (dg_name (i := 6) sc_L_body.nd rfl (by first | exact Or.inl rfl | exact Or.inr rfl)) (dgs_cons (dg_name (i := 7) sc_L_body.nd rfl (by first | exact Or.inl rfl | exact Or.inr rfl)) (dgs_cons (dg_name (i := 8) sc_L_body.nd rfl (by first | exact Or.inl rfl | exact Or.inr rfl)) dgs_nil))))
    (dss_one (ds_ret (de_callTyL n_tuple (by rfl) B.z_tuple bb_tuple (le_sortedL hr.units (by rfl) B.z_sorted bb_sorted (le_lock (fd := (mVar 2)) (le_lc (own := [("_law_x", 10), ("_law_y", 11), ("_law_z", 12)]) rfl sc_L_body.nd (di_keys (de_var 2)) (blkOk_by (N := N_L_body) (sc := defScope s_L_body) (by decide +kernel)) (fun _ _ _ _ _ => (dg_tup rfl (dgs_cons (dg_name (i := 10) sc_L_body.nd rfl (by first | exact Or.inl rfl | exact Or.inr rfl)) (dgs_cons (dg_name (i := 11) sc_L_body.nd rfl (by first | exact Or.inl rfl | exact Or.inr rfl)) (dgs_cons (dg_name (i := 12) sc_L_body.nd rfl (by first | exact Or.inl rfl | exact Or.inr rfl)) dgs_nil))))) (fun _ _ _ _ _ => dts_nil) (fun _ _ _ _ _ => (de_tup (da_cons (de_op o_add (de_var 10) (de_var 6)) (da_cons (de_op o_add (de_var 11) (de_var 7)) (da_cons (de_op o_add (de_var 12) (de_var 8)) da_nil))))))))))))))))
set_option maxHeartbeats 0 in
theorem ok_L_home (B : Bi mg) (C : Ks K mg) {f : Addr} {fd : FuncData} (F : Fun K "_law_home" "_law_home" s_L_home f fd) (gm : mg "_law_home" = some (.ref f)) (hb : Binds K fd ["_law_cubes"] []) : Fn P w K mg base 1 "_law_home" 1 m_L_home := by
  refine fn_mk (N := N_L_home) (fb := b_L_home) F sc_L_home gm hb fun cdv A outer s H E hr => ?_
  have hu := hu_ofG hr
  exact (dss_cons (ds_asgL rfl (le_lc (own := [("_law_axis", 4)]) rfl sc_L_home.nd (di_range1 (by rfl) B.z_range (da_cons de_int da_nil)) (blkOk_by (N := N_L_home) (sc := defScope s_L_home) (by decide +kernel)) (fun _ _ _ _ _ => (dg_name (i := 4) sc_L_home.nd rfl (by first | exact Or.inl rfl | exact Or.inr rfl))) (fun _ _ _ _ _ => dts_nil) (fun _ _ _ _ _ => (de_callBL (n_min rfl) (by rfl) B.z_min bb_min (le_lc (own := [("_law_cube", 5)]) rfl sc_L_home.nd (di_seq (de_var 0)) (blkOk_by (by kernel_rfl)) (fun _ _ _ _ _ => (dg_name (i := 5) sc_L_home.nd rfl (by first | exact Or.inl rfl | exact Or.inr rfl))) (fun _ _ _ _ _ => dts_nil) (fun _ _ _ _ _ => (de_ix hu (de_var 5) (de_var 4))))))) (dgs_cons (dg_name (i := 1) sc_L_home.nd rfl (by first | exact Or.inl rfl | exact Or.inr rfl)) (dgs_cons (dg_name (i := 2) sc_L_home.nd rfl (by first | exact Or.inl rfl | exact Or.inr rfl)) (dgs_cons (dg_name (i := 3) sc_L_home.nd rfl (by first | exact Or.inl rfl | exact Or.inr rfl)) dgs_nil))))
    (dss_one (ds_ret (de_callTyL n_tuple (by rfl) B.z_tuple bb_tuple (le_sortedL hr.units (by rfl) B.z_sorted bb_sorted (le_lc (own := [("_law_cube", 5)]) rfl sc_L_home.nd (di_seq (de_var 0)) (blkOk_by (N := N_L_home) (sc := defScope s_L_home) (by decide +kernel)) (fun _ _ _ _ _ => (dg_name (i := 5) sc_L_home.nd rfl (by first | exact Or.inl rfl | exact Or.inr rfl))) (fun _ _ _ _ _ => dts_nil) (fun _ _ _ _ _ => (de_tup (da_cons (de_op o_sub (de_ix hu (de_var 5) de_int) (de_var 1)) (da_cons (de_op o_sub (de_ix hu (de_var 5) de_int) (de_var 2)) (da_cons (de_op o_sub (de_ix hu (de_var 5) de_int) (de_var 3)) da_nil)))))))))))
set_option maxHeartbeats 0 in
theorem ok_L_other (B : Bi mg) (C : Ks K mg) {f : Addr} {fd : FuncData} (F : Fun K "_law_other" "_law_other" s_L_other f fd) (gm : mg "_law_other" = some (.ref f)) (hb : Binds K fd ["_law_hand_here", "_law_body_here"] []) (F_L_beside : Fn P w K mg base 1 "_law_beside" 2 c_L_beside) (F_L_pick : Fn P w K mg base 2 "_law_pick" 2 c_L_pick) (F_L_take : Fn P w K mg base 1 "_law_take" 2 c_L_take) (F_is_body : Fn P w K mg base 3 "is_body" 1 c_is_body) (F_spins : Fn P w K mg base 2 "spins" 0 c_spins) (F_spun : Fn P w K mg base 2 "spun" 2 c_spun) : Fn P w K mg base 4 "_law_other" 2 m_L_other := by
  refine fn_mk (N := N_L_other) (fb := b_L_other) F sc_L_other gm hb fun cdv A outer s H E hr => ?_
  have hu := hu_ofG hr
  exact (dss_cons (ds_set (i := 2) sc_L_other.nd rfl (by first | exact Or.inl rfl | exact Or.inr rfl) (de_callF (F_L_take.mono (by decide)) hr (by rfl) (da_cons (de_var 0) (da_cons de_int da_nil))))
    (dss_cons (ds_if (dt_cmp (o_eq hr.units) (de_var 2) de_int (nomark _)) (dss_one (ds_ret (de_callF (F_spun.mono (by decide)) hr (by rfl) (da_cons (de_var 1) (da_cons (de_callF (F_L_pick.mono (by decide)) hr (by rfl) (da_cons (de_var 0) (da_cons (de_callF0 (F_spins.mono (by decide)) hr (by rfl)) da_nil))) da_nil))))) dss_nil)
    (dss_cons (ds_set (i := 3) sc_L_other.nd rfl (by first | exact Or.inl rfl | exact Or.inr rfl) (de_callTyL n_tuple (by rfl) B.z_tuple bb_tuple (le_sortedL hr.units (by rfl) B.z_sorted bb_sorted (le_lc (own := [("_law_x", 7), ("_law_y", 8), ("_law_z", 9)]) rfl sc_L_other.nd (di_seq (de_var 1)) (blkOk_by (N := N_L_other) (sc := defScope s_L_other) (by decide +kernel)) (fun _ _ _ _ _ => (dg_tup rfl (dgs_cons (dg_name (i := 7) sc_L_other.nd rfl (by first | exact Or.inl rfl | exact Or.inr rfl)) (dgs_cons (dg_name (i := 8) sc_L_other.nd rfl (by first | exact Or.inl rfl | exact Or.inr rfl)) (dgs_cons (dg_name (i := 9) sc_L_other.nd rfl (by first | exact Or.inl rfl | exact Or.inr rfl)) dgs_nil))))) (fun _ _ _ _ _ => dts_nil) (fun _ _ _ _ _ => (de_tup (da_cons (de_un u_neg (de_var 7)) (da_cons (de_var 8) (da_cons (de_var 9) da_nil)))))))))
    (dss_cons (ds_if (dt_cmp (o_eq hr.units) (de_var 2) de_int (nomark _)) (dss_one (ds_ret (de_var 3))) dss_nil)
    (dss_cons (ds_set (i := 4) sc_L_other.nd rfl (by first | exact Or.inl rfl | exact Or.inr rfl) (de_callF (F_L_take.mono (by decide)) hr (by rfl) (da_cons (de_var 0) (da_cons (de_callB c_len (by rfl) B.z_len bb_len (da_cons (de_var 1) da_nil)) da_nil))))
    (dss_cons (ds_set (i := 5) sc_L_other.nd rfl (by first | exact Or.inl rfl | exact Or.inr rfl) (de_callF (F_L_beside.mono (by decide)) hr (by rfl) (da_cons (de_callF (F_L_pick.mono (by decide)) hr (by rfl) (da_cons (de_var 0) (da_cons (de_var 1) da_nil))) (da_cons (de_callF (F_L_take.mono (by decide)) hr (by rfl) (da_cons (de_var 0) (da_cons de_int da_nil))) da_nil))))
    (dss_cons (ds_set (i := 6) sc_L_other.nd rfl (by first | exact Or.inl rfl | exact Or.inr rfl) (de_new (le_sortedSetZT rfl hr.units (by rfl) B.z_sorted (by rfl) B.z_set (de_op o_add (de_op o_add (de_slice (de_var 1) dpo_none (dpo_some (de_var 4))) (de_slice (de_var 1) (dpo_some (de_op o_add (de_var 4) de_int)) dpo_none)) (de_tup (da_cons (de_var 5) da_nil))))))
    (dss_cons (ds_if (dt_val (de_callF (F_is_body.mono (by decide)) hr (by rfl) (da_cons (de_callTy c_tuple (by rfl) B.z_tuple bb_tuple (da_cons (de_var 6) da_nil)) da_nil))) (dss_one (ds_ret (de_callTy c_tuple (by rfl) B.z_tuple bb_tuple (da_cons (de_var 6) da_nil)))) dss_nil)
    (dss_one (ds_ret (de_var 3)))))))))))
end
set_option maxHeartbeats 0 in
theorem body_law {P : Program} {w : World} {K : PySem.W.Frag} {mg : Str → Option Value} {base : Heap} (B : Bi mg) (C : Ks K mg)  (F_L_body : Fn P w K mg base 3 "_law_body" 2 c_L_body) (F_L_hand : Fn P w K mg base 1 "_law_hand" 2 c_L_hand) (F_L_home : Fn P w K mg base 1 "_law_home" 1 c_L_home) (F_L_other : Fn P w K mg base 4 "_law_other" 2 c_L_other) (F_L_pick : Fn P w K mg base 2 "_law_pick" 2 c_L_pick) (F_L_take : Fn P w K mg base 1 "_law_take" 2 c_L_take) (F_home : Fn P w K mg base 1 "home" 1 c_home) (F_least_body : Fn P w K mg base 3 "least_body" 1 c_least_body) (F_spins : Fn P w K mg base 2 "spins" 0 c_spins) (F_spun : Fn P w K mg base 2 "spun" 2 c_spun) {f : Addr} {cdv : Value} {A : Around} {outer : List Env} {s : Shared} {H : Hp} {E : XK}
    (hr : RoomG 4 (A.deeper (PyProof.Rows.envOfC "law" (defScope s_law) s.heap.objs.size f cdv))) : DSs (cxOf CX0 P w K mg base N_law "law" (defScope s_law) f cdv A outer s H E).nox (defBody s_law) b_law := by
  have hu := hu_ofG hr
  exact (dss_cons (ds_for (fi := (mR1 (mCons (mAs (mCons (mC (.int 2)) (mCons (mAs (mCons (mC (.int 3)) (mCons (mAs (mCons (mVar 0) mNil) gLen) mNil)) gMin2) mNil)) gMax2) mNil))) (t := (.nm 1)) (f := B1_law) PassesOwn.never rfl (di_range1 (by rfl) B.z_range (da_cons (de_callB (c_max2 rfl) (by rfl) B.z_max bb_max (da_cons de_int (da_cons (de_callB (c_min2 rfl) (by rfl) B.z_min bb_min (da_cons de_int (da_cons (de_callB c_len (by rfl) B.z_len bb_len (da_cons (de_var 0) da_nil)) da_nil))) da_nil))) da_nil)) (dg_name (i := 1) sc_law.nd rfl (by first | exact Or.inl rfl | exact Or.inr rfl)) (dss_cons (ds_set (i := 2) sc_law.nd rfl (by first | exact Or.inl rfl | exact Or.inr rfl) (de_callF (F_L_hand.mono (by decide)) hr (by rfl) (da_cons (de_var 0) (da_cons (de_var 1) da_nil))))
    (dss_cons (ds_set (i := 3) sc_law.nd rfl (by first | exact Or.inl rfl | exact Or.inr rfl) (de_callF (F_L_body.mono (by decide)) hr (by rfl) (da_cons (de_var 2) (da_cons de_int da_nil))))
    (dss_cons (ds_setLc (i := 4) (own := [("_law_spin", 12)]) rfl sc_law.nd rfl rfl (sw_true rfl rfl rfl (by decide +kernel)) (di_seq (de_callF0 (F_spins.mono (by decide)) hr (by rfl))) (blkOk_by (N := N_law) (sc := defScope s_law) (by decide +kernel)) (fun _ _ _ _ _ => (dg_name (i := 12) sc_law.nd rfl (by first | exact Or.inl rfl | exact Or.inr rfl))) (fun _ _ _ _ _ => dts_nil) (fun _ _ _ _ _ => (de_callF (F_spun.mono (by decide)) hr (by rfl) (da_cons (de_var 3) (da_cons (de_var 12) da_nil)))))
    (dss_cons (ds_set (i := 5) sc_law.nd rfl (by first | exact Or.inl rfl | exact Or.inr rfl) (de_ix hu (de_new (le_sorted rfl hr.units (by rfl) B.z_sorted bb_sorted (de_var 4))) de_int))
    (dss_cons (ds_if (dt_w (dw_or (dt_cmp (o_ne hr.units) (de_callF (F_least_body.mono (by decide)) hr (by rfl) (da_cons (de_var 3) da_nil)) (de_var 5) (nomark _)) (dw_or1 (dt_cmp (o_ne hr.units) (de_callF (F_least_body.mono (by decide)) hr (by rfl) (da_cons (de_callF (F_home.mono (by decide)) hr (by rfl) (da_cons (de_var 3) da_nil)) da_nil)) (de_var 5) (nomark _))))) (dss_one (ds_ret de_bl)) dss_nil)
    (dss_cons (ds_asgL rfl (le_lc (own := [("_law_j", 13)]) rfl sc_law.nd (di_range1 (by rfl) B.z_range (da_cons de_int da_nil)) (blkOk_by (N := N_law) (sc := defScope s_law) (by decide +kernel)) (fun _ _ _ _ _ => (dg_name (i := 13) sc_law.nd rfl (by first | exact Or.inl rfl | exact Or.inr rfl))) (fun _ _ _ _ _ => dts_nil) (fun _ _ _ _ _ => (de_op o_sub (de_callF (F_L_take.mono (by decide)) hr (by rfl) (da_cons (de_var 2) (da_cons de_int da_nil))) de_int))) (dgs_cons (dg_name (i := 6) sc_law.nd rfl (by first | exact Or.inl rfl | exact Or.inr rfl)) (dgs_cons (dg_name (i := 7) sc_law.nd rfl (by first | exact Or.inl rfl | exact Or.inr rfl)) (dgs_cons (dg_name (i := 8) sc_law.nd rfl (by first | exact Or.inl rfl | exact Or.inr rfl)) dgs_nil))))
    (dss_cons (ds_set (i := 9) sc_law.nd rfl (by first | exact Or.inl rfl | exact Or.inr rfl) (de_callF (F_L_pick.mono (by decide)) hr (by rfl) (da_cons (de_var 2) (da_cons (de_var 4) da_nil))))
    (dss_cons (ds_set (i := 10) sc_law.nd rfl (by first | exact Or.inl rfl | exact Or.inr rfl) (de_callTyL n_tuple (by rfl) B.z_tuple bb_tuple (le_lc (own := [("_law_x", 14), ("_law_y", 15), ("_law_z", 16)]) rfl sc_law.nd (di_seq (de_var 9)) (blkOk_by (N := N_law) (sc := defScope s_law) (by decide +kernel)) (fun _ _ _ _ _ => (dg_tup rfl (dgs_cons (dg_name (i := 14) sc_law.nd rfl (by first | exact Or.inl rfl | exact Or.inr rfl)) (dgs_cons (dg_name (i := 15) sc_law.nd rfl (by first | exact Or.inl rfl | exact Or.inr rfl)) (dgs_cons (dg_name (i := 16) sc_law.nd rfl (by first | exact Or.inl rfl | exact Or.inr rfl)) dgs_nil))))) (fun _ _ _ _ _ => dts_nil) (fun _ _ _ _ _ => (de_tup (da_cons (de_op o_add (de_var 14) (de_var 6)) (da_cons (de_op o_add (de_var 15) (de_var 7)) (da_cons (de_op o_add (de_var 16) (de_var 8)) da_nil))))))))
    (dss_cons (ds_if (dt_w (dw_or (dt_cmp (o_ne hr.units) (de_callF (F_least_body.mono (by decide)) hr (by rfl) (da_cons (de_var 9) da_nil)) (de_var 5) (nomark _)) (dw_or1 (dt_cmp (o_ne hr.units) (de_callF (F_least_body.mono (by decide)) hr (by rfl) (da_cons (de_var 10) da_nil)) (de_var 5) (nomark _))))) (dss_one (ds_ret de_bl)) dss_nil)
    (dss_cons (ds_set (i := 11) sc_law.nd rfl (by first | exact Or.inl rfl | exact Or.inr rfl) (de_callF (F_L_other.mono (by decide)) hr (by rfl) (da_cons (de_var 2) (da_cons (de_var 3) da_nil))))
    (dss_one (ds_if (dt_cmp (o_ne hr.units) (de_cmp (o_eq hr.units) (de_callF (F_least_body.mono (by decide)) hr (by rfl) (da_cons (de_var 11) da_nil)) (de_var 5) (nomark _)) (de_cmp (o_in hr.units65) (de_callF (F_L_home.mono (by decide)) hr (by rfl) (da_cons (de_var 11) da_nil)) (de_var 4) rfl) (nomark _)) (dss_one (ds_ret de_bl)) dss_nil)))))))))))))
    (dss_one (ds_ret de_bl)))
def spLaw (K : PySem.W.Frag) : Sp := fun vs H Q _ => ∃ (a : Addr) (ns : List Int), vs = [.ref a] ∧ ScAt K H a (ns.map V.int) ∧ ns.length ≤ 63 ∧ ∀ H', Q (.bl true) H'
theorem law_sp {P : Program} {w : World} {K : PySem.W.Frag} {mg : Str → Option Value} {base : Heap} {k : Nat} {f : Addr} {fd : FuncData} {ps : List Str} (F : FnG P w K mg base CX0 k f fd ps (spD K 1 m_law)) : FnG P w K mg base CX0 k f fd ps (spLaw K) := by
  refine F.imp fun vs H Q E ⟨a, ns, e, hS, hl, q⟩ => ?_
  subst e
  obtain ⟨hp', eq⟩ := law_pure ns hl
  exact ⟨[], [], [.scr ns], .bl true, hp', rfl, ⟨rfl, List.nodup_nil, fun n o a h _ => by simp at h, fun n x a h _ => by simp at h⟩, by rw [Rps]; exact ⟨_, _, rfl, by rw [Rp]; exact ⟨a, rfl, hS⟩, Rps.nil⟩, eq, fun v H' μ' _ _ r => by rw [r.blE]; exact q H'⟩
set_option maxHeartbeats 0 in
theorem all_mk {l : PySem.W.OpenLaw} {w : World} {K : PySem.W.Frag} {h : Heap} {mg : Str → Option Value} {fa : Addr} (X : K.In h) (G : h.Ns mainGlobals mg) (hfa : mg "law" = some (.ref fa))
    {f0 : Addr} {od0 an0 : Option Addr} {sl0 : Array (Option Value)} {oc0 kV0 dc0 pm0 cd0 ct0 : Value}
    (a0 : PySem.W.nsIn K mainGlobals "beside_cube" = some (some (.ref f0))) (l0 : K.lookup f0 = some ⟨oc0, od0, .func (PySem.W.fnOf "beside_cube" "beside_cube" (defArgs s_beside_cube) (defBody s_beside_cube) (defScope s_beside_cube) .none kV0 dc0 pm0 an0 cd0 ct0), sl0⟩) (c0 : PySem.W.codeIn K cd0 "beside_cube" = true) (k0 : PySem.W.keepIn K (.ref f0) = true)
    {f1 : Addr} {od1 an1 : Option Addr} {sl1 : Array (Option Value)} {oc1 kV1 dc1 pm1 cd1 ct1 : Value}
    (a1 : PySem.W.nsIn K mainGlobals "is_whole" = some (some (.ref f1))) (l1 : K.lookup f1 = some ⟨oc1, od1, .func (PySem.W.fnOf "is_whole" "is_whole" (defArgs s_is_whole) (defBody s_is_whole) (defScope s_is_whole) .none kV1 dc1 pm1 an1 cd1 ct1), sl1⟩) (c1 : PySem.W.codeIn K cd1 "is_whole" = true) (k1 : PySem.W.keepIn K (.ref f1) = true)
    {f2 : Addr} {od2 an2 : Option Addr} {sl2 : Array (Option Value)} {oc2 kV2 dc2 pm2 cd2 ct2 : Value}
    (a2 : PySem.W.nsIn K mainGlobals "is_cube" = some (some (.ref f2))) (l2 : K.lookup f2 = some ⟨oc2, od2, .func (PySem.W.fnOf "is_cube" "is_cube" (defArgs s_is_cube) (defBody s_is_cube) (defScope s_is_cube) .none kV2 dc2 pm2 an2 cd2 ct2), sl2⟩) (c2 : PySem.W.codeIn K cd2 "is_cube" = true) (k2 : PySem.W.keepIn K (.ref f2) = true)
    {f3 : Addr} {od3 an3 : Option Addr} {sl3 : Array (Option Value)} {oc3 kV3 dc3 pm3 cd3 ct3 : Value}
    (a3 : PySem.W.nsIn K mainGlobals "hang_together" = some (some (.ref f3))) (l3 : K.lookup f3 = some ⟨oc3, od3, .func (PySem.W.fnOf "hang_together" "hang_together" (defArgs s_hang_together) (defBody s_hang_together) (defScope s_hang_together) .none kV3 dc3 pm3 an3 cd3 ct3), sl3⟩) (c3 : PySem.W.codeIn K cd3 "hang_together" = true) (k3 : PySem.W.keepIn K (.ref f3) = true)
    {f4 : Addr} {od4 an4 : Option Addr} {sl4 : Array (Option Value)} {oc4 kV4 dc4 pm4 cd4 ct4 : Value}
    (a4 : PySem.W.nsIn K mainGlobals "is_body" = some (some (.ref f4))) (l4 : K.lookup f4 = some ⟨oc4, od4, .func (PySem.W.fnOf "is_body" "is_body" (defArgs s_is_body) (defBody s_is_body) (defScope s_is_body) .none kV4 dc4 pm4 an4 cd4 ct4), sl4⟩) (c4 : PySem.W.codeIn K cd4 "is_body" = true) (k4 : PySem.W.keepIn K (.ref f4) = true)
    {f5 : Addr} {od5 an5 : Option Addr} {sl5 : Array (Option Value)} {oc5 kV5 dc5 pm5 cd5 ct5 : Value}
    (a5 : PySem.W.nsIn K mainGlobals "home" = some (some (.ref f5))) (l5 : K.lookup f5 = some ⟨oc5, od5, .func (PySem.W.fnOf "home" "home" (defArgs s_home) (defBody s_home) (defScope s_home) .none kV5 dc5 pm5 an5 cd5 ct5), sl5⟩) (c5 : PySem.W.codeIn K cd5 "home" = true) (k5 : PySem.W.keepIn K (.ref f5) = true)
    {f6 : Addr} {od6 an6 : Option Addr} {sl6 : Array (Option Value)} {oc6 kV6 dc6 pm6 cd6 ct6 : Value}
    (a6 : PySem.W.nsIn K mainGlobals "third_direction" = some (some (.ref f6))) (l6 : K.lookup f6 = some ⟨oc6, od6, .func (PySem.W.fnOf "third_direction" "third_direction" (defArgs s_third_direction) (defBody s_third_direction) (defScope s_third_direction) .none kV6 dc6 pm6 an6 cd6 ct6), sl6⟩) (c6 : PySem.W.codeIn K cd6 "third_direction" = true) (k6 : PySem.W.keepIn K (.ref f6) = true)
    {f7 : Addr} {od7 an7 : Option Addr} {sl7 : Array (Option Value)} {oc7 kV7 dc7 pm7 cd7 ct7 : Value}
    (a7 : PySem.W.nsIn K mainGlobals "spins" = some (some (.ref f7))) (l7 : K.lookup f7 = some ⟨oc7, od7, .func (PySem.W.fnOf "spins" "spins" (defArgs s_spins) (defBody s_spins) (defScope s_spins) .none kV7 dc7 pm7 an7 cd7 ct7), sl7⟩) (c7 : PySem.W.codeIn K cd7 "spins" = true) (k7 : PySem.W.keepIn K (.ref f7) = true)
    {f8 : Addr} {od8 an8 : Option Addr} {sl8 : Array (Option Value)} {oc8 kV8 dc8 pm8 cd8 ct8 : Value}
    (a8 : PySem.W.nsIn K mainGlobals "spun_cube" = some (some (.ref f8))) (l8 : K.lookup f8 = some ⟨oc8, od8, .func (PySem.W.fnOf "spun_cube" "spun_cube" (defArgs s_spun_cube) (defBody s_spun_cube) (defScope s_spun_cube) .none kV8 dc8 pm8 an8 cd8 ct8), sl8⟩) (c8 : PySem.W.codeIn K cd8 "spun_cube" = true) (k8 : PySem.W.keepIn K (.ref f8) = true)
    {f9 : Addr} {od9 an9 : Option Addr} {sl9 : Array (Option Value)} {oc9 kV9 dc9 pm9 cd9 ct9 : Value}
    (a9 : PySem.W.nsIn K mainGlobals "spun" = some (some (.ref f9))) (l9 : K.lookup f9 = some ⟨oc9, od9, .func (PySem.W.fnOf "spun" "spun" (defArgs s_spun) (defBody s_spun) (defScope s_spun) .none kV9 dc9 pm9 an9 cd9 ct9), sl9⟩) (c9 : PySem.W.codeIn K cd9 "spun" = true) (k9 : PySem.W.keepIn K (.ref f9) = true)
    {f10 : Addr} {od10 an10 : Option Addr} {sl10 : Array (Option Value)} {oc10 kV10 dc10 pm10 cd10 ct10 : Value}
    (a10 : PySem.W.nsIn K mainGlobals "least_body" = some (some (.ref f10))) (l10 : K.lookup f10 = some ⟨oc10, od10, .func (PySem.W.fnOf "least_body" "least_body" (defArgs s_least_body) (defBody s_least_body) (defScope s_least_body) .none kV10 dc10 pm10 an10 cd10 ct10), sl10⟩) (c10 : PySem.W.codeIn K cd10 "least_body" = true) (k10 : PySem.W.keepIn K (.ref f10) = true)
    {f11 : Addr} {od11 an11 : Option Addr} {sl11 : Array (Option Value)} {oc11 kV11 dc11 pm11 cd11 ct11 : Value}
    (a11 : PySem.W.nsIn K mainGlobals "_law_hand" = some (some (.ref f11))) (l11 : K.lookup f11 = some ⟨oc11, od11, .func (PySem.W.fnOf "_law_hand" "_law_hand" (defArgs s_L_hand) (defBody s_L_hand) (defScope s_L_hand) .none kV11 dc11 pm11 an11 cd11 ct11), sl11⟩) (c11 : PySem.W.codeIn K cd11 "_law_hand" = true) (k11 : PySem.W.keepIn K (.ref f11) = true)
    {f12 : Addr} {od12 an12 : Option Addr} {sl12 : Array (Option Value)} {oc12 kV12 dc12 pm12 cd12 ct12 : Value}
    (a12 : PySem.W.nsIn K mainGlobals "_law_take" = some (some (.ref f12))) (l12 : K.lookup f12 = some ⟨oc12, od12, .func (PySem.W.fnOf "_law_take" "_law_take" (defArgs s_L_take) (defBody s_L_take) (defScope s_L_take) .none kV12 dc12 pm12 an12 cd12 ct12), sl12⟩) (c12 : PySem.W.codeIn K cd12 "_law_take" = true) (k12 : PySem.W.keepIn K (.ref f12) = true)
    {f13 : Addr} {od13 an13 : Option Addr} {sl13 : Array (Option Value)} {oc13 kV13 dc13 pm13 cd13 ct13 : Value}
    (a13 : PySem.W.nsIn K mainGlobals "_law_pick" = some (some (.ref f13))) (l13 : K.lookup f13 = some ⟨oc13, od13, .func (PySem.W.fnOf "_law_pick" "_law_pick" (defArgs s_L_pick) (defBody s_L_pick) (defScope s_L_pick) .none kV13 dc13 pm13 an13 cd13 ct13), sl13⟩) (c13 : PySem.W.codeIn K cd13 "_law_pick" = true) (k13 : PySem.W.keepIn K (.ref f13) = true)
    {f14 : Addr} {od14 an14 : Option Addr} {sl14 : Array (Option Value)} {oc14 kV14 dc14 pm14 cd14 ct14 : Value}
    (a14 : PySem.W.nsIn K mainGlobals "_law_beside" = some (some (.ref f14))) (l14 : K.lookup f14 = some ⟨oc14, od14, .func (PySem.W.fnOf "_law_beside" "_law_beside" (defArgs s_L_beside) (defBody s_L_beside) (defScope s_L_beside) .none kV14 dc14 pm14 an14 cd14 ct14), sl14⟩) (c14 : PySem.W.codeIn K cd14 "_law_beside" = true) (k14 : PySem.W.keepIn K (.ref f14) = true)
    {f15 : Addr} {od15 an15 : Option Addr} {sl15 : Array (Option Value)} {oc15 kV15 dc15 pm15 cd15 ct15 : Value}
    (a15 : PySem.W.nsIn K mainGlobals "_law_begun" = some (some (.ref f15))) (l15 : K.lookup f15 = some ⟨oc15, od15, .func (PySem.W.fnOf "_law_begun" "_law_begun" (defArgs s_L_begun) (defBody s_L_begun) (defScope s_L_begun) .none kV15 dc15 pm15 an15 cd15 ct15), sl15⟩) (c15 : PySem.W.codeIn K cd15 "_law_begun" = true) (k15 : PySem.W.keepIn K (.ref f15) = true)
    {f16 : Addr} {od16 an16 : Option Addr} {sl16 : Array (Option Value)} {oc16 kV16 dc16 pm16 cd16 ct16 : Value}
    (a16 : PySem.W.nsIn K mainGlobals "_law_body" = some (some (.ref f16))) (l16 : K.lookup f16 = some ⟨oc16, od16, .func (PySem.W.fnOf "_law_body" "_law_body" (defArgs s_L_body) (defBody s_L_body) (defScope s_L_body) .none kV16 dc16 pm16 an16 cd16 ct16), sl16⟩) (c16 : PySem.W.codeIn K cd16 "_law_body" = true) (k16 : PySem.W.keepIn K (.ref f16) = true)
    {f17 : Addr} {od17 an17 : Option Addr} {sl17 : Array (Option Value)} {oc17 kV17 dc17 pm17 cd17 ct17 : Value}
    (a17 : PySem.W.nsIn K mainGlobals "_law_home" = some (some (.ref f17))) (l17 : K.lookup f17 = some ⟨oc17, od17, .func (PySem.W.fnOf "_law_home" "_law_home" (defArgs s_L_home) (defBody s_L_home) (defScope s_L_home) .none kV17 dc17 pm17 an17 cd17 ct17), sl17⟩) (c17 : PySem.W.codeIn K cd17 "_law_home" = true) (k17 : PySem.W.keepIn K (.ref f17) = true)
    {f18 : Addr} {od18 an18 : Option Addr} {sl18 : Array (Option Value)} {oc18 kV18 dc18 pm18 cd18 ct18 : Value}
    (a18 : PySem.W.nsIn K mainGlobals "_law_other" = some (some (.ref f18))) (l18 : K.lookup f18 = some ⟨oc18, od18, .func (PySem.W.fnOf "_law_other" "_law_other" (defArgs s_L_other) (defBody s_L_other) (defScope s_L_other) .none kV18 dc18 pm18 an18 cd18 ct18), sl18⟩) (c18 : PySem.W.codeIn K cd18 "_law_other" = true) (k18 : PySem.W.keepIn K (.ref f18) = true)
    {f19 : Addr} {od19 an19 : Option Addr} {sl19 : Array (Option Value)} {oc19 kV19 dc19 pm19 cd19 ct19 : Value}
    (a19 : PySem.W.nsIn K mainGlobals "law" = some (some (.ref f19))) (l19 : K.lookup f19 = some ⟨oc19, od19, .func (PySem.W.fnOf "law" "law" (defArgs s_law) (defBody s_law) (defScope s_law) .none kV19 dc19 pm19 an19 cd19 ct19), sl19⟩) (c19 : PySem.W.codeIn K cd19 "law" = true) (k19 : PySem.W.keepIn K (.ref f19) = true)
    (z_isinstance : PySem.W.nsIn K mainGlobals "isinstance" = some none)
    (z_int : PySem.W.nsIn K mainGlobals "int" = some none)
    (z_bool : PySem.W.nsIn K mainGlobals "bool" = some none)
    (z_tuple : PySem.W.nsIn K mainGlobals "tuple" = some none)
    (z_len : PySem.W.nsIn K mainGlobals "len" = some none)
    (z_all : PySem.W.nsIn K mainGlobals "all" = some none)
    (z_dict : PySem.W.nsIn K mainGlobals "dict" = some none)
    (z_range : PySem.W.nsIn K mainGlobals "range" = some none)
    (z_zip : PySem.W.nsIn K mainGlobals "zip" = some none)
    (z_min : PySem.W.nsIn K mainGlobals "min" = some none)
    (z_sorted : PySem.W.nsIn K mainGlobals "sorted" = some none)
    (z_set : PySem.W.nsIn K mainGlobals "set" = some none)
    (z_max : PySem.W.nsIn K mainGlobals "max" = some none)
    {t_MOST_CUBES : Tok} (g_MOST_CUBES : PySem.W.nsIn K mainGlobals "MOST_CUBES" = some (some (.int 30 t_MOST_CUBES)))
    {t_FARTHEST : Tok} (g_FARTHEST : PySem.W.nsIn K mainGlobals "FARTHEST" = some (some (.int 100 t_FARTHEST)))
    {t_DIRECTIONS : Tok} (g_DIRECTIONS : PySem.W.nsIn K mainGlobals "DIRECTIONS" = some (some (.int 6 t_DIRECTIONS))) :
    ∃ fd : FuncData, (∀ (s : Shared) (v : Value), BindsTo s fd ⟨[v], []⟩ [("_law_script", v)]) ∧ ∀ base : Heap, K.In base → base.Ns mainGlobals mg → FnG l.prog w K mg base CX0 5 fa fd ["_law_script"] (spLaw K) := by
  have e := hfa.symm.trans (PySem.W.mg_of X G a19)
  cases e
  have B : Bi mg := ⟨PySem.W.mg_none_of X G z_isinstance, PySem.W.mg_none_of X G z_int, PySem.W.mg_none_of X G z_bool, PySem.W.mg_none_of X G z_tuple, PySem.W.mg_none_of X G z_len, PySem.W.mg_none_of X G z_all, PySem.W.mg_none_of X G z_dict, PySem.W.mg_none_of X G z_range, PySem.W.mg_none_of X G z_zip, PySem.W.mg_none_of X G z_min, PySem.W.mg_none_of X G z_sorted, PySem.W.mg_none_of X G z_set, PySem.W.mg_none_of X G z_max⟩
  have C : Ks K mg := ⟨⟨_, .int (30), PySem.W.mg_of X G g_MOST_CUBES, ⟨_, rfl⟩, fun _ _ => Rp.int⟩, ⟨_, .int (100), PySem.W.mg_of X G g_FARTHEST, ⟨_, rfl⟩, fun _ _ => Rp.int⟩, ⟨_, .int (6), PySem.W.mg_of X G g_DIRECTIONS, ⟨_, rfl⟩, fun _ _ => Rp.int⟩⟩
  have F0 := fun_mk (st := s_beside_cube) l0 c0 k0
  have b0 := F0.binds (ps := ["cube", "d"]) fun _ _ _ _ _ _ us hl => match us, hl with | [_, _], _ => rfl
  have G_beside_cube := fun (base : Heap) => (ok_beside_cube (P := l.prog) (w := w) (base := base) B C F0 (PySem.W.mg_of X G a0) b0).cl con_beside_cube
  have F1 := fun_mk (st := s_is_whole) l1 c1 k1
  have b1 := F1.binds (ps := ["thing"]) fun _ _ _ _ _ _ us hl => match us, hl with | [_], _ => rfl
  have G_is_whole := fun (base : Heap) => (ok_is_whole (P := l.prog) (w := w) (base := base) B C F1 (PySem.W.mg_of X G a1) b1)
  have F2 := fun_mk (st := s_is_cube) l2 c2 k2
  have b2 := F2.binds (ps := ["thing"]) fun _ _ _ _ _ _ us hl => match us, hl with | [_], _ => rfl
  have G_is_cube := fun (base : Heap) => (ok_is_cube (P := l.prog) (w := w) (base := base) B C F2 (PySem.W.mg_of X G a2) b2 (G_is_whole base)).cl con_is_cube
  have F3 := fun_mk (st := s_hang_together) l3 c3 k3
  have b3 := F3.binds (ps := ["cubes"]) fun _ _ _ _ _ _ us hl => match us, hl with | [_], _ => rfl
  have G_hang_together := fun (base : Heap) => (ok_hang_together (P := l.prog) (w := w) (base := base) B C F3 (PySem.W.mg_of X G a3) b3 (G_beside_cube base)).cl con_hang_together
  have F4 := fun_mk (st := s_is_body) l4 c4 k4
  have b4 := F4.binds (ps := ["thing"]) fun _ _ _ _ _ _ us hl => match us, hl with | [_], _ => rfl
  have G_is_body := fun (base : Heap) => (ok_is_body (P := l.prog) (w := w) (base := base) B C F4 (PySem.W.mg_of X G a4) b4 (G_hang_together base) (G_is_cube base)).cl con_is_body
  have F5 := fun_mk (st := s_home) l5 c5 k5
  have b5 := F5.binds (ps := ["body"]) fun _ _ _ _ _ _ us hl => match us, hl with | [_], _ => rfl
  have G_home := fun (base : Heap) => (ok_home (P := l.prog) (w := w) (base := base) B C F5 (PySem.W.mg_of X G a5) b5).cl con_home
  have F6 := fun_mk (st := s_third_direction) l6 c6 k6
  have b6 := F6.binds (ps := ["one", "other"]) fun _ _ _ _ _ _ us hl => match us, hl with | [_, _], _ => rfl
  have G_third_direction := fun (base : Heap) => (ok_third_direction (P := l.prog) (w := w) (base := base) B C F6 (PySem.W.mg_of X G a6) b6).cl con_third_direction
  have F7 := fun_mk (st := s_spins) l7 c7 k7
  have b7 := F7.binds (ps := []) fun _ _ _ _ _ _ us hl => match us, hl with | [], _ => rfl
  have G_spins := fun (base : Heap) => (ok_spins (P := l.prog) (w := w) (base := base) B C F7 (PySem.W.mg_of X G a7) b7 (G_third_direction base)).cl con_spins
  have F8 := fun_mk (st := s_spun_cube) l8 c8 k8
  have b8 := F8.binds (ps := ["cube", "spin"]) fun _ _ _ _ _ _ us hl => match us, hl with | [_, _], _ => rfl
  have G_spun_cube := fun (base : Heap) => (ok_spun_cube (P := l.prog) (w := w) (base := base) B C F8 (PySem.W.mg_of X G a8) b8).cl con_spun_cube
  have F9 := fun_mk (st := s_spun) l9 c9 k9
  have b9 := F9.binds (ps := ["body", "spin"]) fun _ _ _ _ _ _ us hl => match us, hl with | [_, _], _ => rfl
  have G_spun := fun (base : Heap) => (ok_spun (P := l.prog) (w := w) (base := base) B C F9 (PySem.W.mg_of X G a9) b9 (G_home base) (G_spun_cube base)).cl con_spun
  have F10 := fun_mk (st := s_least_body) l10 c10 k10
  have b10 := F10.binds (ps := ["body"]) fun _ _ _ _ _ _ us hl => match us, hl with | [_], _ => rfl
  have G_least_body := fun (base : Heap) => (ok_least_body (P := l.prog) (w := w) (base := base) B C F10 (PySem.W.mg_of X G a10) b10 (G_spins base) (G_spun base)).cl con_least_body
  have F11 := fun_mk (st := s_L_hand) l11 c11 k11
  have b11 := F11.binds (ps := ["_law_script", "_law_k"]) fun _ _ _ _ _ _ us hl => match us, hl with | [_, _], _ => rfl
  have G_L_hand := fun (base : Heap) => (ok_L_hand (P := l.prog) (w := w) (base := base) B C F11 (PySem.W.mg_of X G a11) b11).cl con_L_hand
  have F12 := fun_mk (st := s_L_take) l12 c12 k12
  have b12 := F12.binds (ps := ["_law_hand_here", "_law_many"]) fun _ _ _ _ _ _ us hl => match us, hl with | [_, _], _ => rfl
  have G_L_take := fun (base : Heap) => (ok_L_take (P := l.prog) (w := w) (base := base) B C F12 (PySem.W.mg_of X G a12) b12).cl con_L_take
  have F13 := fun_mk (st := s_L_pick) l13 c13 k13
  have b13 := F13.binds (ps := ["_law_hand_here", "_law_some"]) fun _ _ _ _ _ _ us hl => match us, hl with | [_, _], _ => rfl
  have G_L_pick := fun (base : Heap) => (ok_L_pick (P := l.prog) (w := w) (base := base) B C F13 (PySem.W.mg_of X G a13) b13 (G_L_take base))
  have F14 := fun_mk (st := s_L_beside) l14 c14 k14
  have b14 := F14.binds (ps := ["_law_cube", "_law_d"]) fun _ _ _ _ _ _ us hl => match us, hl with | [_, _], _ => rfl
  have G_L_beside := fun (base : Heap) => (ok_L_beside (P := l.prog) (w := w) (base := base) B C F14 (PySem.W.mg_of X G a14) b14).cl con_L_beside
  have F15 := fun_mk (st := s_L_begun) l15 c15 k15
  have b15 := F15.binds (ps := ["_law_hand_here"]) fun _ _ _ _ _ _ us hl => match us, hl with | [_], _ => rfl
  have G_L_begun := fun (base : Heap) => (ok_L_begun (P := l.prog) (w := w) (base := base) B C F15 (PySem.W.mg_of X G a15) b15 (G_L_take base)).cl con_L_begun
  have F16 := fun_mk (st := s_L_body) l16 c16 k16
  have b16 := F16.binds (ps := ["_law_hand_here", "_law_most"]) fun _ _ _ _ _ _ us hl => match us, hl with | [_, _], _ => rfl
  have G_L_body := fun (base : Heap) => (ok_L_body (P := l.prog) (w := w) (base := base) B C F16 (PySem.W.mg_of X G a16) b16 (G_L_begun base) (G_L_beside base) (G_L_pick base) (G_L_take base)).cl con_L_body
  have F17 := fun_mk (st := s_L_home) l17 c17 k17
  have b17 := F17.binds (ps := ["_law_cubes"]) fun _ _ _ _ _ _ us hl => match us, hl with | [_], _ => rfl
  have G_L_home := fun (base : Heap) => (ok_L_home (P := l.prog) (w := w) (base := base) B C F17 (PySem.W.mg_of X G a17) b17).cl con_L_home
  have F18 := fun_mk (st := s_L_other) l18 c18 k18
  have b18 := F18.binds (ps := ["_law_hand_here", "_law_body_here"]) fun _ _ _ _ _ _ us hl => match us, hl with | [_, _], _ => rfl
  have G_L_other := fun (base : Heap) => (ok_L_other (P := l.prog) (w := w) (base := base) B C F18 (PySem.W.mg_of X G a18) b18 (G_L_beside base) (G_L_pick base) (G_L_take base) (G_is_body base) (G_spins base) (G_spun base)).cl con_L_other
  have F19 := fun_mk (st := s_law) l19 c19 k19
  have b19 := F19.binds (ps := ["_law_script"]) fun _ _ _ _ _ _ us hl => match us, hl with | [_], _ => rfl
  refine ⟨PySem.W.fnOf "law" "law" (defArgs s_law) (defBody s_law) (defScope s_law) .none kV19 dc19 pm19 an19 cd19 ct19, fun s v => .of_eq rfl, fun base _ _ => ?_⟩
  have FL := fn_def (P := l.prog) (w := w) (mg := mg) (base := base) (k := 4) (N := N_law) (ps := ["_law_script"]) (fb := b_law) F19 sc_law
    (fun cdv A outer s H E hr => body_law B C (G_L_body base) (G_L_hand base) (G_L_home base) (G_L_other base) (G_L_pick base) (G_L_take base) (G_home base) (G_least_body base) (G_spins base) (G_spun base) hr)
  exact law_sp FL
end Lw
open PySem PySem.W PyProof.Rows
set_option maxRecDepth 100000 in
set_option maxHeartbeats 0 in
theorem PySem.Challenge.cw_flatbody_k06_whole_least_bodies_holds : PySem.Challenge.rw_flatbody_k06_whole_least_bodies.Holds := by
  w_on; o_law; k_head; (case hw => w_witness2)
  k_fill
  refine Ve.walk_ofG (l := PySem.Challenge.rw_flatbody_k06_whole_least_bodies) (n := 63) (k := 5) (x := "_law_script") (CX := fun _ => L2.CX0) (sp := fun w => Lw.spLaw _) rfl (by decide) rfl ⟨⟨rfl, by decide, by decide⟩, rfl⟩ (fun w h Y => PySem.W.kIn_of Y) ?F (fun _ _ a ns hl ho hS => ⟨a, ns, rfl, Ve.scAt_of ho hS, hl, fun _ => rfl⟩) (fun _ _ _ _ _ h => h)
  case F =>
    intro w mg fa h KX G hmg
    refine' Lw.all_mk KX G hmg ?a0 ?l0 ?c0 ?k0 ?a1 ?l1 ?c1 ?k1 ?a2 ?l2 ?c2 ?k2 ?a3 ?l3 ?c3 ?k3 ?a4 ?l4 ?c4 ?k4 ?a5 ?l5 ?c5 ?k5 ?a6 ?l6 ?c6 ?k6 ?a7 ?l7 ?c7 ?k7 ?a8 ?l8 ?c8 ?k8 ?a9 ?l9 ?c9 ?k9 ?a10 ?l10 ?c10 ?k10 ?a11 ?l11 ?c11 ?k11 ?a12 ?l12 ?c12 ?k12 ?a13 ?l13 ?c13 ?k13 ?a14 ?l14 ?c14 ?k14 ?a15 ?l15 ?c15 ?k15 ?a16 ?l16 ?c16 ?k16 ?a17 ?l17 ?c17 ?k17 ?a18 ?l18 ?c18 ?k18 ?a19 ?l19 ?c19 ?k19 ?z_isinstance ?z_int ?z_bool ?z_tuple ?z_len ?z_all ?z_dict ?z_range ?z_zip ?z_min ?z_sorted ?z_set ?z_max ?g_MOST_CUBES ?g_FARTHEST ?g_DIRECTIONS
    (case a0 => k_is); (case l0 => k_is); (case c0 => k_is); (case k0 => k_is); (case a1 => k_is); (case l1 => k_is); (case c1 => k_is); (case k1 => k_is); (case a2 => k_is); (case l2 => k_is); (case c2 => k_is); (case k2 => k_is); (case a3 => k_is); (case l3 => k_is); (case c3 => k_is); (case k3 => k_is); (case a4 => k_is); (case l4 => k_is); (case c4 => k_is); (case k4 => k_is); (case a5 => k_is); (case l5 => k_is); (case c5 => k_is); (case k5 => k_is); (case a6 => k_is); (case l6 => k_is); (case c6 => k_is); (case k6 => k_is); (case a7 => k_is); (case l7 => k_is); (case c7 => k_is); (case k7 => k_is); (case a8 => k_is); (case l8 => k_is); (case c8 => k_is); (case k8 => k_is); (case a9 => k_is); (case l9 => k_is); (case c9 => k_is); (case k9 => k_is); (case a10 => k_is); (case l10 => k_is); (case c10 => k_is); (case k10 => k_is); (case a11 => k_is); (case l11 => k_is); (case c11 => k_is); (case k11 => k_is); (case a12 => k_is); (case l12 => k_is); (case c12 => k_is); (case k12 => k_is); (case a13 => k_is); (case l13 => k_is); (case c13 => k_is); (case k13 => k_is); (case a14 => k_is); (case l14 => k_is); (case c14 => k_is); (case k14 => k_is); (case a15 => k_is); (case l15 => k_is); (case c15 => k_is); (case k15 => k_is); (case a16 => k_is); (case l16 => k_is); (case c16 => k_is); (case k16 => k_is); (case a17 => k_is); (case l17 => k_is); (case c17 => k_is); (case k17 => k_is); (case a18 => k_is); (case l18 => k_is); (case c18 => k_is); (case k18 => k_is); (case a19 => k_is); (case l19 => k_is); (case c19 => k_is); (case k19 => k_is); (case z_isinstance => k_is); (case z_int => k_is); (case z_bool => k_is); (case z_tuple => k_is); (case z_len => k_is); (case z_all => k_is); (case z_dict => k_is); (case z_range => k_is); (case z_zip => k_is); (case z_min => k_is); (case z_sorted => k_is); (case z_set => k_is); (case z_max => k_is); (case g_MOST_CUBES => k_is); (case g_FARTHEST => k_is); (case g_DIRECTIONS => k_is)
